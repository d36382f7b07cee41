import PyProof.Rows.All
import Wide.All
import OpenK.AllK
import Wide.FinOn
import HandS.ForMost
import HandS.ForExc
import HandS.CallSlots
import HandS.Defaults
import HandS.Evl
import HandS.SortInts
import HandS.OwnEq
import HandS.ClsMeth
import HandS.HeadHook1
import KE.KCallOwn
import KE.KOpsOwn
import PyProof.ListStr
import HandS.ExcOwn
import HandS.IsInst
import HandS.ExcIs
import HandS.ExcField
import HandS.Codes
import KE.KStateDown
import HandS.Words
import HandS.WordsExc
import HandS.Head0
import HandS.Head1
import HandS.Head2
import HandS.HeadEnd
import HandS.HeadHook2
import HandS.EndBits
import KE.KOwnIter
import HandS.OwnIter
import HandS.IterVal
import HandS.GenBody
import HandS.GenYield
import HandS.GenCall
import HandS.GenList
import HandS.Dict
import PyProof.StrOps2
import HandS.Star
import KE.KeyNested
import KE.KDictKeyed
import HandS.SetFor
import HandS.Strs
import HandS.WordsDict
import HandS.TupLen
import HandS.DictComp
import HandS.SetKeys
import HandS.Deep
import HandS.Comp
import HandS.Conv
import KE.KxField
import HandS.FStr
import HandS.StrMore
import HandS.Text
import PySem.Challenge.RW_looksback_k23_block_text
set_option Elab.async false
set_option linter.all false
set_option maxRecDepth 100000
set_option maxHeartbeats 2000000
namespace Py
open PySem PySem.Spec PyProof.Rows L2

/-! ### heaps that grow -/
abbrev Ex (H H' : Hp) : Prop := ∀ a o, H a = some o → H' a = some o
theorem Ex.rf (H : Hp) : Ex H H := fun _ _ h => h
theorem Ex.tr {H H1 H2 : Hp} (a : Ex H H1) (b : Ex H1 H2) : Ex H H2 := fun x o h => b x o (a x o h)
theorem Ex.new {H : Hp} {p : Addr} {o : HO} (h : H p = none) : Ex H (upd H p o) := fun a u e => by
  rw [upd_ne (ne_of_none e h)]
  exact e
theorem Ex.free {H H' : Hp} {p : Addr} (e : Ex H H') (h : H' p = none) : H p = none := by
  cases h1 : H p with
  | none => rfl
  | some o => rw [e p o h1] at h; cases h
theorem ex_rd {H H' : Hp} {a : Addr} {u : HO} (e : Ex H H') (h : Rd H a u) : Rd H' a u := by
  rcases h with h | ⟨o, h⟩
  · exact Or.inl (e a _ h)
  · exact Or.inr ⟨o, e a _ h⟩
theorem ex_l {K : PySem.W.Frag} {H H' : Hp} {a : Addr} {xs : List V} (e : Ex H H') (h : SqL K H a xs) : SqL K H' a xs := by
  rcases h with h | h
  · exact Or.inl (ex_rd e h)
  · exact Or.inr h
theorem ex_t {K : PySem.W.Frag} {H H' : Hp} {a : Addr} {xs : List V} (e : Ex H H') (h : SqT K H a xs) : SqT K H' a xs := by
  rcases h with h | h
  · exact Or.inl (ex_rd e h)
  · exact Or.inr h
theorem sq_of {K : PySem.W.Frag} {H : Hp} {a : Addr} {xs : List V} (h : H a = some (.lst xs)) : SqL K H a xs := Or.inl (Or.inl h)
theorem st_of {K : PySem.W.Frag} {H : Hp} {a : Addr} {xs : List V} (h : H a = some (.tup xs)) : SqT K H a xs := Or.inl (Or.inl h)

/-! ### how a value bears a datum -/
class Rep (α : Type) where
  rp : PySem.W.Frag → Hp → V → α → Prop
  mono : ∀ {K F F' v a}, Ex F F' → rp K F v a → rp K F' v a
inductive Pr.{u, v} {α : Type u} {β : Type v} (R : α → β → Prop) : List α → List β → Prop
  | nil : Pr R [] []
  | cons {a b as bs} (h : R a b) (t : Pr R as bs) : Pr R (a :: as) (b :: bs)
section
universe u v
variable {α : Type u} {β : Type v} {R R' : α → β → Prop} {as as' : List α} {bs bs' : List β}
theorem Pr.imp (h : Pr R as bs) (f : ∀ a b, R a b → R' a b) : Pr R' as bs := by
  induction h with
  | nil => exact .nil
  | cons h _ ih => exact .cons (f _ _ h) ih
theorem Pr.length (h : Pr R as bs) : as.length = bs.length := by
  induction h with
  | nil => rfl
  | cons _ _ ih => simp [ih]
theorem Pr.append (h : Pr R as bs) (h' : Pr R as' bs') : Pr R (as ++ as') (bs ++ bs') := by
  induction h with
  | nil => exact h'
  | cons h _ ih => exact .cons h ih
theorem Pr.get (h : Pr R as bs) : ∀ {i : Nat} {b : β}, bs[i]? = some b → ∃ a, as[i]? = some a ∧ R a b := by
  induction h with
  | nil => intro i b e; simp at e
  | cons h _ ih =>
    intro i b e
    cases i with
    | zero => simp at e; subst e; exact ⟨_, rfl, h⟩
    | succ i => simp at e; obtain ⟨a, h1, h2⟩ := ih e; exact ⟨a, by simpa using h1, h2⟩
theorem Pr.getL (h : Pr R as bs) : ∀ {i : Nat} {a : α}, as[i]? = some a → ∃ b, bs[i]? = some b ∧ R a b := by
  induction h with
  | nil => intro i b e; simp at e
  | cons h _ ih =>
    intro i b e
    cases i with
    | zero => simp at e; subst e; exact ⟨_, rfl, h⟩
    | succ i => simp at e; obtain ⟨a, h1, h2⟩ := ih e; exact ⟨a, by simpa using h1, h2⟩
theorem Pr.set {a : α} {b : β} (r : R a b) (h : Pr R as bs) : ∀ i : Nat, Pr R (as.set i a) (bs.set i b) := by
  induction h with
  | nil => intro i; exact .nil
  | cons h t ih =>
    intro i
    cases i with
    | zero => exact .cons r t
    | succ i => exact .cons h (ih i)
theorem Pr.take (h : Pr R as bs) : ∀ n : Nat, Pr R (as.take n) (bs.take n) := by
  induction h with
  | nil => intro n; cases n <;> exact .nil
  | cons h t ih => intro n; cases n with | zero => exact .nil | succ n => exact .cons h (ih n)
theorem Pr.drop (h : Pr R as bs) : ∀ n : Nat, Pr R (as.drop n) (bs.drop n) := by
  induction h with
  | nil => intro n; cases n <;> exact .nil
  | cons h t ih => intro n; cases n with | zero => exact .cons h t | succ n => exact ih n
theorem Pr.map1 {γ : Type u} {f : γ → α} {cs : List γ} (h : Pr (fun c b => R (f c) b) cs bs) : Pr R (cs.map f) bs := by
  induction h with
  | nil => exact .nil
  | cons h _ ih => exact .cons h ih
theorem Pr.map2 {γ : Type v} {f : γ → β} {cs : List γ} (h : Pr (fun a c => R a (f c)) as cs) : Pr R as (cs.map f) := by
  induction h with
  | nil => exact .nil
  | cons h _ ih => exact .cons h ih
end

theorem Pr.diag.{u} {α : Type u} {R : α → α → Prop} (h : ∀ a, R a a) : ∀ l : List α, Pr R l l
  | [] => .nil
  | a :: l => .cons (h a) (Pr.diag h l)

instance : Rep Int := ⟨fun _ _ v a => v = .int a, fun _ h => h⟩
instance : Rep Bool := ⟨fun _ _ v a => v = .bl a, fun _ h => h⟩
/-- a text of a size and of signs that the machine has -/
structure SOk (a : Str) : Prop where
  le : a.length ≤ sizeLine
  ok : a.cps.toList.all (fun c => decide (c < 0x110000)) = true
instance : Rep Str := ⟨fun _ _ v a => v = .str a ∧ SOk a, fun _ h => h⟩
instance : Rep Unit := ⟨fun _ _ v _ => v = .non, fun _ h => h⟩
instance {α : Type} [Rep α] : Rep (Option α) := ⟨fun K F v a => match a with | none => v = .non | some a => Rep.rp K F v a, fun {K F F' v a} e h => by
  cases a with
  | none => exact h
  | some a => exact Rep.mono e h⟩
instance {α : Type} [Rep α] : Rep (List α) := ⟨fun K F v a => ∃ p vs, v = .ref p ∧ F p = some (.lst vs) ∧ Pr (Rep.rp K F) vs a ∧ a.length ≤ sizeLine, fun e ⟨p, vs, h1, h2, h3, h4⟩ => ⟨p, vs, h1, e _ _ h2, h3.imp (fun _ _ => Rep.mono e), h4⟩⟩
/-- the law's own script -/
structure Scr where
  l : List Int
instance : Rep Scr := ⟨fun K F v a => ∃ p, v = .ref p ∧ SqL K F p (a.l.map V.int) ∧ a.l.length ≤ 63, fun e ⟨p, h1, h2, h3⟩ => ⟨p, h1, ex_l e h2, h3⟩⟩
/-- a tuple of things of one kind -/
structure Tup (α : Type) where
  l : List α
deriving DecidableEq
instance {α : Type} [Rep α] : Rep (Tup α) := ⟨fun K F v a => ∃ p vs, v = .ref p ∧ SqT K F p vs ∧ Pr (Rep.rp K F) vs a.l ∧ a.l.length ≤ sizeLine, fun e ⟨p, vs, h1, h2, h3, h4⟩ => ⟨p, vs, h1, ex_t e h2, h3.imp (fun _ _ => Rep.mono e), h4⟩⟩
structure P2 (α β : Type) where
  a : α
  b : β
deriving DecidableEq
structure P3 (α β γ : Type) where
  a : α
  b : β
  c : γ
deriving DecidableEq
instance {α β : Type} [Rep α] [Rep β] : Rep (P2 α β) := ⟨fun K F v a => ∃ p x y, v = .ref p ∧ SqT K F p [x, y] ∧ Rep.rp K F x a.a ∧ Rep.rp K F y a.b, fun e ⟨p, x, y, h1, h2, h3, h4⟩ => ⟨p, x, y, h1, ex_t e h2, Rep.mono e h3, Rep.mono e h4⟩⟩
instance {α β γ : Type} [Rep α] [Rep β] [Rep γ] : Rep (P3 α β γ) := ⟨fun K F v a => ∃ p x y z, v = .ref p ∧ SqT K F p [x, y, z] ∧ Rep.rp K F x a.a ∧ Rep.rp K F y a.b ∧ Rep.rp K F z a.c, fun e ⟨p, x, y, z, h1, h2, h3, h4, h5⟩ => ⟨p, x, y, z, h1, ex_t e h2, Rep.mono e h3, Rep.mono e h4, Rep.mono e h5⟩⟩
/-- an address of a thing of one's own -/
structure At where
  p : Addr
instance : Rep At := ⟨fun _ _ v a => v = .ref a.p, fun _ h => h⟩

/-- a typed datum -/
structure Ent where
  {α : Type}
  [i : Rep α]
  a : α
def Ent.rp (e : Ent) (K : PySem.W.Frag) (F : Hp) (v : V) : Prop := e.i.rp K F v e.a
theorem Ent.mono {e : Ent} {K F F' v} (x : Ex F F') (h : e.rp K F v) : e.rp K F' v := e.i.mono x h
abbrev Env := List (Option Ent)
def SlotOk (K : PySem.W.Frag) (F : Hp) : Option V → Option Ent → Prop
  | some v, some e => e.rp K F v
  | none, some _ => False
  | _, none => True
abbrev Slots (K : PySem.W.Frag) (F : Hp) (σ : L2.St) (env : Env) : Prop := Pr (SlotOk K F) σ env
theorem Slots.mono {K F F' σ env} (x : Ex F F') (h : Slots K F σ env) : Slots K F' σ env := h.imp fun a b q => by
  cases a with
  | none => cases b with | none => trivial | some e => exact q
  | some v => cases b with | none => trivial | some e => exact Ent.mono x q
theorem Slots.get {K F σ env} {i : Nat} {e : Ent} (h : Slots K F σ env) (hi : env[i]? = some (some e)) : ∃ v, σ[i]? = some (some v) ∧ e.rp K F v := by
  obtain ⟨o, h1, h2⟩ := Pr.get h hi
  cases o with
  | none => exact h2.elim
  | some v => exact ⟨v, h1, h2⟩
theorem Slots.put {K F σ env} {e : Ent} {v : V} (h : Slots K F σ env) (hv : e.rp K F v) (i : Nat) : Slots K F (σ.set i (some v)) (env.set i (some e)) := Pr.set (R := SlotOk K F) (a := some v) (b := some e) hv h i
theorem Slots.wipe {K F σ env} (h : Slots K F σ env) (i : Nat) (o : Option V) : Slots K F (σ.set i o) (env.set i none) := Pr.set (R := SlotOk K F) (a := o) (b := none) (by cases o <;> trivial) h i

/-! ### what may be written: cells -/
structure Cell where
  ad : List Addr
  ok : PySem.W.Frag → Hp → Hp → Prop
  mono : ∀ {K F F' H H'}, Ex F F' → (∀ a ∈ ad, H' a = H a) → ok K F H → ok K F' H'
  th : ∀ {K F H}, ok K F H → ∀ a ∈ ad, ∃ o, H a = some o

structure Own (K : PySem.W.Frag) (R F H : Hp) (L : List Cell) : Prop where
  fH : Ex F H
  rH : Ex R H
  fr : ∀ a o, R a = some o → F a = none
  ok : ∀ c ∈ L, c.ok K F H
  nd : (L.flatMap Cell.ad).Nodup
  nf : ∀ c ∈ L, ∀ a ∈ c.ad, F a = none
  nr : ∀ c ∈ L, ∀ a ∈ c.ad, R a = none

section
variable {K : PySem.W.Frag} {R F H H' : Hp} {L : List Cell}
/-- the heap has grown: what is new is frozen -/
theorem Own.ext (o : Own K R F H L) (e : Ex H H') : ∃ F', Ex F F' ∧ Own K R F' H' L ∧ ∀ p u, H p = none → H' p = some u → F' p = some u := by
  refine ⟨fun b => if (R b).isSome ∨ b ∈ L.flatMap Cell.ad then none else H' b, fun a u h => ?_, ⟨fun a u h => ?_, o.rH.tr e, fun a u h => ?_, fun c hc => ?_, o.nd, fun c hc a ha => ?_, o.nr⟩, fun p u h1 h2 => ?_⟩
  · have h1 : ¬ ((R a).isSome ∨ a ∈ L.flatMap Cell.ad) := by
      rintro (h1 | h1)
      · cases q : R a with
        | none => rw [q] at h1; cases h1
        | some v => rw [o.fr a v q] at h; cases h
      · obtain ⟨c, hc, ha⟩ := List.mem_flatMap.mp h1
        rw [o.nf c hc a ha] at h; cases h
    show (if _ then none else H' a) = some u
    rw [if_neg h1]
    exact e a u (o.fH a u h)
  · have h : (if (R a).isSome ∨ a ∈ L.flatMap Cell.ad then none else H' a) = some u := h
    split at h
    · cases h
    · exact h
  · show (if _ then none else H' a) = none
    rw [if_pos (Or.inl (by rw [h]; rfl))]
  · refine c.mono (F := F) (H := H) (fun a u h => ?_) (fun a ha => ?_) (o.ok c hc)
    · have h1 : ¬ ((R a).isSome ∨ a ∈ L.flatMap Cell.ad) := by
        rintro (h1 | h1)
        · cases q : R a with
          | none => rw [q] at h1; cases h1
          | some v => rw [o.fr a v q] at h; cases h
        · obtain ⟨c, hc, ha⟩ := List.mem_flatMap.mp h1
          rw [o.nf c hc a ha] at h; cases h
      show (if _ then none else H' a) = some u
      rw [if_neg h1]
      exact e a u (o.fH a u h)
    · obtain ⟨u, hu⟩ := c.th (o.ok c hc) a ha
      rw [hu, e a u hu]
  · show (if _ then none else H' a) = none
    rw [if_pos (Or.inr (List.mem_flatMap.mpr ⟨c, hc, ha⟩))]
  · show (if _ then none else H' p) = some u
    rw [if_neg ?_]
    · exact h2
    · rintro (h3 | h3)
      · cases q : R p with
        | none => rw [q] at h3; cases h3
        | some v => rw [o.rH p v q] at h1; cases h1
      · obtain ⟨c, hc, ha⟩ := List.mem_flatMap.mp h3
        obtain ⟨u', hu⟩ := c.th (o.ok c hc) p ha
        rw [hu] at h1; cases h1
/-- a new frozen object -/
theorem Own.frz (o : Own K R F H L) {p : Addr} {u : HO} (h : H p = none) : Own K R (upd F p u) (upd H p u) L := by
  have hc : ∀ c ∈ L, ∀ a ∈ c.ad, a ≠ p := fun c hc a ha e => by
    obtain ⟨v, hv⟩ := c.th (o.ok c hc) a ha
    rw [e, h] at hv; cases hv
  have hF : F p = none := Ex.free o.fH h
  refine ⟨fun a v q => ?_, o.rH.tr (Ex.new h), fun a v q => ?_, fun c hc' => c.mono (Ex.new hF) (fun a ha => upd_ne (hc c hc' a ha)) (o.ok c hc'), o.nd, fun c hc' a ha => ?_, o.nr⟩
  · by_cases e : a = p
    · subst e; rw [upd_same] at q ⊢; exact q
    · rw [upd_ne e] at q ⊢; exact o.fH a v q
  · have e : a ≠ p := fun e => by subst e; rw [o.rH _ _ q] at h; cases h
    rw [upd_ne e]; exact o.fr a v q
  · rw [upd_ne (hc c hc' a ha)]; exact o.nf c hc' a ha
/-- a new cell -/
theorem Own.cell (o : Own K R F H L) {p : Addr} {u : HO} {c : Cell} (h : H p = none) (ha : c.ad = [p]) (ok : c.ok K F (upd H p u)) : Own K R F (upd H p u) (c :: L) := by
  have hc : ∀ c ∈ L, ∀ a ∈ c.ad, a ≠ p := fun c hc a ha e => by
    obtain ⟨v, hv⟩ := c.th (o.ok c hc) a ha
    rw [e, h] at hv; cases hv
  have hF : F p = none := Ex.free o.fH h
  have hR : R p = none := Ex.free o.rH h
  refine ⟨fun a v q => ?_, o.rH.tr (Ex.new h), o.fr, fun d hd => ?_, ?_, fun d hd a hda => ?_, fun d hd a hda => ?_⟩
  · have e : a ≠ p := fun e => by subst e; rw [hF] at q; cases q
    rw [upd_ne e]; exact o.fH a v q
  · rcases List.mem_cons.mp hd with rfl | hd
    · exact ok
    · exact d.mono (Ex.rf F) (fun a ha => upd_ne (hc d hd a ha)) (o.ok d hd)
  · rw [List.flatMap_cons, ha]
    refine List.nodup_cons.mpr ⟨fun hm => ?_, o.nd⟩
    obtain ⟨d, hd, hda⟩ := List.mem_flatMap.mp hm
    exact hc d hd p hda rfl
  · rcases List.mem_cons.mp hd with rfl | hd
    · rw [ha] at hda; rw [List.mem_singleton.mp hda]; exact hF
    · exact o.nf d hd a hda
  · rcases List.mem_cons.mp hd with rfl | hd
    · rw [ha] at hda; rw [List.mem_singleton.mp hda]; exact hR
    · exact o.nr d hd a hda

/-- one cell is written -/
theorem Own.put (o : Own K R F H L) {k : Nat} {c c' : Cell} (hk : L[k]? = some c) (ha : c'.ad = c.ad) (hs : ∀ b, b ∉ c.ad → H' b = H b) (ok : c'.ok K F H') : Own K R F H' (L.set k c') := by
  obtain ⟨hlt, hek⟩ := List.getElem?_eq_some_iff.mp hk
  have eL : L = L.take k ++ c :: L.drop (k + 1) := by
    rw [← hek]; simp
  have eS : L.set k c' = L.take k ++ c' :: L.drop (k + 1) := by
    rw [List.set_eq_take_append_cons_drop, if_pos hlt]
  have nd := o.nd
  rw [eL] at nd
  simp only [List.flatMap_append, List.flatMap_cons] at nd
  have ncd : ∀ d, d ∈ L.take k ++ L.drop (k + 1) → ∀ a ∈ d.ad, a ∉ c.ad := by
    intro d hd a hda hca
    obtain ⟨n1, n2, n3⟩ := List.nodup_append.mp nd
    obtain ⟨n4, n5, n6⟩ := List.nodup_append.mp n2
    rcases List.mem_append.mp hd with hd | hd
    · exact n3 a (List.mem_flatMap.mpr ⟨d, hd, hda⟩) a (List.mem_append_left _ hca) rfl
    · exact n6 a hca a (List.mem_flatMap.mpr ⟨d, hd, hda⟩) rfl
  have hm : ∀ d, d ∈ L.set k c' → d = c' ∨ (d ∈ L.take k ++ L.drop (k + 1) ∧ d ∈ L) := by
    intro d hd
    rw [eS] at hd
    rcases List.mem_append.mp hd with hd | hd
    · exact Or.inr ⟨List.mem_append_left _ hd, List.mem_of_mem_take hd⟩
    · rcases List.mem_cons.mp hd with hd | hd
      · exact Or.inl hd
      · exact Or.inr ⟨List.mem_append_right _ hd, List.mem_of_mem_drop hd⟩
  have hc : c ∈ L := List.mem_of_getElem? hk
  refine ⟨fun a u h => ?_, fun a u h => ?_, o.fr, fun d hd => ?_, ?_, fun d hd a ha' => ?_, fun d hd a ha' => ?_⟩
  · rw [hs a fun z => by rw [o.nf c hc a z] at h; cases h]; exact o.fH a u h
  · rw [hs a fun z => by rw [o.nr c hc a z] at h; cases h]; exact o.rH a u h
  · rcases hm d hd with rfl | ⟨h1, h2⟩
    · exact ok
    · exact d.mono (Ex.rf F) (fun a ha => hs a (ncd d h1 a ha)) (o.ok d h2)
  · rw [eS]
    simp only [List.flatMap_append, List.flatMap_cons, ha]
    exact nd
  · rcases hm d hd with rfl | ⟨h1, h2⟩
    · exact o.nf c hc a (ha ▸ ha')
    · exact o.nf d h2 a ha'
  · rcases hm d hd with rfl | ⟨h1, h2⟩
    · exact o.nr c hc a (ha ▸ ha')
    · exact o.nr d h2 a ha'
theorem Own.perm {L' : List Cell} (o : Own K R F H L) (p : L'.Perm L) : Own K R F H L' :=
  ⟨o.fH, o.rH, o.fr, fun c hc => o.ok c (p.mem_iff.mp hc), (p.flatMap_right _).nodup_iff.mpr o.nd, fun c hc => o.nf c (p.mem_iff.mp hc), fun c hc => o.nr c (p.mem_iff.mp hc)⟩
/-- cells are dropped: what stands there stands, nobody will write it -/
theorem Own.sub {L1 L2 : List Cell} (o : Own K R F H (L1 ++ L2)) : Own K R F H L2 :=
  ⟨o.fH, o.rH, o.fr, fun c hc => o.ok c (List.mem_append_right _ hc), by
    have := o.nd; rw [List.flatMap_append] at this; exact (List.nodup_append.mp this).2.1, fun c hc => o.nf c (List.mem_append_right _ hc), fun c hc => o.nr c (List.mem_append_right _ hc)⟩
def frame (H F : Hp) (L : List Cell) : Hp := fun b => if (F b).isSome ∨ b ∈ L.flatMap Cell.ad then none else H b
theorem frame_some {L : List Cell} {b : Addr} (h1 : F b = none) (h2 : ∀ c ∈ L, b ∉ c.ad) : frame H F L b = H b := by
  unfold frame
  rw [if_neg]
  rintro (h | h)
  · rw [h1] at h; cases h
  · obtain ⟨c, hc, hb⟩ := List.mem_flatMap.mp h
    exact h2 c hc hb
theorem frame_of {L : List Cell} {b : Addr} {u : HO} (h : frame H F L b = some u) : H b = some u ∧ F b = none ∧ ∀ c ∈ L, b ∉ c.ad := by
  unfold frame at h
  split at h
  · cases h
  · rename_i hn
    refine ⟨h, ?_, fun c hc hb => hn (Or.inr (List.mem_flatMap.mpr ⟨c, hc, hb⟩))⟩
    cases q : F b with
    | none => rfl
    | some v => exact (hn (Or.inl (by rw [q]; rfl))).elim
/-- a callee is handed the cells L1 -/
theorem Own.call {L1 L2 : List Cell} (o : Own K R F H (L1 ++ L2)) : Own K (frame H F L1) F H L1 := by
  refine ⟨o.fH, fun a u h => (frame_of h).1, fun a u h => (frame_of h).2.1, fun c hc => o.ok c (List.mem_append_left _ hc), ?_, fun c hc => o.nf c (List.mem_append_left _ hc), fun c hc a ha => ?_⟩
  · have := o.nd; rw [List.flatMap_append] at this; exact (List.nodup_append.mp this).1
  · cases q : frame H F L1 a with
    | none => rfl
    | some u => exact absurd ha ((frame_of q).2.2 c hc)
theorem Own.back {F' : Hp} {L1 L2 L1' : List Cell} (o : Own K R F H (L1 ++ L2)) (o' : Own K (frame H F L1) F' H' L1') (e : Ex F F') : Own K R F' H' (L1' ++ L2) := by
  have nd := o.nd
  rw [List.flatMap_append] at nd
  obtain ⟨n1, n2, n3⟩ := List.nodup_append.mp nd
  have h2 : ∀ c ∈ L2, ∀ a ∈ c.ad, ∃ u, H a = some u ∧ frame H F L1 a = some u := fun c hc a ha => by
    obtain ⟨u, hu⟩ := c.th (o.ok c (List.mem_append_right _ hc)) a ha
    refine ⟨u, hu, ?_⟩
    rw [frame_some (o.nf c (List.mem_append_right _ hc) a ha) fun d hd hda => n3 a (List.mem_flatMap.mpr ⟨d, hd, hda⟩) a (List.mem_flatMap.mpr ⟨c, hc, ha⟩) rfl]
    exact hu
  have hr : ∀ a u, R a = some u → frame H F L1 a = some u := fun a u h => by
    rw [frame_some (o.fr a u h) fun d hd hda => by rw [o.nr d (List.mem_append_left _ hd) a hda] at h; cases h]
    exact o.rH a u h
  refine ⟨o'.fH, fun a u h => o'.rH a u (hr a u h), fun a u h => o'.fr a u (hr a u h), fun c hc => ?_, ?_, fun c hc a ha => ?_, fun c hc a ha => ?_⟩
  · rcases List.mem_append.mp hc with hc | hc
    · exact o'.ok c hc
    · refine c.mono e (fun a ha => ?_) (o.ok c (List.mem_append_right _ hc))
      obtain ⟨u, h3, h4⟩ := h2 c hc a ha
      rw [h3, o'.rH a u h4]
  · rw [List.flatMap_append]
    refine List.nodup_append.mpr ⟨o'.nd, n2, fun a ha b hb e => ?_⟩
    subst e
    obtain ⟨c, hc, ha⟩ := List.mem_flatMap.mp ha
    obtain ⟨d, hd, hb⟩ := List.mem_flatMap.mp hb
    obtain ⟨u, h3, h4⟩ := h2 d hd a hb
    rw [o'.nr c hc a ha] at h4; cases h4
  · rcases List.mem_append.mp hc with hc | hc
    · exact o'.nf c hc a ha
    · obtain ⟨u, h3, h4⟩ := h2 c hc a ha
      exact o'.fr a u h4
  · rcases List.mem_append.mp hc with hc | hc
    · cases q : R a with
      | none => rfl
      | some u =>
        have h5 := hr a u q
        rw [o'.nr c hc a ha] at h5; cases h5
    · exact o.nr c (List.mem_append_right _ hc) a ha
/-- a cell's content is frozen from now on -/
def jn (F H : Hp) (ad : List Addr) : Hp := fun b => if b ∈ ad then H b else F b
theorem jn_in {ad : List Addr} {b : Addr} (h : b ∈ ad) : jn F H ad b = H b := if_pos h
theorem Own.freeze {c : Cell} (o : Own K R F H (c :: L)) : Ex F (jn F H c.ad) ∧ Own K R (jn F H c.ad) H L ∧ ∀ b ∈ c.ad, jn F H c.ad b = H b := by
  have nd := o.nd
  rw [List.flatMap_cons] at nd
  obtain ⟨n1, n2, n3⟩ := List.nodup_append.mp nd
  have e : Ex F (jn F H c.ad) := fun a u h => by
    unfold jn
    split
    · exact o.fH a u h
    · exact h
  refine ⟨e, ⟨fun a u h => ?_, o.rH, fun a u h => ?_, fun d hd => d.mono e (fun _ _ => rfl) (o.ok d (List.mem_cons_of_mem _ hd)), n2, fun d hd a ha => ?_, fun d hd => o.nr d (List.mem_cons_of_mem _ hd)⟩, fun b hb => if_pos hb⟩
  · unfold jn at h
    split at h
    · exact h
    · exact o.fH a u h
  · unfold jn
    split
    · rename_i ha
      rw [o.nr c List.mem_cons_self a ha] at h; cases h
    · exact o.fr a u h
  · unfold jn
    rw [if_neg fun hc => n3 a hc a (List.mem_flatMap.mpr ⟨d, hd, ha⟩) rfl]
    exact o.nf d (List.mem_cons_of_mem _ hd) a ha
/-- an object that is nobody's: the frame's -/
theorem Own.toR (o : Own K R F H L) {p : Addr} {u : HO} (h : H p = none) : Own K (upd R p u) F (upd H p u) L ∧ R p = none ∧ F p = none := by
  have hc : ∀ c ∈ L, ∀ a ∈ c.ad, a ≠ p := fun c hc a ha e => by
    obtain ⟨v, hv⟩ := c.th (o.ok c hc) a ha
    rw [e, h] at hv; cases hv
  have hF : F p = none := Ex.free o.fH h
  have hR : R p = none := Ex.free o.rH h
  refine ⟨⟨fun a v q => ?_, fun a v q => ?_, fun a v q => ?_, fun d hd => d.mono (Ex.rf F) (fun a ha => upd_ne (hc d hd a ha)) (o.ok d hd), o.nd, o.nf, fun d hd a ha => ?_⟩, hR, hF⟩
  · have e : a ≠ p := fun e => by subst e; rw [hF] at q; cases q
    rw [upd_ne e]; exact o.fH a v q
  · by_cases e : a = p
    · subst e; rw [upd_same] at q ⊢; exact q
    · rw [upd_ne e] at q ⊢; exact o.rH a v q
  · by_cases e : a = p
    · subst e; exact hF
    · rw [upd_ne e] at q; exact o.fr a v q
  · rw [upd_ne (hc d hd a ha)]; exact o.nr d hd a ha
theorem Own.updR {p : Addr} {u u' : HO} (o : Own K (upd R p u) F H L) (hR : R p = none) : Own K (upd R p u') F (upd H p u') L := by
  have hF : F p = none := o.fr p u upd_same
  have hc : ∀ c ∈ L, ∀ a ∈ c.ad, a ≠ p := fun c hc a ha e => by
    have := o.nr c hc a ha
    rw [e, upd_same] at this; cases this
  refine ⟨fun a v q => ?_, fun a v q => ?_, fun a v q => ?_, fun d hd => d.mono (Ex.rf F) (fun a ha => upd_ne (hc d hd a ha)) (o.ok d hd), o.nd, o.nf, fun d hd a ha => ?_⟩
  · have e : a ≠ p := fun e => by subst e; rw [hF] at q; cases q
    rw [upd_ne e]; exact o.fH a v q
  · by_cases e : a = p
    · subst e; rw [upd_same] at q ⊢; exact q
    · rw [upd_ne e] at q ⊢; exact o.rH a v (by rw [upd_ne e]; exact q)
  · by_cases e : a = p
    · subst e; exact hF
    · rw [upd_ne e] at q; exact o.fr a v (by rw [upd_ne e]; exact q)
  · have e := hc d hd a ha
    have := o.nr d hd a ha
    rw [upd_ne e] at this ⊢; exact this
theorem Own.ofR {p : Addr} {u : HO} (o : Own K (upd R p u) F H L) (hR : R p = none) : Own K R (upd F p u) H L ∧ Ex F (upd F p u) := by
  have hF : F p = none := o.fr p u upd_same
  have hc : ∀ c ∈ L, ∀ a ∈ c.ad, a ≠ p := fun c hc a ha e => by
    have := o.nr c hc a ha
    rw [e, upd_same] at this; cases this
  refine ⟨⟨fun a v q => ?_, fun a v q => ?_, fun a v q => ?_, fun d hd => d.mono (Ex.new hF) (fun _ _ => rfl) (o.ok d hd), o.nd, fun d hd a ha => ?_, fun d hd a ha => ?_⟩, Ex.new hF⟩
  · by_cases e : a = p
    · subst e; rw [upd_same] at q; rw [o.rH a u upd_same]; exact q
    · rw [upd_ne e] at q; exact o.fH a v q
  · have e : a ≠ p := fun e => by subst e; rw [hR] at q; cases q
    exact o.rH a v (by rw [upd_ne e]; exact q)
  · have e : a ≠ p := fun e => by subst e; rw [hR] at q; cases q
    rw [upd_ne e]; exact o.fr a v (by rw [upd_ne e]; exact q)
  · rw [upd_ne (hc d hd a ha)]; exact o.nf d hd a ha
  · have := o.nr d hd a ha
    rw [upd_ne (hc d hd a ha)] at this; exact this
/-- a list of one's own -/
def Cell.lst {α : Type} [Rep α] (l : Addr) (as : List α) : Cell := ⟨[l], fun K F H => (∃ vs, H l = some (.lst vs) ∧ Pr (Rep.rp K F) vs as) ∧ as.length ≤ sizeLine, fun x h ⟨⟨vs, h1, h2⟩, h3⟩ => ⟨⟨vs, by rw [h l List.mem_cons_self]; exact h1, h2.imp fun _ _ => Rep.mono x⟩, h3⟩,
  fun ⟨⟨vs, h1, _⟩, _⟩ a ha => by rw [List.mem_singleton.mp ha]; exact ⟨_, h1⟩⟩
end
end Py

namespace Py
open PySem PySem.Spec PyProof.Rows L2

abbrev St := L2.St
/-! ### growth by frozen things -/
structure Gro (F H F' H' : Hp) : Prop where
  f : Ex F F'
  h : Ex H H'
  fh : Ex F' H'
  nw : ∀ p u, F' p = some u → F p = some u ∨ H p = none
theorem Gro.rf {F H : Hp} (e : Ex F H) : Gro F H F H := ⟨Ex.rf F, Ex.rf H, e, fun _ _ h => Or.inl h⟩
theorem Gro.new {F H : Hp} (e : Ex F H) {p : Addr} {o : HO} (h : H p = none) : Gro F H (upd F p o) (upd H p o) := by
  refine ⟨Ex.new (Ex.free e h), Ex.new h, fun a u q => ?_, fun a u q => ?_⟩
  · by_cases z : a = p
    · subst z; rw [upd_same] at q ⊢; exact q
    · rw [upd_ne z] at q ⊢; exact e a u q
  · by_cases z : a = p
    · subst z; exact Or.inr h
    · rw [upd_ne z] at q; exact Or.inl q
theorem Own.gro {K : PySem.W.Frag} {R F H F' H' : Hp} {L : List Cell} (o : Own K R F H L) (g : Gro F H F' H') : Own K R F' H' L := by
  refine ⟨g.fh, o.rH.tr g.h, fun a u h => ?_, fun c hc => c.mono g.f (fun a ha => ?_) (o.ok c hc), o.nd, fun c hc a ha => ?_, o.nr⟩
  · cases q : F' a with
    | none => rfl
    | some v =>
      rcases g.nw a v q with z | z
      · rw [o.fr a u h] at z; cases z
      · rw [o.rH a u h] at z; cases z
  · obtain ⟨u, hu⟩ := c.th (o.ok c hc) a ha
    rw [hu, g.h a u hu]
  · cases q : F' a with
    | none => rfl
    | some v =>
      rcases g.nw a v q with z | z
      · rw [o.nf c hc a ha] at z; cases z
      · obtain ⟨u, hu⟩ := c.th (o.ok c hc) a ha
        rw [hu] at z; cases z

/-! ### a place in a def: the layer's context, the frame, what was frozen at the entry, what is wished of errors -/
structure Cz where
  X : Cx
  R : Hp
  W : WX
structure Cz.Ok (C : Cz) (k : Nat) : Prop where
  tk : Takes C.X C.W
  po : PassesOwn (model C.X.prog C.X.w) C.X.A C.X.env C.X.xe
  calm : C.X.calm = true
  nd : C.X.N.Nodup
  room : Room k C.X.A

/-- the state -/
structure StaK (K : PySem.W.Frag) (R : Hp) (F : Hp) (env : Env) (L : List Cell) (σ : St) (H : Hp) : Prop where
  sl : Slots K F σ env
  ow : Own K R F H L
abbrev Sta (C : Cz) (F : Hp) (env : Env) (L : List Cell) (σ : St) (H : Hp) : Prop := StaK C.X.K C.R F env L σ H

section
variable {C : Cz} {env : Env} {L : List Cell}
theorem StaK.gro {K : PySem.W.Frag} {R F F' H H' : Hp} {σ : St} (s : StaK K R F env L σ H) (g : Gro F H F' H') : StaK K R F' env L σ H' := ⟨s.sl.mono g.f, s.ow.gro g⟩

structure Gw (F H F' H' : Hp) : Prop where
  f : Ex F F'
theorem Gw.rf (F H : Hp) : Gw F H F H := ⟨Ex.rf F⟩
theorem Gw.tr {F H F1 H1 F2 H2 : Hp} (a : Gw F H F1 H1) (b : Gw F1 H1 F2 H2) : Gw F H F2 H2 := ⟨a.f.tr b.f⟩
theorem Gro.w {F H F' H' : Hp} (g : Gro F H F' H') : Gw F H F' H' := ⟨g.f⟩
/-! ### what an expression gives -/
/-- P: the datum, the cells behind; PX: what may fly -/
def eM (C : Cz) (env : Env) (L : List Cell) (P : Ent → List Cell → Prop) (PX : Value → Option Addr → List Cell → Prop) : TE := fun σ H Q => ∃ F, Sta C F env L σ H ∧
  (∀ v r L' F' H', P r L' → Ex F F' → Sta C F' env L' σ H' → r.rp C.X.K F' v → Q v H') ∧ (∀ cls d L' F' H', PX cls d L' → Ex F F' → Sta C F' env L' σ H' → C.W cls d σ H')
def eE (C : Cz) (env : Env) (L : List Cell) (r : Ent) : TE := fun σ H Q => ∃ F, Sta C F env L σ H ∧ ∀ v F' H', Gw F H F' H' → Sta C F' env L σ H' → r.rp C.X.K F' v → Q v H'
def eT (C : Cz) (env : Env) (L : List Cell) (b : Bool) : TT := fun σ H Q => ∃ F, Sta C F env L σ H ∧ ∀ F' H', Gw F H F' H' → Sta C F' env L σ H' → Q b H'
def eA (C : Cz) (env : Env) (L : List Cell) (rs : List Ent) : TA := fun σ H Q => ∃ F, Sta C F env L σ H ∧ ∀ vs F' H', Gw F H F' H' → Sta C F' env L σ H' → Pr (fun v r => Ent.rp r C.X.K F' v) vs rs → Q vs H'
/-- at p a list that bears as, whatever is frozen besides -/
def Rdb {α : Type} [Rep α] (K : PySem.W.Frag) (R : Hp) (L : List Cell) (p : Addr) (as : List α) (F : Hp) : Prop := ∀ F2 H2, Ex F F2 → Own K R F2 H2 L → ∃ vs, SqL K H2 p vs ∧ Pr (Rep.rp K F2) vs as
def eR {α : Type} [Rep α] (C : Cz) (env : Env) (L : List Cell) (as : List α) : TE := fun σ H Q => ∃ F, Sta C F env L σ H ∧ ∀ p F' H', Gw F H F' H' → Sta C F' env L σ H' → Rdb C.X.K C.R L p as F' → as.length ≤ sizeLine → Q (.ref p) H'
def eO (C : Cz) (env : Env) (L : List Cell) (o : Option Int) : TO := fun σ H Q => ∃ F, Sta C F env L σ H ∧ ∀ F' H', Gw F H F' H' → Sta C F' env L σ H' → Q o H'
end
/-- an expression that gives r and changes nothing -/
structure E (C : Cz) (env : Env) (L : List Cell) (e : Expr) (r : Ent) : Prop where
  p : PE C.X e (eE C env L r)
structure EM (C : Cz) (env : Env) (L : List Cell) (e : Expr) (P : Ent → List Cell → Prop) (PX : Value → Option Addr → List Cell → Prop) : Prop where
  p : PE C.X e (eM C env L P PX)
structure T (C : Cz) (env : Env) (L : List Cell) (e : Expr) (b : Bool) : Prop where
  p : PT C.X e (eT C env L b)
structure A (C : Cz) (env : Env) (L : List Cell) (es : List Expr) (rs : List Ent) : Prop where
  p : PA C.X es (eA C env L rs)
structure ER {α : Type} [Rep α] (C : Cz) (env : Env) (L : List Cell) (e : Expr) (as : List α) : Prop where
  p : PE C.X e (eR C env L as)
structure EO (C : Cz) (env : Env) (L : List Cell) (e : Option Expr) (o : Option Int) : Prop where
  p : PO C.X e (eO C env L o)

theorem PE.imp {X : Cx} {e : Expr} {t t' : TE} (h : PE X e t) (i : ∀ σ H Q, t' σ H Q → t σ H Q) : PE X e t' := ⟨fun pins s σ H Q I q => h.run pins s σ H Q I (i σ H Q q)⟩
theorem PT.imp {X : Cx} {e : Expr} {t t' : TT} (h : PT X e t) (i : ∀ σ H Q, t' σ H Q → t σ H Q) : PT X e t' := ⟨fun pins s σ H Q I q => h.run pins s σ H Q I (i σ H Q q)⟩
theorem PA.imp {X : Cx} {e : List Expr} {t t' : TA} (h : PA X e t) (i : ∀ σ H Q, t' σ H Q → t σ H Q) : PA X e t' := ⟨fun pos pins s σ H Q I q => h.run pos pins s σ H Q I (i σ H Q q)⟩
theorem PS.imp {X : Cx} {e : Stmt} {t t' : TS} (h : PS X e t) (i : ∀ D σ H, t' D σ H → t D σ H) : PS X e t' := ⟨fun pins s σ H D I q => h.run pins s σ H D I (i D σ H q)⟩
theorem PSs.imp {X : Cx} {e : List Stmt} {t t' : TS} (h : PSs X e t) (i : ∀ D σ H, t' D σ H → t D σ H) : PSs X e t' := ⟨fun pins s σ H D I q => h.run pins s σ H D I (i D σ H q)⟩
theorem PSs.ex {X : Cx} {e : List Stmt} {ι : Type 1} {p : ι → Prop} {t : ι → TS} (h : ∀ i, p i → PSs X e (t i)) : PSs X e (fun D σ H => ∃ i, p i ∧ t i D σ H) := ⟨fun pins s σ H D I ⟨i, hp, q⟩ => (h i hp).run pins s σ H D I q⟩

section
variable {C : Cz} {k : Nat} {env : Env} {L : List Cell} {e a b c : Expr} {r r1 r2 r3 : Ent} {pos : Pos}

theorem E.m (h : E C env L e r) : EM C env L e (fun r' L' => r' = r ∧ L' = L) (fun _ _ _ => False) := ⟨PE.imp h.p fun σ H Q ⟨F, s, q, _⟩ => ⟨F, s, fun v F' H' x s' rv => q v r L F' H' ⟨rfl, rfl⟩ x.f s' rv⟩⟩
theorem E.imm {α : Type} [Rep α] {as : List α} (h : E C env L e ⟨as⟩) : ER C env L e as := ⟨PE.imp h.p fun σ H Q ⟨F, s, q⟩ => ⟨F, s, fun v F' H' x s' rv => by
  obtain ⟨p, vs, rfl, h1, h2, h3⟩ := rv
  exact q p F' H' x s' (fun F2 H2 x2 o2 => ⟨vs, sq_of (o2.fH _ _ (x2 _ _ h1)), h2.imp fun _ _ => Rep.mono x2⟩) h3⟩⟩
theorem E.scr {n : List Int} (h : E C env L e ⟨(Scr.mk n)⟩) : ER C env L e n := ⟨PE.imp h.p fun σ H Q ⟨F, s, q⟩ => ⟨F, s, fun v F' H' x s' rv => by
  obtain ⟨p, rfl, h1, h2⟩ := rv
  exact q p F' H' x s' (fun F2 H2 x2 o2 => ⟨_, ex_l o2.fH (ex_l x2 h1), Pr.map1 (Pr.diag (R := fun c b => Rep.rp C.X.K F2 (V.int c) b) (fun _ => rfl) n)⟩) (Nat.le_trans h2 (by decide))⟩⟩

/-! names, constants -/
theorem E_var (i : Nat) {x : Str} (he : env[i]? = some (some r) := by rfl) (hN : C.X.N[i]? = some x := by rfl) (hv : Vis C.X.env.scope x := by first | exact Or.inl rfl | exact Or.inr (Or.inl rfl) | exact Or.inr (Or.inr rfl)) (hd : (x == ("__debug__" : Str)) = false := by decide)
    (hcd : (x == ("__classdict__" : Str)) = false := by decide) : E C env L (.Name x pos) r := ⟨PE.imp (pe_var hN hv hd hcd) fun σ H Q ⟨F, s, q⟩ => by
  obtain ⟨v, h1, h2⟩ := s.sl.get he
  exact ⟨v, h1, q v F H (Gw.rf F H) s h2⟩⟩
theorem E_int {i : Int} {j} : E C env L (.Constant (.int i) j pos) ⟨i⟩ := ⟨PE.imp pe_int fun σ H Q ⟨F, s, q⟩ => q _ F H (Gw.rf F H) s rfl⟩
theorem E_bl {i : Bool} {j} : E C env L (.Constant (.bool i) j pos) ⟨i⟩ := ⟨PE.imp pe_bl fun σ H Q ⟨F, s, q⟩ => q _ F H (Gw.rf F H) s rfl⟩
theorem E_str {i : Str} {j} (hz : SOk i := by exact ⟨by decide, by decide +kernel⟩) : E C env L (.Constant (.str i) j pos) ⟨i⟩ := ⟨PE.imp pe_str fun σ H Q ⟨F, s, q⟩ => q _ F H (Gw.rf F H) s ⟨rfl, hz⟩⟩
theorem E_non {j} : E C env L (.Constant .none j pos) ⟨()⟩ := ⟨PE.imp pe_non fun σ H Q ⟨F, s, q⟩ => q _ F H (Gw.rf F H) s rfl⟩

/-! operations on values -/
def OpS (K : PySem.W.Frag) (t : R2) (r1 r2 r : Ent) : Prop := ∀ F H v1 v2 (Q : VK), Ex F H → r1.rp K F v1 → r2.rp K F v2 → (∀ v F' H', Gro F H F' H' → r.rp K F' v → Q v H') → t v1 v2 H Q
def UnS (K : PySem.W.Frag) (t : V → Hp → VK → Prop) (r1 r : Ent) : Prop := ∀ F H v1 (Q : VK), Ex F H → r1.rp K F v1 → (∀ v F' H', Gro F H F' H' → r.rp K F' v → Q v H') → t v1 H Q
def CaS (K : PySem.W.Frag) (t : List V → Hp → VK → Prop) (rs : List Ent) (r : Ent) : Prop := ∀ F H vs (Q : VK), Ex F H → Pr (fun v r => Ent.rp r K F v) vs rs → (∀ v F' H', Gro F H F' H' → r.rp K F' v → Q v H') → t vs H Q
structure Bin (X : Cx) (op : Operator) (r1 r2 r : Ent) : Prop where
  h : ∃ t, OpR X (binaryOp op) t ∧ OpS X.K t r1 r2 r
structure Cmp (X : Cx) (op : CmpOp) (r1 r2 r : Ent) : Prop where
  h : ∃ t, OpR X (compareOp op) t ∧ OpS X.K t r1 r2 r
structure Una (X : Cx) (op : UnaryOp) (r1 r : Ent) : Prop where
  h : ∃ t, UnR X (unaryOp op) t ∧ UnS X.K t r1 r

theorem tOp_of {t : R2} {ta tb : TE} (ha : ∀ σ H Q, eE C env L r1 σ H Q → ta σ H Q) (hb : ∀ σ H Q, eE C env L r2 σ H Q → tb σ H Q) (ht : OpS C.X.K t r1 r2 r) : ∀ σ H Q, eE C env L r σ H Q → tOp t ta tb σ H Q := fun σ H Q ⟨F, s, q⟩ =>
  ha σ H _ ⟨F, s, fun v1 F1 H1 x1 s1 rv1 => hb σ H1 _ ⟨F1, s1, fun v2 F2 H2 x2 s2 rv2 => ht F2 H2 v1 v2 Q s2.ow.fH (Ent.mono x2.f rv1) rv2 fun v F' H' g rv => q v F' H' ((x1.tr x2).tr g.w) (s2.gro g) rv⟩⟩
theorem E_bin {op : Operator} (ha : E C env L a r1) (hb : E C env L b r2) (h : Bin C.X op r1 r2 r) : E C env L (.BinOp a op b pos) r := by
  obtain ⟨t, ho, hs⟩ := h.h
  exact ⟨PE.imp (pe_op ho ha.p hb.p) (tOp_of (fun _ _ _ z => z) (fun _ _ _ z => z) hs)⟩
theorem E_un {op : UnaryOp} (ha : E C env L a r1) (h : Una C.X op r1 r) : E C env L (.UnaryOp op a pos) r := by
  obtain ⟨t, ho, hs⟩ := h.h
  exact ⟨PE.imp (pe_un ho ha.p) fun σ H Q ⟨F, s, q⟩ => ⟨F, s, fun v1 F1 H1 x1 s1 rv1 => hs F1 H1 v1 Q s1.ow.fH rv1 fun v F' H' g rv => q v F' H' (x1.tr g.w) (s1.gro g) rv⟩⟩
theorem E_cmp {op : CmpOp} (ha : E C env L a r1) (hb : E C env L b r2) (h : Cmp C.X op r1 r2 r) (hm : behindInMarks op b = false := by rfl) : E C env L (.Compare a [op] [b] pos) r := by
  obtain ⟨t, ho, hs⟩ := h.h
  exact ⟨PE.imp (pe_cmpR ho ha.p hb.p hm) (tOp_of (fun _ _ _ z => z) (fun _ _ _ z => z) hs)⟩
end
end Py

namespace Py
open PySem PySem.Spec PyProof.Rows L2

/-! ### statements -/
structure Po where
  nx : Env → List Cell → Prop
  rt : Ent → List Cell → Prop
  bk : Env → List Cell → Prop := fun _ _ => False
  ct : Env → List Cell → Prop := fun _ _ => False
  ex : Value → Option Addr → Env → List Cell → Prop := fun _ _ _ _ => False
structure SndK (K : PySem.W.Frag) (R : Hp) (W : WX) (F : Hp) (Q : Po) (D : Ends) : Prop where
  nx : ∀ env' L' σ' F' H', Q.nx env' L' → Ex F F' → StaK K R F' env' L' σ' H' → D.nx σ' H'
  rt : ∀ r L' v F' H', Q.rt r L' → Ex F F' → Own K R F' H' L' → Ent.rp r K F' v → D.rt v H'
  bk : ∀ env' L' σ' F' H', Q.bk env' L' → Ex F F' → StaK K R F' env' L' σ' H' → D.bk σ' H'
  ct : ∀ env' L' σ' F' H', Q.ct env' L' → Ex F F' → StaK K R F' env' L' σ' H' → D.ct σ' H'
  ex : ∀ cls d env' L' σ' F' H', Q.ex cls d env' L' → Ex F F' → StaK K R F' env' L' σ' H' → W cls d σ' H'
abbrev Snd (C : Cz) (F : Hp) (Q : Po) (D : Ends) : Prop := SndK C.X.K C.R C.W F Q D
theorem SndK.mono {K : PySem.W.Frag} {R : Hp} {W : WX} {F F' : Hp} {Q : Po} {D : Ends} (n : SndK K R W F Q D) (x : Ex F F') : SndK K R W F' Q D :=
  ⟨fun a b c d e h y s => n.nx a b c d e h (x.tr y) s, fun a b c d e h y s => n.rt a b c d e h (x.tr y) s, fun a b c d e h y s => n.bk a b c d e h (x.tr y) s, fun a b c d e h y s => n.ct a b c d e h (x.tr y) s, fun a b c d e f g h y s => n.ex a b c d e f g h (x.tr y) s⟩
def sS (C : Cz) (env : Env) (L : List Cell) (Q : Po) : TS := fun D σ H => ∃ F, Sta C F env L σ H ∧ Snd C F Q D
structure S1 (C : Cz) (env : Env) (L : List Cell) (st : Stmt) (Q : Po) : Prop where
  p : PS C.X st (sS C env L Q)
structure S (C : Cz) (env : Env) (L : List Cell) (sts : List Stmt) (Q : Po) : Prop where
  p : PSs C.X sts (sS C env L Q)
section
variable {C : Cz} {k : Nat} {env : Env} {L : List Cell} {e a b c : Expr} {r r1 r2 r3 : Ent} {pos : Pos} {Q : Po} {st : Stmt} {rest : List Stmt} {P : Ent → List Cell → Prop} {PX : Value → Option Addr → List Cell → Prop}
theorem S_nil (h : Q.nx env L) : S C env L [] Q := ⟨PSs.imp pss_nil fun D σ H ⟨F, s, n⟩ => n.nx env L σ F H h (Ex.rf F) s⟩
theorem S_cons (h : S1 C env L st { Q with nx := fun env' L' => S C env' L' rest Q }) : S C env L (st :: rest) Q := by
  have u := PSs.ex (X := C.X) (e := rest) (ι := Env × List Cell) (p := fun i => S C i.1 i.2 rest Q) (t := fun i => sS C i.1 i.2 Q) fun i h => h.p
  exact ⟨PSs.imp (pss_cons h.p u) fun D σ H ⟨F, s, n⟩ => ⟨F, s, ⟨fun env' L' σ' F' H' h x s' => ⟨(env', L'), h, F', s', n.mono x⟩, n.rt, n.bk, n.ct, n.ex⟩⟩⟩
theorem S_one (h : S1 C env L st Q) : S C env L [st] Q := ⟨PSs.imp (pss_one h.p) fun D σ H z => z⟩
/-- a stop: the rest isn't reached -/
theorem S_stop (h : S1 C env L st { Q with nx := fun _ _ => False }) : S C env L (st :: rest) Q :=
  ⟨PSs.imp (pss_cons h.p (pss_never (sts := rest))) fun D σ H ⟨F, s, n⟩ => ⟨F, s, ⟨fun _ _ _ _ _ h _ _ => h.elim, n.rt, n.bk, n.ct, n.ex⟩⟩⟩
theorem S.imp {Q' : Po} (h : S C env L rest Q) (h1 : ∀ e l, Q.nx e l → Q'.nx e l) (h2 : ∀ e l, Q.rt e l → Q'.rt e l) (h3 : ∀ e l, Q.bk e l → Q'.bk e l) (h4 : ∀ e l, Q.ct e l → Q'.ct e l) (h5 : ∀ c d e l, Q.ex c d e l → Q'.ex c d e l) : S C env L rest Q' :=
  ⟨PSs.imp h.p fun D σ H ⟨F, s, n⟩ => ⟨F, s, ⟨fun a b c d e h => n.nx a b c d e (h1 _ _ h), fun a b c d e h => n.rt a b c d e (h2 _ _ h), fun a b c d e h => n.bk a b c d e (h3 _ _ h), fun a b c d e h => n.ct a b c d e (h4 _ _ h), fun a b c d e f g h => n.ex a b c d e f g (h5 _ _ _ _ h)⟩⟩⟩
theorem S_pass (h : Q.nx env L) : S1 C env L (.Pass pos) Q := ⟨PS.imp ps_pass fun D σ H ⟨F, s, n⟩ => n.nx env L σ F H h (Ex.rf F) s⟩
theorem S_brk (h : Q.bk env L) : S1 C env L (.Break pos) Q := ⟨PS.imp ps_break fun D σ H ⟨F, s, n⟩ => n.bk env L σ F H h (Ex.rf F) s⟩
theorem S_cnt (h : Q.ct env L) : S1 C env L (.Continue pos) Q := ⟨PS.imp ps_continue fun D σ H ⟨F, s, n⟩ => n.ct env L σ F H h (Ex.rf F) s⟩
theorem S_doc {x j pos'} (h : Q.nx env L) : S1 C env L (.Expr (.Constant (.str x) j pos) pos') Q := ⟨PS.imp ps_doc fun D σ H ⟨F, s, n⟩ => n.nx env L σ F H h (Ex.rf F) s⟩

/-- x = e -/
theorem S1_setM (i : Nat) {x : Str} {pos' : Pos} (hN : C.X.N.Nodup) (he : EM C env L e P PX) (h : ∀ r L', P r L' → Q.nx (env.set i (some r)) L') (hx : ∀ cls d L', PX cls d L' → Q.ex cls d env L')
    (hi : C.X.N[i]? = some x := by rfl) (hl : Loc C.X.env.scope x := by first | exact Or.inl rfl | exact Or.inr rfl) (hs : swapsWith e (some (.Name x pos')) pos.line C.X.env = pure false := by rfl) (hf : C.X.fn x = true ∨ C.X.env.scope.names.lookup x = some .local := by exact Or.inl rfl) : S1 C env L (.Assign [.Name x pos'] e pos) Q :=
  ⟨PS.imp (ps_asg he.p (pg_name hN hi hl hf) hs rfl rfl) fun D σ H ⟨F, s, n⟩ => ⟨F, s, fun v r L' F' H' hp x s' rv => n.nx _ _ _ F' H' (h r L' hp) x ⟨s'.sl.put rv i, s'.ow⟩, fun cls d L' F' H' hp x s' => n.ex cls d env L' σ F' H' (hx cls d L' hp) x s'⟩⟩
theorem S_setM (i : Nat) {x : Str} {pos' : Pos} (hN : C.X.N.Nodup) (he : EM C env L e P PX) (h : ∀ r L', P r L' → S C (env.set i (some r)) L' rest Q) (hx : ∀ cls d L', PX cls d L' → Q.ex cls d env L')
    (hi : C.X.N[i]? = some x := by rfl) (hl : Loc C.X.env.scope x := by first | exact Or.inl rfl | exact Or.inr rfl) (hs : swapsWith e (some (.Name x pos')) pos.line C.X.env = pure false := by rfl) (hf : C.X.fn x = true ∨ C.X.env.scope.names.lookup x = some .local := by exact Or.inl rfl) : S C env L (.Assign [.Name x pos'] e pos :: rest) Q :=
  S_cons (S1_setM i hN he h hx hi hl hs hf)
theorem S_set (i : Nat) {x : Str} {pos' : Pos} (hN : C.X.N.Nodup) (he : E C env L e r) (h : S C (env.set i (some r)) L rest Q)
    (hi : C.X.N[i]? = some x := by rfl) (hl : Loc C.X.env.scope x := by first | exact Or.inl rfl | exact Or.inr rfl) (hs : swapsWith e (some (.Name x pos')) pos.line C.X.env = pure false := by rfl) (hf : C.X.fn x = true ∨ C.X.env.scope.names.lookup x = some .local := by exact Or.inl rfl) : S C env L (.Assign [.Name x pos'] e pos :: rest) Q :=
  S_setM i hN he.m (fun r' L' z => by obtain ⟨rfl, rfl⟩ := z; exact h) (fun _ _ _ z => z.elim) hi hl hs hf
/-- return e -/
theorem S_retM (he : EM C env L e P PX) (h : ∀ r L', P r L' → Q.rt r L') (hx : ∀ cls d L', PX cls d L' → Q.ex cls d env L') : S C env L (.Return (some e) pos :: rest) Q :=
  S_stop ⟨PS.imp (ps_ret he.p) fun D σ H ⟨F, s, n⟩ => ⟨F, s, fun v r L' F' H' hp x s' rv => n.rt r L' v F' H' (h r L' hp) x s'.ow rv, fun cls d L' F' H' hp x s' => n.ex cls d env L' σ F' H' (hx cls d L' hp) x s'⟩⟩
theorem S_ret (he : E C env L e r) (h : Q.rt r L) : S C env L (.Return (some e) pos :: rest) Q :=
  S_retM he.m (fun r' L' z => by obtain ⟨rfl, rfl⟩ := z; exact h) (fun _ _ _ z => z.elim)
theorem S_retN (h : Q.rt ⟨()⟩ L) : S C env L (.Return none pos :: rest) Q :=
  S_stop ⟨PS.imp ps_retN fun D σ H ⟨F, s, n⟩ => n.rt ⟨()⟩ L .non F H h (Ex.rf F) s.ow rfl⟩
/-- e as a statement -/
theorem S_exprM (he : EM C env L e P PX) (h : ∀ r L', P r L' → S C env L' rest Q) (hx : ∀ cls d L', PX cls d L' → Q.ex cls d env L') (hs : swapsWith e none pos.line C.X.env = pure false := by rfl) : S C env L (.Expr e pos :: rest) Q :=
  S_cons ⟨PS.imp (ps_expr he.p hs) fun D σ H ⟨F, s, n⟩ => ⟨F, s, fun v r L' F' H' hp x s' rv => n.nx env L' σ F' H' (h r L' hp) x s', fun cls d L' F' H' hp x s' => n.ex cls d env L' σ F' H' (hx cls d L' hp) x s'⟩⟩
/-- if -/
theorem S_if {bo : Bool} {as bs : List Stmt} (hc : T C env L c bo) (h1 : bo = true → S C env L as { Q with nx := fun env' L' => S C env' L' rest Q }) (h2 : bo = false → S C env L bs { Q with nx := fun env' L' => S C env' L' rest Q }) : S C env L (.If c as bs pos :: rest) Q := by
  refine S_cons ⟨?_⟩
  cases bo with
  | true => exact PS.imp (ps_if hc.p (h1 rfl).p (pss_never)) fun D σ H ⟨F, s, n⟩ => ⟨F, s, fun F' H' x s' => by
      refine iteT ?_
      exact ⟨F', s', n.mono x.f⟩⟩
  | false => exact PS.imp (ps_if hc.p (pss_never) (h2 rfl).p) fun D σ H ⟨F, s, n⟩ => ⟨F, s, fun F' H' x s' => by
      refine iteF ?_
      exact ⟨F', s', n.mono x.f⟩⟩
/-- if, the ways joined: M holds behind both -/
theorem S_ifM {bo : Bool} {as bs : List Stmt} (M : Env → List Cell → Prop) (hc : T C env L c bo) (h1 : bo = true → S C env L as { Q with nx := M }) (h2 : bo = false → S C env L bs { Q with nx := M }) (h : ∀ env' L', M env' L' → S C env' L' rest Q) : S C env L (.If c as bs pos :: rest) Q :=
  S_if hc (fun z => (h1 z).imp (fun e l m => h e l m) (fun _ _ z => z) (fun _ _ z => z) (fun _ _ z => z) (fun _ _ _ _ z => z)) (fun z => (h2 z).imp (fun e l m => h e l m) (fun _ _ z => z) (fun _ _ z => z) (fun _ _ z => z) (fun _ _ _ _ z => z))
theorem S.conv {env' : Env} {L' : List Cell} (h : S C env' L' rest Q) (he : env = env' := by rfl) (hl : L = L' := by rfl) : S C env L rest Q := by
  subst he hl; exact h

/-! tests -/
theorem T_val {bo : Bool} (h : E C env L e ⟨bo⟩) (he : ∀ whole, isTrue e C.X.env whole = (do let v ← whole; standAt e.pos; holding [v] (truthy v)) := by intro _; rfl) : T C env L e bo :=
  ⟨PT.imp (pt_val h.p he) fun σ H Q ⟨F, s, q⟩ => ⟨F, s, fun v F' H' x s' rv => ⟨bo, rv, q F' H' x s'⟩⟩⟩
theorem T_cmp {op : CmpOp} {bo : Bool} (ha : E C env L a r1) (hb : E C env L b r2) (h : Cmp C.X op r1 r2 ⟨bo⟩) (hm : behindInMarks op b = false := by rfl) : T C env L (.Compare a [op] [b] pos) bo := by
  obtain ⟨t, ho, hs⟩ := h.h
  exact ⟨PT.imp (pt_cmpR ho ha.p hb.p hm) fun σ H Q ⟨F, s, q⟩ => tOp_of (r := ⟨bo⟩) (fun _ _ _ z => z) (fun _ _ _ z => z) hs σ H _ ⟨F, s, fun v F' H' x s' rv => ⟨bo, rv, q F' H' x s'⟩⟩⟩
theorem T_not {bo : Bool} (h : T C env L a bo) : T C env L (.UnaryOp .Not a pos) (!bo) := ⟨PT.imp (pt_not h.p) fun σ H Q ⟨F, s, q⟩ => ⟨F, s, q⟩⟩
/-- a and b, a or b as tests -/
structure TW (C : Cz) (env : Env) (L : List Cell) (e : Expr) (b : Bool) : Prop where
  p : PW C.X e (eT C env L b)
theorem PW.imp {X : Cx} {e : Expr} {t t' : TT} (h : PW X e t) (i : ∀ σ H Q, t' σ H Q → t σ H Q) : PW X e t' := ⟨fun whole pins s σ H Q I q => h.run whole pins s σ H Q I (i σ H Q q)⟩
theorem T_w {bo : Bool} (h : TW C env L e bo) : T C env L e bo := ⟨h.p.pt⟩
theorem T_and1 {bo : Bool} (h : T C env L a bo) : TW C env L (.BoolOp .And [a] pos) bo := ⟨pw_and1 h.p⟩
theorem T_or1 {bo : Bool} (h : T C env L a bo) : TW C env L (.BoolOp .Or [a] pos) bo := ⟨pw_or1 h.p⟩
theorem PW.never {X : Cx} {e : Expr} : PW X e (fun _ _ _ => False) := ⟨fun _ _ _ _ _ _ _ h => h.elim⟩
theorem T_and {b1 b2 : Bool} {bb : Expr} {bs : List Expr} (h1 : T C env L a b1) (h2 : b1 = true → TW C env L (.BoolOp .And (bb :: bs) pos) b2) : TW C env L (.BoolOp .And (a :: bb :: bs) pos) (b1 && b2) := by
  cases b1 with
  | true => exact ⟨PW.imp (pw_and h1.p (h2 rfl).p) fun σ H Q ⟨F, s, q⟩ => ⟨F, s, fun F' H' x s' => by
      refine iteT ?_
      exact ⟨F', s', fun F2 H2 x2 s2 => q F2 H2 (x.tr x2) s2⟩⟩⟩
  | false => exact ⟨PW.imp (pw_and h1.p PW.never) fun σ H Q ⟨F, s, q⟩ => ⟨F, s, fun F' H' x s' => by
      refine iteF ?_
      exact q F' H' x s'⟩⟩
theorem T_or {b1 b2 : Bool} {bb : Expr} {bs : List Expr} (h1 : T C env L a b1) (h2 : b1 = false → TW C env L (.BoolOp .Or (bb :: bs) pos) b2) : TW C env L (.BoolOp .Or (a :: bb :: bs) pos) (b1 || b2) := by
  cases b1 with
  | false => exact ⟨PW.imp (pw_or h1.p (h2 rfl).p) fun σ H Q ⟨F, s, q⟩ => ⟨F, s, fun F' H' x s' => by
      refine iteF ?_
      exact ⟨F', s', fun F2 H2 x2 s2 => q F2 H2 (x.tr x2) s2⟩⟩⟩
  | true => exact ⟨PW.imp (pw_or h1.p PW.never) fun σ H Q ⟨F, s, q⟩ => ⟨F, s, fun F' H' x s' => by
      refine iteT ?_
      exact q F' H' x s'⟩⟩
/-! and, or, not, if as values -/
theorem PE.never {X : Cx} {e : Expr} : PE X e (fun _ _ _ => False) := ⟨fun _ _ _ _ _ _ h => h.elim⟩
theorem E_one {op} (h : E C env L a r) : E C env L (.BoolOp op [a] pos) r := ⟨pe_one h.p⟩
theorem E_and {b1 b2 : Bool} {bb : Expr} {bs : List Expr} (h1 : E C env L a ⟨b1⟩) (h2 : b1 = true → E C env L (.BoolOp .And (bb :: bs) pos) ⟨b2⟩) : E C env L (.BoolOp .And (a :: bb :: bs) pos) ⟨b1 && b2⟩ := by
  cases b1 with
  | true => exact ⟨PE.imp (pe_and h1.p (h2 rfl).p) fun σ H Q ⟨F, s, q⟩ => ⟨F, s, fun v F' H' x s' rv => ⟨true, rv, by
      refine iteT ?_
      exact ⟨F', s', fun v2 F2 H2 x2 s2 => q v2 F2 H2 (x.tr x2) s2⟩⟩⟩⟩
  | false => exact ⟨PE.imp (pe_and h1.p PE.never) fun σ H Q ⟨F, s, q⟩ => ⟨F, s, fun v F' H' x s' rv => ⟨false, rv, by
      refine iteF ?_
      exact q _ F' H' x s' rfl⟩⟩⟩
theorem E_or {b1 b2 : Bool} {bb : Expr} {bs : List Expr} (h1 : E C env L a ⟨b1⟩) (h2 : b1 = false → E C env L (.BoolOp .Or (bb :: bs) pos) ⟨b2⟩) : E C env L (.BoolOp .Or (a :: bb :: bs) pos) ⟨b1 || b2⟩ := by
  cases b1 with
  | false => exact ⟨PE.imp (pe_or h1.p (h2 rfl).p) fun σ H Q ⟨F, s, q⟩ => ⟨F, s, fun v F' H' x s' rv => ⟨false, rv, by
      refine iteF ?_
      exact ⟨F', s', fun v2 F2 H2 x2 s2 => q v2 F2 H2 (x.tr x2) s2⟩⟩⟩⟩
  | true => exact ⟨PE.imp (pe_or h1.p PE.never) fun σ H Q ⟨F, s, q⟩ => ⟨F, s, fun v F' H' x s' rv => ⟨true, rv, by
      refine iteT ?_
      exact q _ F' H' x s' rfl⟩⟩⟩
theorem E_not {bo : Bool} (h : E C env L a ⟨bo⟩) : E C env L (.UnaryOp .Not a pos) ⟨!bo⟩ := ⟨PE.imp (pe_not h.p) fun σ H Q ⟨F, s, q⟩ => ⟨F, s, fun v F' H' x s' rv => ⟨bo, rv, q _ F' H' x s' rfl⟩⟩⟩
theorem E_ife {α : Type} [Rep α] {x y : α} {bo : Bool} (hc : T C env L c bo) (h1 : bo = true → E C env L a ⟨x⟩) (h2 : bo = false → E C env L b ⟨y⟩) : E C env L (.IfExp c a b pos) ⟨if bo then x else y⟩ := by
  cases bo with
  | true => exact ⟨PE.imp (pe_ifExp hc.p (h1 rfl).p PE.never) fun σ H Q ⟨F, s, q⟩ => ⟨F, s, fun F' H' x s' => by
      refine iteT ?_
      exact ⟨F', s', fun v2 F2 H2 x2 s2 => q v2 F2 H2 (x.tr x2) s2⟩⟩⟩
  | false => exact ⟨PE.imp (pe_ifExp hc.p PE.never (h2 rfl).p) fun σ H Q ⟨F, s, q⟩ => ⟨F, s, fun F' H' x s' => by
      refine iteF ?_
      exact ⟨F', s', fun v2 F2 H2 x2 s2 => q v2 F2 H2 (x.tr x2) s2⟩⟩⟩
/-! arguments -/
theorem A_nil : A C env L [] [] := ⟨PA.imp pa_nil fun σ H Q ⟨F, s, q⟩ => q [] F H (Gw.rf F H) s .nil⟩
end
end Py

namespace Py
open PySem PySem.Spec PyProof.Rows L2

/-! ### what a def promises -/
/-- for one list of arguments and cells -/
def sp1 (K : PySem.W.Frag) (arg : List Ent) (cel : List Cell) (post : Ent → List Cell → Prop) (exc : Value → Option Addr → List Cell → Prop) : Sp := fun vs H Q E => ∃ R F, Own K R F H cel ∧ Pr (fun v r => Ent.rp r K F v) vs arg ∧
  (∀ r L' v F' H', post r L' → Ex F F' → Own K R F' H' L' → Ent.rp r K F' v → Q v H') ∧ (∀ cls d L' F' H', exc cls d L' → Ex F F' → Own K R F' H' L' → E cls d H')
/-- for all ghosts g -/
def spM.{u} {γ : Type u} (K : PySem.W.Frag) (arg : γ → List Ent) (cel : γ → List Cell) (pre : γ → Prop) (post : γ → Ent → List Cell → Prop) (exc : γ → Value → Option Addr → List Cell → Prop) : Sp := fun vs H Q E => ∃ g, pre g ∧ sp1 K (arg g) (cel g) (post g) (exc g) vs H Q E
/-- a function of its arguments -/
def spF.{u} {γ : Type u} (K : PySem.W.Frag) (arg : γ → List Ent) (pre : γ → Prop) (res : γ → Ent) : Sp := spM K arg (fun _ => []) pre (fun g r L' => r = res g ∧ L' = []) (fun _ _ _ _ => False)

/-- the module's name x is a def that keeps sp -/
structure Hs (P : Program) (w : World) (K : PySem.W.Frag) (mg : Str → Option Value) (base : Heap) (k : Nat) (x : Str) (sp : Sp) : Prop where
  h : ∃ f fd ps, mg x = some (.ref f) ∧ PySem.W.keepIn K (.ref f) = true ∧ Binds K fd ps [] ∧ FnOk P w K mg base (L2.CX P w) k f fd ps sp

section
variable {C : Cz} {k j : Nat} {env : Env} {L LR : List Cell} {e a b c : Expr} {es : List Expr} {r r1 r2 r3 : Ent} {rs : List Ent} {pos p apos : Pos} {Q : Po} {st : Stmt} {rest : List Stmt} {x : Str}
theorem A_cons (h : E C env L e r) (hr : A C env L es rs) (hs : starEach (e :: es) C.X.env = (false, eval e C.X.env) :: starEach es C.X.env := by rfl) : A C env L (e :: es) (r :: rs) :=
  ⟨PA.imp (pa_cons h.p hr.p hs) fun σ H Q ⟨F, s, q⟩ => ⟨F, s, fun v F1 H1 x1 s1 rv => ⟨F1, s1, fun vs F2 H2 x2 s2 rvs => q (v :: vs) F2 H2 (x1.tr x2) s2 (.cons (Ent.mono x2.f rv) rvs)⟩⟩⟩

theorem Cz.Ok.mono (h : C.Ok k) (hj : j ≤ k) : C.Ok j := ⟨h.tk, h.po, h.calm, h.nd, h.room.mono hj⟩

theorem of_sp1.{u} {γ : Type u} {arg : γ → List Ent} {cel : γ → List Cell} {pre : γ → Prop} {post : γ → Ent → List Cell → Prop} {exc : γ → Value → Option Addr → List Cell → Prop} (g : γ) (hp : pre g) (hL : L.Perm (cel g ++ LR)) {σ : Py.St} {F H : Hp} {Q : VK} {vs : List V} (s : Sta C F env L σ H) (rv : Pr (fun v r => Ent.rp r C.X.K F v) vs (arg g))
    (h1 : ∀ v r L' F' H', post g r L' → Ex F F' → Sta C F' env (L' ++ LR) σ H' → Ent.rp r C.X.K F' v → Q v H') (h2 : ∀ cls d L' F' H', exc g cls d L' → Ex F F' → Sta C F' env (L' ++ LR) σ H' → C.W cls d σ H') : spM C.X.K arg cel pre post exc vs H Q (WE C.W σ) := by
  have o : Own C.X.K C.R F H (cel g ++ LR) := s.ow.perm hL.symm
  refine ⟨g, hp, frame H F (cel g), F, o.call, rv, fun r L' v F' H' hpost x o' rr => h1 v r L' F' H' hpost x ⟨s.sl.mono x, o.back o' x⟩ rr, fun cls d L' F' H' hx x o' => h2 cls d L' F' H' hx x ⟨s.sl.mono x, o.back o' x⟩⟩

/-- f(e, ..) -/
theorem EM_call.{u} {γ : Type u} {arg : γ → List Ent} {cel : γ → List Cell} {pre : γ → Prop} {post : γ → Ent → List Cell → Prop} {exc : γ → Value → Option Addr → List Cell → Prop} (g : γ) (ok : C.Ok k) (Fn : Hs C.X.prog C.X.w C.X.K C.X.mg C.X.base j x (spM C.X.K arg cel pre post exc)) (ha : A C env L (e :: es) (arg g)) (hp : pre g) (hL : L.Perm (cel g ++ LR)) (hj : j ≤ k := by decide) (hg : Gl C.X x := by rfl)
    (hdb : (x == ("__debug__" : Str)) = false := by decide) (he : starEach (e :: es) C.X.env = (false, eval e C.X.env) :: starEach es C.X.env := by rfl) (hpl : (backTo pos (starEach es C.X.env)).any (·.1) = false := by rfl) :
    EM C env L (.Call (.Name x p) (e :: es) [] pos) (fun r L' => ∃ L1, post g r L1 ∧ L' = L1 ++ LR) (fun cls d L' => ∃ L1, exc g cls d L1 ∧ L' = L1 ++ LR) := by
  obtain ⟨f, fd, ps, hm, hk, hb, F⟩ := Fn.h
  refine ⟨PE.imp (pe_callSD F (ok.room.mono hj) hg hm hk hb .nil (fun σ => passAt ok.tk σ) ha.p hdb he hpl) fun σ H Q ⟨F0, s, q1, q2⟩ => ⟨F0, s, fun vs F' H' x1 s' rv => ?_⟩⟩
  have z := of_sp1 (post := post) (exc := exc) g hp hL s' rv (Q := Q) (fun v r L' F2 H2 hpo x2 s2 rr => q1 v r _ F2 H2 ⟨L', hpo, rfl⟩ (x1.f.tr x2) s2 rr) (fun cls d L' F2 H2 hpo x2 s2 => q2 cls d _ F2 H2 ⟨L', hpo, rfl⟩ (x1.f.tr x2) s2)
  show spM C.X.K arg cel pre post exc (vs ++ []) H' Q (WE C.W σ)
  rw [List.append_nil]
  exact z
theorem EM_call0.{u} {γ : Type u} {arg : γ → List Ent} {cel : γ → List Cell} {pre : γ → Prop} {post : γ → Ent → List Cell → Prop} (g : γ) (ok : C.Ok k) (Fn : Hs C.X.prog C.X.w C.X.K C.X.mg C.X.base j x (spM C.X.K arg cel pre post (fun _ _ _ _ => False))) (ha : arg g = []) (hp : pre g) (hL : L.Perm (cel g ++ LR)) (hj : j ≤ k := by decide) (hg : Gl C.X x := by rfl)
    (hdb : (x == ("__debug__" : Str)) = false := by decide) : EM C env L (.Call (.Name x p) [] [] pos) (fun r L' => ∃ L1, post g r L1 ∧ L' = L1 ++ LR) (fun _ _ _ => False) := by
  obtain ⟨f, fd, ps, hm, hk, hb, F⟩ := Fn.h
  refine ⟨PE.imp (pe_call0 F (ok.room.mono hj) hg hm hk hb .nil (E := E0) (passes_call (W := fun cls d _ H => False) (fun u s' ⟨_, _, _, _, _, _, _, _, _, _, _, _, _, _, _, _, z⟩ => z.elim) (fun _ _ _ _ z => z)) hdb) fun σ H Q ⟨F0, s, q1, q2⟩ => ?_⟩
  have o : Own C.X.K C.R F0 H (cel g ++ LR) := s.ow.perm hL.symm
  refine ⟨g, hp, frame H F0 (cel g), F0, o.call, by rw [ha]; exact .nil, fun r L' v F' H' hpost x o' rr => q1 v r _ F' H' ⟨L', hpost, rfl⟩ x ⟨s.sl.mono x, o.back o' x⟩ rr, fun _ _ _ _ _ z => z.elim⟩
theorem frame_ex {K : PySem.W.Frag} {F H F' H' : Hp} {L' : List Cell} (e : Ex F H) (o' : Own K (frame H F []) F' H' L') (x : Ex F F') : Ex H H' := fun a u h => by
  cases q : F a with
  | some v =>
    have h2 := e a v q
    rw [h] at h2
    rw [o'.fH a v (x a v q), ← h2]
  | none => exact o'.rH a u (by rw [frame_some q (fun c hc => by cases hc)]; exact h)
theorem E_call.{u} {γ : Type u} {arg : γ → List Ent} {pre : γ → Prop} {res : γ → Ent} (g : γ) (ok : C.Ok k) (Fn : Hs C.X.prog C.X.w C.X.K C.X.mg C.X.base j x (spF C.X.K arg pre res)) (ha : A C env L (e :: es) (arg g)) (hp : pre g) (hj : j ≤ k := by decide) (hg : Gl C.X x := by rfl)
    (hdb : (x == ("__debug__" : Str)) = false := by decide) (he : starEach (e :: es) C.X.env = (false, eval e C.X.env) :: starEach es C.X.env := by rfl) (hpl : (backTo pos (starEach es C.X.env)).any (·.1) = false := by rfl) :
    E C env L (.Call (.Name x p) (e :: es) [] pos) (res g) := by
  obtain ⟨f, fd, ps, hm, hk, hb, Fo⟩ := Fn.h
  refine ⟨PE.imp (pe_callSD Fo (ok.room.mono hj) hg hm hk hb .nil (fun σ => passAt ok.tk σ) ha.p hdb he hpl) fun σ H Q ⟨F0, s, q1⟩ => ⟨F0, s, fun vs F H1 x1 s' rv => ?_⟩⟩
  show spF C.X.K arg pre res (vs ++ []) H1 Q (WE C.W σ)
  rw [List.append_nil]
  have o : Own C.X.K C.R F H1 ([] ++ L) := s'.ow
  refine ⟨g, hp, frame H1 F [], F, o.call, rv, fun r L' v F' H' hpo x o' rr => ?_, fun _ _ _ _ _ z => z.elim⟩
  obtain ⟨rfl, rfl⟩ := hpo
  exact q1 v F' H' (x1.tr ⟨x⟩) ⟨s'.sl.mono x, o.back o' x⟩ rr
end

/-! ### a def keeps its promise -/
def startE (N : List Str) (rs : List Ent) : Env := rs.map some ++ List.replicate (N.length - rs.length) none
theorem start_slots {K : PySem.W.Frag} {F : Hp} {N : List Str} {vs : List V} {rs : List Ent} (h : Pr (fun v r => Ent.rp r K F v) vs rs) : Slots K F (L2.start N vs) (startE N rs) := by
  unfold L2.start startE
  rw [h.length]
  refine Pr.append ?_ ?_
  · induction h with
    | nil => exact .nil
    | cons h _ ih => exact .cons (R := SlotOk K F) (a := some _) (b := some _) h ih
  · generalize N.length - rs.length = n
    induction n with
    | zero => exact .nil
    | succ n ih => exact .cons (R := SlotOk K F) (a := none) (b := none) trivial ih
theorem fn_spM.{u} {γ : Type u} {P : Program} {w : World} {K : PySem.W.Frag} {mg : Str → Option Value} {base : Heap} {x qual : Str} {params : Arguments} {body : List Stmt} {scope : Scope} {dvs : List V} {kws : List (Str × V)} {f : Addr} {fd : FuncData} {N ps : List Str} {k : Nat} {arg : γ → List Ent} {cel : γ → List Cell} {pre : γ → Prop} {post : γ → Ent → List Cell → Prop} {exc : γ → Value → Option Addr → List Cell → Prop}
    (F : FunD K x qual params body scope dvs kws f fd) (Sc : FnScope N ps scope) (hlen : ∀ g, (arg g).length = ps.length)
    (h : ∀ g, pre g → ∀ cdv A outer s H E R, let C : Cz := ⟨cxOf (L2.CX P w) P w K mg base N qual scope f cdv A outer s H E, R, fun cls d _ H => E cls d H⟩
      C.Ok k → S C (startE N (arg g)) (cel g) body { nx := fun _ L' => post g ⟨()⟩ L', rt := post g, ex := fun cls d _ L' => exc g cls d L' }) : FnOk P w K mg base (L2.CX P w) (k + 1) f fd ps (spM K arg cel pre post exc) := by
  refine F.ok Sc (fun vs H Q E ⟨g, _, R, F0, _, rv, _⟩ => by rw [rv.length]; exact hlen g) fun cdv A outer s H vs Q E hr hsp => ?_
  refine ⟨fun D σ H' => ∃ g : γ, pre g ∧ ∃ R : Hp, sS ⟨cxOf (L2.CX P w) P w K mg base N qual scope f cdv A outer s H E, R, fun cls d _ H => E cls d H⟩ (startE N (arg g)) (cel g) { nx := fun _ L' => post g ⟨()⟩ L', rt := post g, ex := fun cls d _ L' => exc g cls d L' } D σ H', ⟨fun pins s' σ H' D I ⟨g, hp, R, q⟩ => ?_⟩, ?_⟩
  · exact (h g hp cdv A outer s H E R ⟨takes_of rfl rfl rfl rfl, passes_of rfl, rfl, Sc.nd, hr⟩).p.run pins s' σ H' D I q
  · obtain ⟨g, hp, R, F0, o, rv, q1, q2⟩ := hsp
    exact ⟨g, hp, R, F0, ⟨start_slots rv, o⟩, ⟨fun env' L' σ' F' H' hn x s' => q1 ⟨()⟩ L' .non F' H' hn x s'.ow rfl, fun r L' v F' H' hp x o' rr => q1 r L' v F' H' hp x o' rr, fun _ _ _ _ _ z _ _ => z.elim, fun _ _ _ _ _ z _ _ => z.elim, fun cls d env' L' σ' F' H' hx x s' => q2 cls d L' F' H' hx x s'.ow⟩⟩
end Py

namespace Py
open PySem PySem.Spec PyProof.Rows L2

theorem PE.ex {X : Cx} {e : Expr} {ι : Type 1} {p : ι → Prop} {t : ι → TE} (h : ∀ i, p i → PE X e (t i)) : PE X e (fun σ H Q => ∃ i, p i ∧ t i σ H Q) := ⟨fun pins s σ H D I ⟨i, hp, q⟩ => (h i hp).run pins s σ H D I q⟩
theorem PT.ex {X : Cx} {e : Expr} {ι : Type 1} {p : ι → Prop} {t : ι → TT} (h : ∀ i, p i → PT X e (t i)) : PT X e (fun σ H Q => ∃ i, p i ∧ t i σ H Q) := ⟨fun pins s σ H D I ⟨i, hp, q⟩ => (h i hp).run pins s σ H D I q⟩
theorem PTs.ex {X : Cx} {e : List Expr} {ι : Type 1} {p : ι → Prop} {t : ι → TT} (h : ∀ i, p i → PTs X e (t i)) : PTs X e (fun σ H Q => ∃ i, p i ∧ t i σ H Q) := ⟨fun pins s σ H D I ⟨i, hp, q⟩ => (h i hp).run pins s σ H D I q⟩
theorem PG.ex {X : Cx} {e : Expr} {ι : Type 1} {p : ι → Prop} {t : ι → TG} (h : ∀ i, p i → PG X e (t i)) : PG X e (fun v σ H Q => ∃ i, p i ∧ t i v σ H Q) := ⟨fun pins s σ H v u Q I r ⟨i, hp, q⟩ => (h i hp).run pins s σ H v u Q I r q⟩
theorem PG.imp {X : Cx} {e : Expr} {t t' : TG} (h : PG X e t) (i : ∀ v σ H Q, t' v σ H Q → t v σ H Q) : PG X e t' := ⟨fun pins s σ H v u Q I r q => h.run pins s σ H v u Q I r (i v σ H Q q)⟩
theorem PI.imp {X : Cx} {tg e : Expr} {t t' : TI} (h : PI X tg e t) (i : ∀ σ H Q, t' σ H Q → t σ H Q) : PI X tg e t' := ⟨fun pins s σ H Q I q => h.run pins s σ H Q I (i σ H Q q)⟩
theorem PTs.imp {X : Cx} {e : List Expr} {t t' : TT} (h : PTs X e t) (i : ∀ σ H Q, t' σ H Q → t σ H Q) : PTs X e t' := ⟨fun pins s σ H Q I q => h.run pins s σ H Q I (i σ H Q q)⟩

/-! ### what is walked -/
/-- what a walk may lean on: the frozen part lies in the heap, the cells of L0 stand -/
structure OwnL (K : PySem.W.Frag) (L0 : List Cell) (F H : Hp) : Prop where
  fH : Ex F H
  ow : ∃ R L', Own K R F H L' ∧ ∀ c ∈ L0, c ∈ L'
structure Srv {α : Type} [Rep α] (K : PySem.W.Frag) (L0 : List Cell) (J : It) (F1 : Hp) (as : List α) : Prop where
  go : ∀ i F H, i < as.length → Ex F1 F → OwnL K L0 F H → J.go i H ∧ ∀ x H', J.yld i H x H' → ∃ F', Gro F H F' H' ∧ ∃ a, as[i]? = some a ∧ Rep.rp K F' x a
  stop : ∀ i F H, as.length ≤ i → Ex F1 F → OwnL K L0 F H → J.stop i H
def iS {α : Type} [Rep α] (C : Cz) (env : Env) (L L0 : List Cell) (as : List α) : TI := fun σ H Rr => ∃ F, Sta C F env L σ H ∧ ∀ J F1 H1, Gw F H F1 H1 → Sta C F1 env L σ H1 → Srv C.X.K L0 J F1 as → as.length ≤ sizeLine → Rr J H1
structure EIO {α : Type} [Rep α] (C : Cz) (env : Env) (L L0 : List Cell) (tg e : Expr) (as : List α) : Prop where
  p : PI C.X tg e (iS C env L L0 as)
abbrev EI {α : Type} [Rep α] (C : Cz) (env : Env) (L : List Cell) (tg e : Expr) (as : List α) : Prop := EIO C env L [] tg e as
/-- but for the slots js the frame's values are as before -/
def Chg (js : List Nat) (σ σ' : St) : Prop := ∀ vs : List Nat, (∀ j ∈ js, j ∈ vs) → wipe σ' vs = wipe σ vs
theorem Chg.rf (σ : St) : Chg [] σ σ := fun _ _ => rfl
theorem Chg.tr {js ks : List Nat} {σ σ1 σ2 : St} (a : Chg js σ σ1) (b : Chg ks σ1 σ2) : Chg (js ++ ks) σ σ2 := fun vs h => (b vs fun j hj => h j (List.mem_append_right _ hj)).trans (a vs fun j hj => h j (List.mem_append_left _ hj))
theorem wipe_set_in {σ : St} {i : Nat} {o : Option V} : ∀ {vs : List Nat}, (i ∈ vs → wipe (σ.set i o) vs = wipe σ vs) ∧ (i ∉ vs → wipe (σ.set i o) vs = (wipe σ vs).set i o)
  | [] => ⟨fun h => (by cases h), fun _ => rfl⟩
  | v :: vs => by
    obtain ⟨h1, h2⟩ := @wipe_set_in σ i o vs
    constructor
    · intro h
      show (wipe (σ.set i o) vs).set v none = (wipe σ vs).set v none
      by_cases hi : i ∈ vs
      · rw [h1 hi]
      · rw [h2 hi]
        rcases List.mem_cons.mp h with rfl | h
        · rw [List.set_set]
        · exact absurd h hi
    · intro h
      show (wipe (σ.set i o) vs).set v none = ((wipe σ vs).set v none).set i o
      have hv : i ≠ v := fun e => h (by rw [e]; exact List.mem_cons_self)
      have hi : i ∉ vs := fun e => h (List.mem_cons_of_mem _ e)
      rw [h2 hi, List.set_comm _ _ (by exact hv)]
theorem Chg.set (σ : St) (i : Nat) (o : Option V) : Chg [i] σ (σ.set i o) := fun vs h => wipe_set_in.1 (h i List.mem_cons_self)
theorem wipe_wipe (σ : St) : ∀ vs ws : List Nat, (∀ v ∈ vs, v ∈ ws) → wipe (wipe σ vs) ws = wipe σ ws
  | [], _, _ => rfl
  | v :: vs, ws, h => by
    show wipe ((wipe σ vs).set v none) ws = wipe σ ws
    rw [wipe_set_in.1 (h v List.mem_cons_self)]
    exact wipe_wipe σ vs ws fun x hx => h x (List.mem_cons_of_mem _ hx)
/-- the target of an assignment -/
def gS (C : Cz) (env : Env) (L : List Cell) (r : Ent) (env' : Env) (js : List Nat) : TG := fun v σ H Q => ∃ F, Sta C F env L σ H ∧ r.rp C.X.K F v ∧ ∀ σ' F' H', Gw F H F' H' → Sta C F' env' L σ' H' → Chg js σ σ' → Q σ' H'
structure G (C : Cz) (env : Env) (L : List Cell) (tg : Expr) (r : Ent) (env' : Env) (js : List Nat) : Prop where
  p : PG C.X tg (gS C env L r env' js)
section
variable {C : Cz} {k j : Nat} {env env' env2 env3 : Env} {L LR : List Cell} {e a b c tg iter : Expr} {es : List Expr} {r r1 r2 r3 : Ent} {rs : List Ent} {pos p apos : Pos} {Q : Po} {st : Stmt} {rest body : List Stmt} {x : Str}
theorem G_name (i : Nat) (hN : C.X.N.Nodup) (hi : C.X.N[i]? = some x := by rfl) (hl : Loc C.X.env.scope x := by first | exact Or.inl rfl | exact Or.inr rfl) (hf : C.X.fn x = true ∨ C.X.env.scope.names.lookup x = some .local := by first | exact Or.inl rfl | exact Or.inr rfl) : G C env L (.Name x p) r (env.set i (some r)) [i] :=
  ⟨PG.imp (pg_name hN hi hl hf) fun v σ H Q ⟨F, s, rv, q⟩ => q _ F H (Gw.rf F H) ⟨s.sl.put rv i, s.ow⟩ (Chg.set σ i _)⟩
structure Gs (C : Cz) (env : Env) (L : List Cell) (tgs : List Expr) (rs : List Ent) (env' : Env) (js : List Nat) : Prop where
  p : PGs C.X tgs (fun vs σ H Q => ∃ F, Sta C F env L σ H ∧ Pr (fun v r => Ent.rp r C.X.K F v) vs rs ∧ ∀ σ' F' H', Gw F H F' H' → Sta C F' env' L σ' H' → Chg js σ σ' → Q σ' H')
theorem PGs.imp {X : Cx} {e : List Expr} {t t' : TGs} (h : PGs X e t) (i : ∀ v σ H Q, t' v σ H Q → t v σ H Q) : PGs X e t' := ⟨fun pins s σ H v u Q I r q => h.run pins s σ H v u Q I r (i v σ H Q q)⟩
theorem Gs_nil : Gs C env L [] [] env [] := ⟨PGs.imp pgs_nil fun vs σ H Q ⟨F, s, rv, q⟩ => by
  cases rv
  exact ⟨rfl, q σ F H (Gw.rf F H) s (Chg.rf σ)⟩⟩
theorem Gs_cons {js ks : List Nat} (h : G C env L e r env2 js) (h2 : Gs C env2 L es rs env3 ks) (hs : (assignEach (e :: es) C.X.env).map (·.2) = assign e C.X.env :: (assignEach es C.X.env).map (·.2) := by rfl) : Gs C env L (e :: es) (r :: rs) env3 (js ++ ks) := ⟨PGs.imp (pgs_cons h.p h2.p hs) fun vs σ H Q ⟨F, s, rv, q⟩ => by
  cases rv with
  | cons rv t => exact ⟨_, _, rfl, F, s, rv, fun σ' F' H' x s' c1 => ⟨F', s', t.imp fun _ _ => Ent.mono x.f, fun σ2 F2 H2 x2 s2 c2 => q σ2 F2 H2 (x.tr x2) s2 (c1.tr c2)⟩⟩⟩
theorem G_tup {js : List Nat} {α : Type} [Rep α] {x : α} (ok : C.Ok k) (hr : ∀ F v, Rep.rp C.X.K F v x → ∃ p vs, v = .ref p ∧ SqT C.X.K F p vs ∧ Pr (fun v r => Ent.rp r C.X.K F v) vs rs) (h : Gs C env L es rs env2 js) {kt} (hn : (assignEach es C.X.env).length = rs.length := by rfl) (hst : (assignEach es C.X.env).findIdx? (·.1) = none := by rfl) : G C env L (.Tuple es kt pos) ⟨x⟩ env2 js :=
  ⟨PG.imp (pg_tup ok.calm h.p hn hst) fun v σ H Q ⟨F, s, rv, q⟩ => by
    obtain ⟨p, vs, rfl, h1, h2⟩ := hr F v rv
    exact ⟨p, vs, rfl, ex_t s.ow.fH h1, h2.length, F, s, h2, q⟩⟩
theorem G_t2 {js : List Nat} {α β : Type} [Rep α] [Rep β] {x : α} {y : β} (ok : C.Ok k) (h : Gs C env L es [⟨x⟩, ⟨y⟩] env2 js) {kt} (hn : (assignEach es C.X.env).length = 2 := by rfl) (hst : (assignEach es C.X.env).findIdx? (·.1) = none := by rfl) : G C env L (.Tuple es kt pos) ⟨(P2.mk x y)⟩ env2 js :=
  G_tup (rs := [⟨x⟩, ⟨y⟩]) ok (fun F v hv => by
    obtain ⟨p, x, y, h1, h2, h3, h4⟩ := hv
    exact ⟨p, _, h1, h2, .cons h3 (.cons h4 .nil)⟩) h hn hst
theorem G_t3 {js : List Nat} {α β γ : Type} [Rep α] [Rep β] [Rep γ] {x : α} {y : β} {z : γ} (ok : C.Ok k) (h : Gs C env L es [⟨x⟩, ⟨y⟩, ⟨z⟩] env2 js) {kt} (hn : (assignEach es C.X.env).length = 3 := by rfl) (hst : (assignEach es C.X.env).findIdx? (·.1) = none := by rfl) : G C env L (.Tuple es kt pos) ⟨(P3.mk x y z)⟩ env2 js :=
  G_tup (rs := [⟨x⟩, ⟨y⟩, ⟨z⟩]) ok (fun F v hv => by
    obtain ⟨p, x, y, z, h1, h2, h3, h4, h5⟩ := hv
    exact ⟨p, _, h1, h2, .cons h3 (.cons h4 (.cons h5 .nil))⟩) h hn hst

/-- for -/
theorem S_for {α : Type} [Rep α] {as : List α} {L0 : List Cell} (ok : C.Ok k) (Inv : Nat → Env → List Cell → Prop) (hi : EIO C env L L0 tg iter as) (h0 : Inv 0 env L)
    (hs : ∀ i a env' L', as[i]? = some a → Inv i env' L' → ∃ env2 js, G C env' L' tg ⟨a⟩ env2 js ∧ S C env2 L' body { Q with nx := Inv (i + 1), ct := Inv (i + 1), bk := fun e l => S C e l rest Q })
    (hd : ∀ env' L', Inv as.length env' L' → S C env' L' rest Q) (hf : ∀ x, foldedSetIterable iter C.X.env x = pure x := by intro _; rfl) (hh : ∀ i env' L', Inv i env' L' → ∀ c ∈ L0, c ∈ L' := by intro _ _ _ _ c hc; cases hc) : S C env L (.For tg iter body [] pos :: rest) Q := by
  refine S_cons ⟨PS.imp (ps_for ok.po ok.calm hi.p
    (PG.ex (ι := ULift.{1} (Nat × α × List Nat) × Env × List Cell × Env) (p := fun z => as[z.1.down.1]? = some z.1.down.2.1 ∧ Inv z.1.down.1 z.2.1 z.2.2.1 ∧ G C z.2.1 z.2.2.1 tg ⟨z.1.down.2.1⟩ z.2.2.2 z.1.down.2.2) (t := fun z => gS C z.2.1 z.2.2.1 ⟨z.1.down.2.1⟩ z.2.2.2 z.1.down.2.2) fun z h => h.2.2.p)
    (PSs.ex (ι := ULift.{1} Nat × Env × List Cell) (p := fun z => S C z.2.1 z.2.2 body { Q with nx := Inv (z.1.down + 1), ct := Inv (z.1.down + 1), bk := fun e l => S C e l rest Q })
      (t := fun z => sS C z.2.1 z.2.2 { Q with nx := Inv (z.1.down + 1), ct := Inv (z.1.down + 1), bk := fun e l => S C e l rest Q }) fun z h => h.p) hf) ?_⟩
  intro D σ H ⟨F, s, n⟩
  refine ⟨F, s, fun J F1 H1 x1 s1 sv hz => ⟨fun i m σ H => m = as.length - i ∧ i ≤ as.length ∧ ∃ env' L' F', Inv i env' L' ∧ Ex F1 F' ∧ Sta C F' env' L' σ H, ⟨as.length, by simp, Nat.zero_le _, env, L, F1, h0, Ex.rf F1, s1⟩, ?_⟩⟩
  rintro i m σ H ⟨rfl, hi, env', L', F', inv, x, s'⟩
  by_cases hlt : i < as.length
  · obtain ⟨go, yl⟩ := sv.go i F' H hlt x ⟨s'.ow.fH, _, L', s'.ow, hh _ _ _ inv⟩
    refine .inr ⟨go, fun σ' H' => ∃ env2 L2 F2, Inv (i + 1) env2 L2 ∧ Ex F1 F2 ∧ Sta C F2 env2 L2 σ' H', fun σ' H' ⟨env2, L2, F2, z1, z2, z3⟩ => ⟨as.length - (i + 1), by omega, rfl, hlt, env2, L2, F2, z1, z2, z3⟩, fun v H2 y => ?_⟩
    obtain ⟨F2, g, a, ha, rv⟩ := yl v H2 y
    obtain ⟨env2, js, hG, hB⟩ := hs i a env' L' ha inv
    refine ⟨(⟨(i, a, js)⟩, env', L', env2), ⟨ha, inv, hG⟩, F2, s'.gro g, rv, fun σ3 F3 H3 x3 s3 _ => ⟨(⟨i⟩, env2, L'), hB, F3, s3, ?_⟩⟩
    have xx : Ex F F3 := ((x1.f.tr x).tr g.f).tr x3.f
    have xy : Ex F1 F3 := (x.tr g.f).tr x3.f
    exact ⟨fun e l σ4 F4 H4 q x4 s4 => ⟨e, l, F4, q, xy.tr x4, s4⟩, fun a b c d e h y s => n.rt a b c d e h (xx.tr y) s, fun e l σ4 F4 H4 q x4 s4 => n.nx e l σ4 F4 H4 q (xx.tr x4) s4, fun e l σ4 F4 H4 q x4 s4 => ⟨e, l, F4, q, xy.tr x4, s4⟩, fun a b c d e f g h y s => n.ex a b c d e f g h (xx.tr y) s⟩
  · have e : i = as.length := by omega
    subst e
    exact .inl ⟨sv.stop _ F' H (Nat.le_refl _) x ⟨s'.ow.fH, _, L', s'.ow, hh _ _ _ inv⟩, n.nx env' L' σ F' H (hd env' L' inv) (x1.f.tr x) s'⟩

/-- while -/
theorem S_while (ok : C.Ok k) (Inv : Nat → Env → List Cell → Prop) (m0 : Nat) (h0 : Inv m0 env L)
    (hs : ∀ m env' L', Inv m env' L' → ∃ bo, T C env' L' c bo ∧ (bo = true → S C env' L' body { Q with nx := fun e l => ∃ m', m' < m ∧ Inv m' e l, ct := fun e l => ∃ m', m' < m ∧ Inv m' e l, bk := fun e l => S C e l rest Q }) ∧ (bo = false → S C env' L' rest Q)) :
    S C env L (.While c body [] pos :: rest) Q := by
  refine S_cons ⟨PS.imp (ps_while ok.po
    (PT.ex (ι := ULift.{1} Bool × Env × List Cell) (p := fun z => T C z.2.1 z.2.2 c z.1.down) (t := fun z => eT C z.2.1 z.2.2 z.1.down) fun z h => h.p)
    (PSs.ex (ι := ULift.{1} Nat × Env × List Cell) (p := fun z => S C z.2.1 z.2.2 body { Q with nx := fun e l => ∃ m', m' < z.1.down ∧ Inv m' e l, ct := fun e l => ∃ m', m' < z.1.down ∧ Inv m' e l, bk := fun e l => S C e l rest Q })
      (t := fun z => sS C z.2.1 z.2.2 { Q with nx := fun e l => ∃ m', m' < z.1.down ∧ Inv m' e l, ct := fun e l => ∃ m', m' < z.1.down ∧ Inv m' e l, bk := fun e l => S C e l rest Q }) fun z h => h.p)) ?_⟩
  intro D σ H ⟨F, s, n⟩
  refine ⟨fun m σ H => ∃ env' L' F', Inv m env' L' ∧ Ex F F' ∧ Sta C F' env' L' σ H, ⟨m0, env, L, F, h0, Ex.rf F, s⟩, ?_⟩
  rintro m σ H ⟨env', L', F', inv, x, s'⟩
  obtain ⟨bo, hT, h1, h2⟩ := hs m env' L' inv
  refine ⟨(⟨bo⟩, env', L'), hT, F', s', fun F2 H2 x2 s2 => ?_⟩
  cases bo with
  | true =>
    refine iteT ⟨fun σ' H' => ∃ m', m' < m ∧ ∃ env' L' F', Inv m' env' L' ∧ Ex F F' ∧ Sta C F' env' L' σ' H', fun σ' H' z => z, (⟨m⟩, env', L'), h1 rfl, F2, s2, ?_⟩
    have xx : Ex F F2 := x.tr x2.f
    exact ⟨fun e l σ4 F4 H4 ⟨m', z, q⟩ x4 s4 => ⟨m', z, e, l, F4, q, xx.tr x4, s4⟩, fun a b c d e h y s => n.rt a b c d e h (xx.tr y) s, fun e l σ4 F4 H4 q x4 s4 => n.nx e l σ4 F4 H4 q (xx.tr x4) s4, fun e l σ4 F4 H4 ⟨m', z, q⟩ x4 s4 => ⟨m', z, e, l, F4, q, xx.tr x4, s4⟩, fun a b c d e f g h y s => n.ex a b c d e f g h (xx.tr y) s⟩
  | false =>
    refine iteF ?_
    exact n.nx env' L' σ F2 H2 (h2 rfl) (x.tr x2.f) s2

/-! what is walked: lists, ranges, texts -/
theorem EI_list {α : Type} [Rep α] {as : List α} (h : E C env L e ⟨as⟩) : EI C env L tg e as := ⟨PI.imp (pi_list h.p) fun σ H Rr ⟨F, s, q⟩ => ⟨F, s, fun v F1 H1 x s1 ⟨p, vs, h1, h2, h3, h4⟩ => ⟨p, h1, ⟨vs, sq_of (s1.ow.fH _ _ h2)⟩, q _ F1 H1 x s1 ⟨fun i F2 H2 hi x2 x3 => by
    have hv : i < vs.length := by rw [h3.length]; exact hi
    refine ⟨⟨vs, vs[i], sq_of (x3.1 _ _ (x2 _ _ h2)), List.getElem?_eq_getElem hv⟩, fun y H3 ⟨e1, e2⟩ => ?_⟩
    subst e1
    have e3 := e2 vs (sq_of (x3.1 _ _ (x2 _ _ h2)))
    obtain ⟨a, h5, h6⟩ := h3.getL e3
    exact ⟨F2, Gro.rf x3.1, a, h5, Rep.mono x2 h6⟩, fun i F2 H2 hi x2 x3 => ⟨vs, sq_of (x3.1 _ _ (x2 _ _ h2)), by rw [h3.length]; exact hi⟩⟩ h4⟩⟩⟩
theorem EI_lstO {α : Type} [Rep α] {as : List α} {l : Addr} (h : E C env L e ⟨(At.mk l)⟩) (hL : Cell.lst l as ∈ L) : EIO C env L [Cell.lst l as] tg e as := ⟨PI.imp (pi_list h.p) fun σ H Rr ⟨F, s, q⟩ => ⟨F, s, fun v F1 H1 x s1 rv => by
  have rv : v = V.ref l := rv
  subst rv
  obtain ⟨⟨vs0, g1, g2⟩, g3⟩ := s1.ow.ok _ hL
  have stand : ∀ F2 H2, OwnL C.X.K [Cell.lst l as] F2 H2 → ∃ vs, H2 l = some (.lst vs) ∧ Pr (Rep.rp C.X.K F2) vs as := fun F2 H2 x3 => by
    obtain ⟨R, L', o, hin⟩ := x3.ow
    exact (o.ok _ (hin _ List.mem_cons_self)).1
  refine ⟨l, rfl, ⟨vs0, sq_of g1⟩, q _ F1 H1 x s1 ⟨fun i F2 H2 hi x2 x3 => ?_, fun i F2 H2 hi x2 x3 => ?_⟩ g3⟩
  · obtain ⟨vs, h1, h3⟩ := stand F2 H2 x3
    have hv : i < vs.length := by rw [h3.length]; exact hi
    refine ⟨⟨vs, vs[i], sq_of h1, List.getElem?_eq_getElem hv⟩, fun y H3 ⟨e1, e2⟩ => ?_⟩
    subst e1
    have e3 := e2 vs (sq_of h1)
    obtain ⟨a, h5, h6⟩ := h3.getL e3
    exact ⟨F2, Gro.rf x3.1, a, h5, h6⟩
  · obtain ⟨vs, h1, h3⟩ := stand F2 H2 x3
    exact ⟨vs, sq_of h1, by rw [h3.length]; exact hi⟩⟩⟩
theorem EI_scr {n : List Int} (h : E C env L e ⟨(Scr.mk n)⟩) : EI C env L tg e n := ⟨PI.imp (pi_list h.p) fun σ H Rr ⟨F, s, q⟩ => ⟨F, s, fun v F1 H1 x s1 ⟨p, h1, h2, h4⟩ => ⟨p, h1, ⟨_, ex_l s1.ow.fH h2⟩, q _ F1 H1 x s1 ⟨fun i F2 H2 hi x2 x3 => by
    have hv : i < n.length := hi
    refine ⟨⟨_, V.int n[i], ex_l x3.1 (ex_l x2 h2), by simp [hv]⟩, fun y H3 ⟨e1, e2⟩ => ?_⟩
    subst e1
    have e3 := e2 _ (ex_l x3.1 (ex_l x2 h2))
    rw [List.getElem?_map, List.getElem?_eq_getElem hv] at e3
    exact ⟨F2, Gro.rf x3.1, n[i], List.getElem?_eq_getElem hv, (Option.some.inj e3).symm⟩, fun i F2 H2 hi x2 x3 => ⟨_, ex_l x3.1 (ex_l x2 h2), by rw [List.length_map]; exact hi⟩⟩ (Nat.le_trans h4 (by decide))⟩⟩⟩
theorem EI_tup {α : Type} [Rep α] {as : Tup α} (h : E C env L e ⟨as⟩) : EI C env L tg e as.l := ⟨PI.imp (pi_tup h.p) fun σ H Rr ⟨F, s, q⟩ => ⟨F, s, fun v F1 H1 x s1 ⟨p, vs, h1, h2, h3, h4⟩ => ⟨p, h1, ⟨vs, ex_t s1.ow.fH h2⟩, q _ F1 H1 x s1 ⟨fun i F2 H2 hi x2 x3 => by
    have hv : i < vs.length := by rw [h3.length]; exact hi
    refine ⟨⟨vs, vs[i], ex_t x3.1 (ex_t x2 h2), List.getElem?_eq_getElem hv⟩, fun y H3 ⟨e1, e2⟩ => ?_⟩
    subst e1
    have e3 := e2 vs (ex_t x3.1 (ex_t x2 h2))
    obtain ⟨a, h5, h6⟩ := h3.getL e3
    exact ⟨F2, Gro.rf x3.1, a, h5, Rep.mono x2 h6⟩, fun i F2 H2 hi x2 x3 => ⟨vs, ex_t x3.1 (ex_t x2 h2), by rw [h3.length]; exact hi⟩⟩ h4⟩⟩⟩
def rng (lo : Int) (n : Nat) : List Int := (List.range n).map fun (i : Nat) => lo + (i : Int)
theorem rng_len (lo : Int) (n : Nat) : (rng lo n).length = n := by unfold rng; simp
theorem rng_get {lo : Int} {n i : Nat} (h : i < n) : (rng lo n)[i]? = some (lo + (i : Int)) := by unfold rng; simp [h]
theorem rng_of {lo x : Int} {n i : Nat} (h : (rng lo n)[i]? = some x) : i < n ∧ x = lo + (i : Int) := by
  have h1 : i < n := by
    have := (List.getElem?_eq_some_iff.mp h).1
    rwa [rng_len] at this
  rw [rng_get h1] at h
  exact ⟨h1, (Option.some.inj h).symm⟩
theorem rng0_of {x : Int} {n i : Nat} (h : (rng 0 n)[i]? = some x) : i < n ∧ x = (i : Int) := by
  obtain ⟨h1, h2⟩ := rng_of h
  exact ⟨h1, by omega⟩
theorem srv_rng {lo : Int} {n : Nat} {K F1} : Srv K [] (Itr lo n) F1 (rng lo n) := ⟨fun i F2 H2 hi x2 x3 => ⟨by rw [rng_len] at hi; exact hi, fun y H3 ⟨e1, e2⟩ => by
    subst e1
    rw [rng_len] at hi
    exact ⟨F2, Gro.rf x3.1, lo + i, rng_get hi, e2⟩⟩, fun i F2 H2 hi x2 x3 => by rw [rng_len] at hi; exact hi⟩
theorem EI_rng1 {n : Int} (he : E C env L e ⟨n⟩) (hm : C.X.mg "range" = none) (hn : n ≤ 16777216) (hn0 : -(2 ^ 62) ≤ n := by omega) (hg : Gl C.X "range" := by rfl) (hs : starEach [e] C.X.env = [(false, eval e C.X.env)] := by rfl) : EI C env L tg (.Call (.Name "range" p) [e] [] pos) (rng 0 n.toNat) :=
  ⟨PI.imp (pi_range1 hg hm (A_cons he A_nil hs).p hs) fun σ H Rr ⟨F, s, q⟩ => ⟨F, s, fun vs F1 H1 x s1 rv => by
    cases rv with
    | cons r1 t =>
      cases t
      have r1 : _ = V.int n := r1
      subst r1
      exact ⟨n, rfl, hn0, by omega, q _ F1 H1 x s1 srv_rng (by rw [rng_len, sizeLine_eq]; omega)⟩⟩⟩
theorem EI_rng2 {m n : Int} (ha : E C env L a ⟨m⟩) (he : E C env L e ⟨n⟩) (hm : C.X.mg "range" = none) (hn : n ≤ 16777216) (hm1 : m ≤ 16777216) (hm0 : 0 ≤ m) (hn0 : -(2 ^ 62) ≤ n := by omega) (hg : Gl C.X "range" := by rfl) (hs : starEach [a, e] C.X.env = [(false, eval a C.X.env), (false, eval e C.X.env)] := by rfl) (hs2 : starEach [e] C.X.env = [(false, eval e C.X.env)] := by rfl) : EI C env L tg (.Call (.Name "range" p) [a, e] [] pos) (rng m (n - m).toNat) :=
  ⟨PI.imp (pi_range2 hg hm (A_cons ha (A_cons he A_nil hs2) (by rw [hs, hs2])).p hs hs2) fun σ H Rr ⟨F, s, q⟩ => ⟨F, s, fun vs F1 H1 x s1 rv => by
    cases rv with
    | cons r1 t =>
      cases t with
      | cons r2 t =>
      cases t
      have r1 : _ = V.int m := r1
      have r2 : _ = V.int n := r2
      subst r1 r2
      exact ⟨m, n, rfl, ⟨by omega, by omega, hn0, by omega⟩, q _ F1 H1 x s1 srv_rng (by rw [rng_len, sizeLine_eq]; omega)⟩⟩⟩
/-- range(a, b, -1) -/
def rngD (lo : Int) (n : Nat) : List Int := (List.range n).map fun (i : Nat) => lo - (i : Int)
theorem rngD_len (lo : Int) (n : Nat) : (rngD lo n).length = n := by unfold rngD; simp
theorem rngD_get {lo : Int} {n i : Nat} (h : i < n) : (rngD lo n)[i]? = some (lo - (i : Int)) := by unfold rngD; simp [h]
theorem rngD_of {lo x : Int} {n i : Nat} (h : (rngD lo n)[i]? = some x) : i < n ∧ x = lo - (i : Int) := by
  have h1 : i < n := by
    have := (List.getElem?_eq_some_iff.mp h).1
    rwa [rngD_len] at this
  rw [rngD_get h1] at h
  exact ⟨h1, (Option.some.inj h).symm⟩
theorem srv_rngD {lo : Int} {n : Nat} {K F1} : Srv K [] (Itc lo (-1) n) F1 (rngD lo n) := ⟨fun i F2 H2 hi x2 x3 => ⟨by rw [rngD_len] at hi; exact hi, fun y H3 ⟨e1, e2⟩ => by
    subst e1
    rw [rngD_len] at hi
    have e3 : lo + (i : Int) * (-1) = lo - (i : Int) := by omega
    rw [e3] at e2
    exact ⟨F2, Gro.rf x3.1, lo - i, rngD_get hi, e2⟩⟩, fun i F2 H2 hi x2 x3 => by rw [rngD_len] at hi; exact hi⟩
theorem EI_rng3 {m n : Int} (ha : E C env L a ⟨m⟩) (he : E C env L e ⟨n⟩) (hc : E C env L c ⟨(-1 : Int)⟩) (hm : C.X.mg "range" = none) (hb : -16777216 ≤ m ∧ m ≤ 16777216 ∧ -16777216 ≤ n ∧ n ≤ 16777216) (hb2 : m - n ≤ 16777216) (hg : Gl C.X "range" := by rfl) (hs : starEach [a, e, c] C.X.env = [(false, eval a C.X.env), (false, eval e C.X.env), (false, eval c C.X.env)] := by rfl) (hs2 : starEach [e, c] C.X.env = [(false, eval e C.X.env), (false, eval c C.X.env)] := by rfl) (hs3 : starEach [c] C.X.env = [(false, eval c C.X.env)] := by rfl) (hpl : (backTo pos (starEach [e, c] C.X.env)).any (·.1) = false := by rfl) : EI C env L tg (.Call (.Name "range" p) [a, e, c] [] pos) (rngD m (m - n).toNat) :=
  ⟨PI.imp (pi_range3 hg hm (A_cons ha (A_cons he (A_cons hc A_nil hs3) (by rw [hs2, hs3])) (by rw [hs, hs2])).p (by rw [hs, hs2]) hpl) fun σ H Rr ⟨F, s, q⟩ => ⟨F, s, fun vs F1 H1 x s1 rv => by
    cases rv with
    | cons r1 t =>
      cases t with
      | cons r2 t =>
      cases t with
      | cons r3 t =>
      cases t
      have r1 : _ = V.int m := r1
      have r2 : _ = V.int n := r2
      have r3 : _ = V.int (-1) := r3
      subst r1 r2 r3
      exact ⟨m, n, -1, _, rfl, RgC.neg (by omega) (by omega) (by omega) (by omega), q _ F1 H1 x s1 srv_rngD (by rw [rngD_len, sizeLine_eq]; omega)⟩⟩⟩
/-- the signs of a text -/
def signs (z : Str) : List Str := z.cps.toList.map fun c => ⟨#[c]⟩
theorem sok_sign {z : Str} {c i : Nat} (h : SOk z) (hc : z.cps.toList[i]? = some c) : SOk ⟨#[c]⟩ := ⟨by show 1 ≤ sizeLine; decide, by
  have := List.all_eq_true.mp h.ok c (List.mem_of_getElem? hc)
  simpa using this⟩
theorem EI_str {z : Str} (he : E C env L e ⟨z⟩) : EI C env L tg e (signs z) := ⟨PI.imp (pi_str he.p) fun σ H Rr ⟨F, s, q⟩ => ⟨F, s, fun v F1 H1 x s1 ⟨rv, hz⟩ => ⟨z, rv, q _ F1 H1 x s1 ⟨fun i F2 H2 hi x2 x3 => by
    have hi' : i < z.cps.size := by unfold signs at hi; simpa using hi
    refine ⟨hi', fun y H3 ⟨e1, c, e2, e3⟩ => ?_⟩
    subst e1
    rw [← Array.getElem?_toList] at e2
    refine ⟨F2, Gro.rf x3.1, ⟨#[c]⟩, ?_, e3, sok_sign hz e2⟩
    unfold signs
    rw [List.getElem?_map]
    rw [e2]; rfl, fun i F2 H2 hi x2 x3 => (by
    unfold signs at hi
    show z.cps.size ≤ i
    simpa using hi)⟩ (by
    unfold signs
    rw [List.length_map, Array.length_toList]
    exact hz.le)⟩⟩⟩
end
end Py

namespace Py
open PySem PySem.Spec PyProof.Rows L2

/-! ### operators on data -/
section
variable {X : Cx}
theorem bin_addI {i j : Int} : Bin X .Add ⟨i⟩ ⟨j⟩ ⟨i + j⟩ := ⟨⟨_, op_add, fun F H v1 v2 Q e h1 h2 q => ⟨i, j, h1, h2, q _ F H (Gro.rf e) rfl⟩⟩⟩
theorem bin_subI {i j : Int} : Bin X .Sub ⟨i⟩ ⟨j⟩ ⟨i - j⟩ := ⟨⟨_, op_sub, fun F H v1 v2 Q e h1 h2 q => ⟨i, j, h1, h2, q _ F H (Gro.rf e) rfl⟩⟩⟩
theorem bin_mulI {i j : Int} (h : CMul i j) : Bin X .Mult ⟨i⟩ ⟨j⟩ ⟨i * j⟩ := ⟨⟨_, op_mul, fun F H v1 v2 Q e h1 h2 q => ⟨i, j, h1, h2, h, q _ F H (Gro.rf e) rfl⟩⟩⟩
theorem bin_fdivI {i j : Int} (h : 0 < j ∧ j < 1073741824) : Bin X .FloorDiv ⟨i⟩ ⟨j⟩ ⟨i / j⟩ := ⟨⟨_, op_fdiv, fun F H v1 v2 Q e h1 h2 q => ⟨i, j, h1, h2, h, q _ F H (Gro.rf e) rfl⟩⟩⟩
theorem bin_modI {i j : Int} (h : 0 < j) : Bin X .Mod ⟨i⟩ ⟨j⟩ ⟨i % j⟩ := ⟨⟨_, op_mod, fun F H v1 v2 Q e h1 h2 q => ⟨i, j, h1, h2, h, q _ F H (Gro.rf e) rfl⟩⟩⟩
theorem bin_powI {i j : Int} (h : 0 ≤ j ∧ j ≤ 1000000 ∧ i.natAbs < 2 ^ 64) : Bin X .Pow ⟨i⟩ ⟨j⟩ ⟨i ^ j.toNat⟩ := ⟨⟨_, op_pow, fun F H v1 v2 Q e h1 h2 q => ⟨i, j, h1, h2, h, q _ F H (Gro.rf e) rfl⟩⟩⟩
theorem una_negI {i : Int} : Una X .USub ⟨i⟩ ⟨-i⟩ := ⟨⟨_, un_neg, fun F H v1 Q e h1 q => ⟨i, h1, q _ F H (Gro.rf e) rfl⟩⟩⟩
theorem str_len_append (i j : Str) : (i ++ j).length = i.length + j.length := by
  show (i.cps ++ j.cps).size = _
  rw [Array.size_append]; rfl
theorem str_cps_append (i j : Str) : (i ++ j).cps.toList = i.cps.toList ++ j.cps.toList := by
  show (i.cps ++ j.cps).toList = _
  simp
theorem sok_append {i j : Str} (h : i.length + j.length ≤ sizeLine) (h1 : SOk i) (h2 : SOk j) : SOk (i ++ j) := ⟨by rw [str_len_append]; exact h, by rw [str_cps_append, List.all_append, h1.ok, h2.ok]; rfl⟩
theorem bin_addS {i j : Str} (h : i.length + j.length ≤ sizeLine) : Bin X .Add ⟨i⟩ ⟨j⟩ ⟨i ++ j⟩ := ⟨⟨_, op_add_str, fun F H v1 v2 Q e h1 h2 q => ⟨i, j, h1.1, h2.1, h, q _ F H (Gro.rf e) ⟨rfl, sok_append h h1.2 h2.2⟩⟩⟩⟩
theorem bin_catL {α : Type} [Rep α] {as bs : List α} (h : as.length + bs.length ≤ sizeLine) : Bin X .Add ⟨as⟩ ⟨bs⟩ ⟨as ++ bs⟩ := ⟨⟨_, op_cat, fun F H v1 v2 Q e h1 h2 q => by
  obtain ⟨p1, vs1, rfl, a1, b1, c1⟩ := h1
  obtain ⟨p2, vs2, rfl, a2, b2, c2⟩ := h2
  refine ⟨p1, p2, vs1, vs2, rfl, rfl, e _ _ a1, e _ _ a2, by rw [b1.length, b2.length]; exact h, fun p hp => q _ _ _ (Gro.new e hp) ⟨p, _, rfl, upd_same, ?_, by rw [List.length_append]; exact h⟩⟩
  exact (b1.append b2).imp fun _ _ => Rep.mono (Ex.new (Ex.free e hp))⟩⟩
theorem cmp_ltI {i j : Int} : Cmp X .Lt ⟨i⟩ ⟨j⟩ ⟨decide (i < j)⟩ := ⟨⟨_, op_lt, fun F H v1 v2 Q e h1 h2 q => ⟨i, j, h1, h2, q _ F H (Gro.rf e) rfl⟩⟩⟩
theorem cmp_leI {i j : Int} : Cmp X .LtE ⟨i⟩ ⟨j⟩ ⟨decide (i ≤ j)⟩ := ⟨⟨_, op_le, fun F H v1 v2 Q e h1 h2 q => ⟨i, j, h1, h2, q _ F H (Gro.rf e) rfl⟩⟩⟩
theorem cmp_gtI {i j : Int} : Cmp X .Gt ⟨i⟩ ⟨j⟩ ⟨decide (j < i)⟩ := ⟨⟨_, op_gt, fun F H v1 v2 Q e h1 h2 q => ⟨i, j, h1, h2, q _ F H (Gro.rf e) rfl⟩⟩⟩
theorem cmp_geI {i j : Int} : Cmp X .GtE ⟨i⟩ ⟨j⟩ ⟨decide (j ≤ i)⟩ := ⟨⟨_, op_ge, fun F H v1 v2 Q e h1 h2 q => ⟨i, j, h1, h2, q _ F H (Gro.rf e) rfl⟩⟩⟩
theorem cmp_eqI {i j : Int} : Cmp X .Eq ⟨i⟩ ⟨j⟩ ⟨decide (i = j)⟩ := ⟨⟨_, op_eq, fun F H v1 v2 Q e h1 h2 q => by
  cases h1; cases h2
  exact ⟨rfl, q _ F H (Gro.rf e) (by show V.bl _ = _; simp only [V.int.injEq])⟩⟩⟩
theorem cmp_neI {i j : Int} : Cmp X .NotEq ⟨i⟩ ⟨j⟩ ⟨!decide (i = j)⟩ := ⟨⟨_, op_ne, fun F H v1 v2 Q e h1 h2 q => by
  cases h1; cases h2
  exact ⟨rfl, q _ F H (Gro.rf e) (by show V.bl _ = _; simp only [V.int.injEq])⟩⟩⟩
theorem cmp_eqS {i j : Str} : Cmp X .Eq ⟨i⟩ ⟨j⟩ ⟨decide (i = j)⟩ := ⟨⟨_, op_eq, fun F H v1 v2 Q e h1 h2 q => by
  obtain ⟨h1, _⟩ := h1; obtain ⟨h2, _⟩ := h2
  cases h1; cases h2
  exact ⟨rfl, q _ F H (Gro.rf e) (by show V.bl _ = _; simp only [V.str.injEq])⟩⟩⟩
theorem cmp_neS {i j : Str} : Cmp X .NotEq ⟨i⟩ ⟨j⟩ ⟨!decide (i = j)⟩ := ⟨⟨_, op_ne, fun F H v1 v2 Q e h1 h2 q => by
  obtain ⟨h1, _⟩ := h1; obtain ⟨h2, _⟩ := h2
  cases h1; cases h2
  exact ⟨rfl, q _ F H (Gro.rf e) (by show V.bl _ = _; simp only [V.str.injEq])⟩⟩⟩
theorem cmp_eqB {i j : Bool} : Cmp X .Eq ⟨i⟩ ⟨j⟩ ⟨i == j⟩ := ⟨⟨_, op_eq, fun F H v1 v2 Q e h1 h2 q => by
  cases h1; cases h2
  exact ⟨rfl, q _ F H (Gro.rf e) (by show V.bl _ = _; rw [dec_bl])⟩⟩⟩
theorem cmp_neB {i j : Bool} : Cmp X .NotEq ⟨i⟩ ⟨j⟩ ⟨!(i == j)⟩ := ⟨⟨_, op_ne, fun F H v1 v2 Q e h1 h2 q => by
  cases h1; cases h2
  exact ⟨rfl, q _ F H (Gro.rf e) (by show V.bl _ = _; rw [dec_bl])⟩⟩⟩
/-- never None -/
class NN (α : Type) [Rep α] : Prop where
  nn : ∀ K F v (a : α), Rep.rp K F v a → v ≠ .non
instance : NN Int := ⟨fun K F v a h => by rw [show v = V.int a from h]; intro z; cases z⟩
instance : NN Bool := ⟨fun K F v a h => by rw [show v = V.bl a from h]; intro z; cases z⟩
instance : NN Str := ⟨fun K F v a h => by rw [show v = V.str a from h.1]; intro z; cases z⟩
instance {α : Type} [Rep α] : NN (List α) := ⟨fun K F v a h => by obtain ⟨p, _, rfl, _⟩ := h; intro z; cases z⟩
instance {α β : Type} [Rep α] [Rep β] : NN (P2 α β) := ⟨fun K F v a h => by obtain ⟨p, _, _, rfl, _⟩ := h; intro z; cases z⟩
instance {α β γ : Type} [Rep α] [Rep β] [Rep γ] : NN (P3 α β γ) := ⟨fun K F v a h => by obtain ⟨p, _, _, _, rfl, _⟩ := h; intro z; cases z⟩
instance {α : Type} [Rep α] : NN (Tup α) := ⟨fun K F v a h => by obtain ⟨p, _, rfl, _⟩ := h; intro z; cases z⟩
instance : NN At := ⟨fun K F v a h => by rw [show v = V.ref a.p from h]; intro z; cases z⟩
theorem opt_non {α : Type} [Rep α] [NN α] {K F v} {a : Option α} (h : Rep.rp K F v a) : decide (v = V.non) = a.isNone := by
  cases a with
  | none => rw [show v = V.non from h]; rfl
  | some a => simp [NN.nn K F v a h]
theorem cmp_isN {α : Type} [Rep α] [NN α] {a : Option α} : Cmp X .Is ⟨a⟩ ⟨()⟩ ⟨a.isNone⟩ := ⟨⟨_, op_isN, fun F H v1 v2 Q e h1 h2 q => ⟨h2, q _ F H (Gro.rf e) (by show V.bl _ = _; rw [opt_non h1])⟩⟩⟩
theorem cmp_notN {α : Type} [Rep α] [NN α] {a : Option α} : Cmp X .IsNot ⟨a⟩ ⟨()⟩ ⟨!a.isNone⟩ := ⟨⟨_, op_notN, fun F H v1 v2 Q e h1 h2 q => ⟨h2, q _ F H (Gro.rf e) (by show V.bl _ = _; rw [opt_non h1])⟩⟩⟩
theorem cmp_isN' {α : Type} [Rep α] [NN α] {a : α} : Cmp X .Is ⟨a⟩ ⟨()⟩ ⟨false⟩ := ⟨⟨_, op_isN, fun F H v1 v2 Q e h1 h2 q => ⟨h2, q _ F H (Gro.rf e) (by show V.bl _ = _; simp [NN.nn _ F v1 a h1])⟩⟩⟩
theorem cmp_notN' {α : Type} [Rep α] [NN α] {a : α} : Cmp X .IsNot ⟨a⟩ ⟨()⟩ ⟨true⟩ := ⟨⟨_, op_notN, fun F H v1 v2 Q e h1 h2 q => ⟨h2, q _ F H (Gro.rf e) (by show V.bl _ = _; simp [NN.nn _ F v1 a h1])⟩⟩⟩
theorem cmp_leS {i j : Str} : Cmp X .LtE ⟨i⟩ ⟨j⟩ ⟨!decide (j.cps.toList < i.cps.toList)⟩ := ⟨⟨_, op_le_str, fun F H v1 v2 Q e h1 h2 q => ⟨i, j, h1.1, h2.1, q _ F H (Gro.rf e) rfl⟩⟩⟩
end

section
universe u v
variable {C : Cz} {k j : Nat} {env env' env2 env3 : Env} {L LR : List Cell} {e a b c tg iter : Expr} {es : List Expr} {r r1 r2 r3 : Ent} {rs : List Ent} {pos p p2 apos : Pos} {Q : Po} {st : Stmt} {rest body : List Stmt} {x : Str}
/-! ### subscripts -/
theorem atI_nat' {α : Type} {xs : List α} {i : Int} {a : α} (h0 : 0 ≤ i) (h : xs[i.toNat]? = some a) : atI xs i = some a := by
  have h1 : i.toNat < xs.length := (List.getElem?_eq_some_iff.mp h).1
  unfold atI ixN
  rw [if_pos h0, if_pos (by omega)]
  exact h
theorem Pr.at {α β : Type} {R : α → β → Prop} {as : List α} {bs : List β} (h : Pr R as bs) {i : Int} {b : β} (hb : atI bs i = some b) : ∃ a, atI as i = some a ∧ R a b := by
  unfold atI at hb ⊢
  rw [h.length]
  cases q : ixN bs.length i with
  | none => rw [q] at hb; cases hb
  | some n => rw [q] at hb; exact Pr.get h hb
/-- xs[i] -/
theorem E_ix {α : Type} [Rep α] {as : List α} {i : Int} {v : α} (ha : ER C env L a as) (hb : E C env L b ⟨i⟩) (h : atI as i = some v) (hs : PlainIx b := by exact fun _ _ => rfl) : E C env L (.Subscript a b pos) ⟨v⟩ :=
  ⟨PE.imp (pe_ix ix_list ha.p hb.p hs) fun σ H Q ⟨F, s, q⟩ => ⟨F, s, fun p F1 H1 x1 s1 hr h3 => ⟨F1, s1, fun w F2 H2 x2 s2 rw' => by
    obtain ⟨vs, h1, h2⟩ := hr F2 H2 x2.f s2.ow
    obtain ⟨y, e1, e2⟩ := h2.at h
    exact ⟨p, vs, i, y, rfl, rw', h1, e1, q y F2 H2 (x1.tr x2) s2 e2⟩⟩⟩⟩
end
end Py

namespace Py
open PySem PySem.Spec PyProof.Rows L2

section
variable {K : PySem.W.Frag} {R F H H' : Hp} {L : List Cell}
theorem Own.ofRc {p : Addr} {u : HO} {c : Cell} (o : Own K (upd R p u) F H L) (hR : R p = none) (ha : c.ad = [p]) (ok : c.ok K F H) : Own K R F H (c :: L) := by
  have hF : F p = none := o.fr p u upd_same
  have hc : ∀ c ∈ L, ∀ a ∈ c.ad, a ≠ p := fun c hc a ha e => by
    have := o.nr c hc a ha
    rw [e, upd_same] at this; cases this
  have hR' : ∀ a v, R a = some v → upd R p u a = some v := fun a v q => by
    have e : a ≠ p := fun e => by subst e; rw [hR] at q; cases q
    rw [upd_ne e]; exact q
  refine ⟨o.fH, fun a v q => o.rH a v (hR' a v q), fun a v q => o.fr a v (hR' a v q), fun d hd => ?_, ?_, fun d hd a hda => ?_, fun d hd a hda => ?_⟩
  · rcases List.mem_cons.mp hd with rfl | hd
    · exact ok
    · exact o.ok d hd
  · rw [List.flatMap_cons, ha]
    refine List.nodup_cons.mpr ⟨fun hm => ?_, o.nd⟩
    obtain ⟨d, hd, hda⟩ := List.mem_flatMap.mp hm
    exact hc d hd p hda rfl
  · rcases List.mem_cons.mp hd with rfl | hd
    · rw [ha] at hda; rw [List.mem_singleton.mp hda]; exact hF
    · exact o.nf d hd a hda
  · rcases List.mem_cons.mp hd with rfl | hd
    · rw [ha] at hda; rw [List.mem_singleton.mp hda]; exact hR
    · cases q : R a with
      | none => rfl
      | some v =>
        have := o.nr d hd a hda
        rw [hR' a v q] at this; cases this
end

def wipeE (env : Env) : List Nat → Env
  | [] => env
  | v :: vs => (wipeE env vs).set v none
theorem Slots.wipeE {K : PySem.W.Frag} {F : Hp} {σ : St} {env : Env} (h : Slots K F σ env) : ∀ vs : List Nat, Slots K F (L2.wipe σ vs) (Py.wipeE env vs)
  | [] => h
  | v :: vs => (Slots.wipeE h vs).wipe v none
structure Ts (C : Cz) (env : Env) (L : List Cell) (es : List Expr) (b : Bool) : Prop where
  p : PTs C.X es (eT C env L b)
section
variable {C : Cz} {k j : Nat} {env env' env2 env3 : Env} {L LR : List Cell} {e a b c tg iter elt : Expr} {es ifs : List Expr} {r r1 r2 r3 : Ent} {rs : List Ent} {pos p p2 apos : Pos} {Q : Po} {st : Stmt} {rest body : List Stmt} {x : Str} {scope : Scope} {own : List (Str × Nat)}
theorem Ts_nil : Ts C env L [] true := ⟨PTs.imp pts_nil fun σ H Q ⟨F, s, q⟩ => q F H (Gw.rf F H) s⟩
theorem Ts_one {bo : Bool} (h : T C env L c bo) : Ts C env L [c] bo := ⟨pts_one h.p⟩

/-- the turn of a comprehension: within, nobody raises, the names of its own are forgotten -/
def Cz.blk (C : Cz) (R : Hp) (s : Shared) (H : Hp) (scope : Scope) (C0 : Addr) (cl : List (Str × Addr)) (fp : List Addr) : Cz := ⟨C.X.blk s H scope (compEnvC scope cl C0 C.X.env) fp, R, fun _ _ _ _ => False⟩
theorem Cz.Ok.blk {C : Cz} {k : Nat} (ok : C.Ok k) (R : Hp) (s : Shared) (H : Hp) (scope : Scope) (C0 : Addr) (cl : List (Str × Addr)) (fp : List Addr) : (C.blk R s H scope C0 cl fp).Ok k :=
  ⟨fun u s' ⟨_, _, _, _, _, _, _, _, _, _, _, _, _, _, _, _, z⟩ => z.elim, PassesOwn.never, ok.calm, ok.nd, ok.room⟩

def picks {α β : Type} (f : α → β) (q : α → Bool) (as : List α) : List β := (as.filter q).map f
theorem picks_snoc {α β : Type} {f : α → β} {q : α → Bool} {as : List α} {i : Nat} {a : α} (h : as[i]? = some a) : picks f q (as.take (i + 1)) = picks f q (as.take i) ++ if q a then [f a] else [] := by
  unfold picks
  rw [List.take_add_one, h]
  simp only [Option.toList_some, List.filter_append, List.map_append]
  cases hq : q a <;> simp [hq]
theorem picks_le {α β : Type} (f : α → β) (q : α → Bool) (as : List α) : (picks f q as).length ≤ as.length := by
  unfold picks
  rw [List.length_map]
  exact List.length_filter_le _ _

/-- one turn, as the layer asks it -/
theorem lc_tS {α β : Type} [Rep α] [Rep β] {as : List α} {L0 : List Cell} (f : α → β) (q : α → Bool) (ok : C.Ok k) (hh : ∀ c ∈ L0, c ∈ L) (hi : EIO C env L L0 tg iter as)
    (hb : ∀ (i : Nat) (a : α), as[i]? = some a → ∃ env2 js, (∀ x ∈ js, x ∈ own.map (·.2)) ∧ ∀ R s H C0 cl fp, (C.blk R s H scope C0 cl fp).Ok k → G (C.blk R s H scope C0 cl fp) (wipeE env (own.map (·.2))) L tg ⟨a⟩ env2 js ∧ Ts (C.blk R s H scope C0 cl fp) env2 L ifs (q a) ∧ (q a = true → E (C.blk R s H scope C0 cl fp) env2 L elt ⟨f a⟩)) :
    ∃ g tt te, (∀ (s : Shared) (H : Hp) (C0 : Addr) (cl : List (Str × Addr)) (fp : List Addr), PG (C.X.blk s H scope (compEnvC scope cl C0 C.X.env) fp) tg g) ∧ (∀ (s : Shared) (H : Hp) (C0 : Addr) (cl : List (Str × Addr)) (fp : List Addr), PTs (C.X.blk s H scope (compEnvC scope cl C0 C.X.env) fp) ifs tt) ∧
      (∀ (s : Shared) (H : Hp) (C0 : Addr) (cl : List (Str × Addr)) (fp : List Addr), PE (C.X.blk s H scope (compEnvC scope cl C0 C.X.env) fp) elt te) ∧
      ∀ σ H Q, (∃ F, Sta C F env L σ H ∧ ∀ D vs F' H', Gw F H F' H' → Own C.X.K (upd C.R D (.lst vs)) F' H' L → C.R D = none → Slots C.X.K F' σ env → Pr (Rep.rp C.X.K F') vs (picks f q as) → (picks f q as).length ≤ sizeLine → Q (.ref D) H') → tLc (iS C env L L0 as) g tt te (own.map (·.2)) σ H Q := by
  let CR : Hp → Cz := fun R => ⟨C.X, R, C.W⟩
  refine ⟨fun v σ H Q => ∃ z : ULift.{1} (Hp × α × List Nat) × Env, (∀ s H C0 cl fp, G (C.blk z.1.down.1 s H scope C0 cl fp) (wipeE env (own.map (·.2))) L tg ⟨z.1.down.2.1⟩ z.2 z.1.down.2.2) ∧ gS (CR z.1.down.1) (wipeE env (own.map (·.2))) L ⟨z.1.down.2.1⟩ z.2 z.1.down.2.2 v σ H Q,
    fun σ H Q => ∃ z : ULift.{1} (Hp × Bool) × Env, (∀ s H C0 cl fp, Ts (C.blk z.1.down.1 s H scope C0 cl fp) z.2 L ifs z.1.down.2) ∧ eT (CR z.1.down.1) z.2 L z.1.down.2 σ H Q,
    fun σ H Q => ∃ z : ULift.{1} (Hp × β) × Env, (∀ s H C0 cl fp, E (C.blk z.1.down.1 s H scope C0 cl fp) z.2 L elt ⟨z.1.down.2⟩) ∧ eE (CR z.1.down.1) z.2 L ⟨z.1.down.2⟩ σ H Q,
    fun s H C0 cl fp => PG.ex fun z h => (h s H C0 cl fp).p, fun s H C0 cl fp => PTs.ex fun z h => (h s H C0 cl fp).p, fun s H C0 cl fp => PE.ex fun z h => (h s H C0 cl fp).p, ?_⟩
  intro σ H Q ⟨F, s, qf⟩
  refine ⟨F, s, fun J F1 H1 w1 s1 sv hz D hD => ?_⟩
  obtain ⟨o0, hR, _⟩ := s1.ow.toR (u := .lst []) hD
  refine ⟨fun i m H => m = as.length - i ∧ i ≤ as.length ∧ ∃ F' vs, Ex F1 F' ∧ Own C.X.K (upd C.R D (.lst vs)) F' H L ∧ Slots C.X.K F' σ env ∧ Pr (Rep.rp C.X.K F') vs (picks f q (as.take i)),
    ⟨as.length, by simp, Nat.zero_le _, F1, [], Ex.rf F1, o0, s1.sl, by simp [picks]; exact .nil⟩, ?_⟩
  rintro i m H2 ⟨rfl, hi, F', vs, x, o, sl, pr⟩
  by_cases hlt : i < as.length
  · obtain ⟨go, yl⟩ := sv.go i F' H2 hlt x ⟨o.fH, _, L, o, hh⟩
    refine .inr ⟨go, fun H => i + 1 ≤ as.length ∧ ∃ F' vs, Ex F1 F' ∧ Own C.X.K (upd C.R D (.lst vs)) F' H L ∧ Slots C.X.K F' σ env ∧ Pr (Rep.rp C.X.K F') vs (picks f q (as.take (i + 1))), fun H' z => ⟨as.length - (i + 1), by omega, rfl, z⟩, fun v H3 y => ?_⟩
    obtain ⟨F3, g, a, ha, rv⟩ := yl v H3 y
    obtain ⟨env2, js, hjs, hz2⟩ := hb i a ha
    have hB := fun s H C0 cl fp => hz2 (upd C.R D (.lst vs)) s H C0 cl fp (ok.blk _ _ _ _ _ _ _)
    refine ⟨(⟨(upd C.R D (.lst vs), a, js)⟩, env2), fun s H C0 cl fp => (hB s H C0 cl fp).1, F3, ⟨(sl.mono g.f).wipeE _, o.gro g⟩, rv, fun σ4 F4 H4 w4 s4 chg => ⟨?_, ?_⟩⟩
    · rw [chg _ hjs]
      exact wipe_wipe σ _ _ fun _ h => h
    · refine ⟨(⟨(upd C.R D (.lst vs), q a)⟩, env2), fun s H C0 cl fp => (hB s H C0 cl fp).2.1, F4, s4, fun F5 H5 w5 s5 => ?_⟩
      have hlen : vs.length ≤ i := by
        rw [pr.length]
        exact Nat.le_trans (picks_le _ _ _) (List.length_take_le _ _)
      cases hq : q a with
      | true =>
        refine iteT ⟨(⟨(upd C.R D (.lst vs), f a)⟩, env2), fun s H C0 cl fp => (hB s H C0 cl fp).2.2 hq, F5, s5, fun y F6 H6 w6 s6 ry => ⟨vs, s6.ow.rH D _ upd_same, Nat.lt_of_le_of_lt hlen (Nat.lt_of_lt_of_le hlt hz), hlt, F6, vs ++ [y], ?_, s6.ow.updR hR, sl.mono ?_, ?_⟩⟩
        · exact (((x.tr g.f).tr w4.f).tr w5.f).tr w6.f
        · exact ((g.f.tr w4.f).tr w5.f).tr w6.f
        · rw [picks_snoc ha, hq]
          exact (pr.imp fun _ _ => Rep.mono (((g.f.tr w4.f).tr w5.f).tr w6.f)).append (.cons ry .nil)
      | false =>
        refine iteF ⟨hlt, F5, vs, ((x.tr g.f).tr w4.f).tr w5.f, s5.ow, sl.mono ((g.f.tr w4.f).tr w5.f), ?_⟩
        rw [picks_snoc ha, hq]
        simp only [Bool.false_eq_true, if_false, List.append_nil]
        exact pr.imp fun _ _ => Rep.mono ((g.f.tr w4.f).tr w5.f)
  · have e : i = as.length := by omega
    subst e
    rw [List.take_length] at pr
    exact .inl ⟨sv.stop _ F' H2 (Nat.le_refl _) x ⟨o.fH, _, L, o, hh⟩, qf D vs F' H2 ⟨w1.f.tr x⟩ o hR sl pr (Nat.le_trans (picks_le _ _ _) hz)⟩

abbrev LcB (C : Cz) (env : Env) (L : List Cell) (k : Nat) {α β : Type} [Rep α] [Rep β] (scope : Scope) (own : List (Str × Nat)) (tg elt : Expr) (ifs : List Expr) (as : List α) (f : α → β) (q : α → Bool) : Prop :=
  ∀ (i : Nat) (a : α), as[i]? = some a → ∃ env2 js, (∀ x ∈ js, x ∈ own.map (·.2)) ∧ ∀ R s H C0 cl fp, (C.blk R s H scope C0 cl fp).Ok k → G (C.blk R s H scope C0 cl fp) (wipeE env (own.map (·.2))) L tg ⟨a⟩ env2 js ∧ Ts (C.blk R s H scope C0 cl fp) env2 L ifs (q a) ∧ (q a = true → E (C.blk R s H scope C0 cl fp) env2 L elt ⟨f a⟩)
/-- [elt for tg in iter if ..] -/
theorem E_lc {α β : Type} [Rep α] [Rep β] {as : List α} {L0 : List Cell} (own : List (Str × Nat)) (f : α → β) (q : α → Bool) (ok : C.Ok k) (hi : EIO C env L L0 tg iter as) (hb : LcB C env L k scope own tg elt ifs as f q)
    (bok : BlkOk C.X.N C.X.env.scope scope own := by exact blkOk_by (by first | rfl | decide +kernel)) (hs : ∀ x, foldedSetIterable iter C.X.env x = pure x := by intro _; rfl) (hh : ∀ c ∈ L0, c ∈ L := by intro c hc; cases hc) : E C env L (.ListComp elt [⟨tg, iter, ifs, 0⟩] scope pos) ⟨picks f q as⟩ := by
  obtain ⟨g, tt, te, h1, h2, h3, h4⟩ := lc_tS (own := own) f q ok hh hi hb
  exact ⟨PE.imp (pe_lc ok.calm ok.nd hi.p bok h1 h2 h3 hs) fun σ H Q ⟨F, s, z⟩ => h4 σ H Q ⟨F, s, fun D vs F' H' w o hR sl pr hz => by
    obtain ⟨o2, x2⟩ := o.ofR hR
    exact z _ _ H' ⟨w.f.tr x2⟩ ⟨sl.mono x2, o2⟩ ⟨D, vs, rfl, upd_same, pr.imp fun _ _ => Rep.mono x2, hz⟩⟩⟩
/-- the same, the list one's own -/
theorem EM_lc {α β : Type} [Rep α] [Rep β] {as : List α} {L0 : List Cell} (own : List (Str × Nat)) (f : α → β) (q : α → Bool) (ok : C.Ok k) (hi : EIO C env L L0 tg iter as) (hb : LcB C env L k scope own tg elt ifs as f q)
    (bok : BlkOk C.X.N C.X.env.scope scope own := by exact blkOk_by (by first | rfl | decide +kernel)) (hs : ∀ x, foldedSetIterable iter C.X.env x = pure x := by intro _; rfl) (hh : ∀ c ∈ L0, c ∈ L := by intro c hc; cases hc) : EM C env L (.ListComp elt [⟨tg, iter, ifs, 0⟩] scope pos) (fun r L' => ∃ l, r = ⟨(At.mk l)⟩ ∧ L' = Cell.lst l (picks f q as) :: L) (fun _ _ _ => False) := by
  obtain ⟨g, tt, te, h1, h2, h3, h4⟩ := lc_tS (own := own) f q ok hh hi hb
  exact ⟨PE.imp (pe_lc ok.calm ok.nd hi.p bok h1 h2 h3 hs) fun σ H Q ⟨F, s, z, _⟩ => h4 σ H Q ⟨F, s, fun D vs F' H' w o hR sl pr hz => by
    exact z _ _ _ F' H' ⟨D, rfl, rfl⟩ w.f ⟨sl, o.ofRc hR rfl ⟨⟨vs, o.rH D _ upd_same, pr⟩, hz⟩⟩ rfl⟩⟩
/-- y = [elt for ..] -/
theorem S_setLc {α β : Type} [Rep α] [Rep β] {as : List α} {L0 : List Cell} (i : Nat) (own : List (Str × Nat)) (f : α → β) (q : α → Bool) {y : Str} {py spos : Pos} (ok : C.Ok k) (hi : EIO C env L L0 tg iter as) (hb : LcB C env L k scope own tg elt ifs as f q) (h : S C (env.set i (some ⟨picks f q as⟩)) L rest Q)
    (hy : C.X.N[i]? = some y := by rfl) (hyl : C.X.env.scope.names.lookup y = some .local := by rfl) (hsw : swapsWith (.ListComp elt [⟨tg, iter, ifs, 0⟩] scope pos) (some (.Name y py)) spos.line C.X.env = pure true := by exact sw_true rfl rfl rfl (by decide +kernel))
    (bok : BlkOk C.X.N C.X.env.scope scope own := by exact blkOk_by (by first | rfl | decide +kernel)) (hs : ∀ x, foldedSetIterable iter C.X.env x = pure x := by intro _; rfl) (hh : ∀ c ∈ L0, c ∈ L := by intro c hc; cases hc) : S C env L (.Assign [.Name y py] (.ListComp elt [⟨tg, iter, ifs, 0⟩] scope pos) spos :: rest) Q := by
  obtain ⟨g, tt, te, h1, h2, h3, h4⟩ := lc_tS (own := own) f q ok hh hi hb
  exact S_cons ⟨PS.imp (ps_setLc ok.calm ok.nd hy hyl hsw hi.p bok h1 h2 h3 hs) fun D σ H ⟨F, s, n⟩ => h4 σ H _ ⟨F, s, fun Da vs F' H' w o hR sl pr hz => by
    obtain ⟨o2, x2⟩ := o.ofR hR
    exact n.nx _ L _ _ H' h (w.f.tr x2) ⟨(sl.mono x2).put (e := ⟨picks f q as⟩) (v := .ref Da) ⟨Da, vs, rfl, upd_same, pr.imp fun _ _ => Rep.mono x2, hz⟩ i, o2⟩⟩⟩
theorem S_setLcO {α β : Type} [Rep α] [Rep β] {as : List α} {L0 : List Cell} (i : Nat) (own : List (Str × Nat)) (f : α → β) (q : α → Bool) {y : Str} {py spos : Pos} (ok : C.Ok k) (hi : EIO C env L L0 tg iter as) (hb : LcB C env L k scope own tg elt ifs as f q) (h : ∀ l, S C (env.set i (some ⟨(At.mk l)⟩)) (Cell.lst l (picks f q as) :: L) rest Q)
    (hy : C.X.N[i]? = some y := by rfl) (hyl : C.X.env.scope.names.lookup y = some .local := by rfl) (hsw : swapsWith (.ListComp elt [⟨tg, iter, ifs, 0⟩] scope pos) (some (.Name y py)) spos.line C.X.env = pure true := by exact sw_true rfl rfl rfl (by decide +kernel))
    (bok : BlkOk C.X.N C.X.env.scope scope own := by exact blkOk_by (by first | rfl | decide +kernel)) (hs : ∀ x, foldedSetIterable iter C.X.env x = pure x := by intro _; rfl) (hh : ∀ c ∈ L0, c ∈ L := by intro c hc; cases hc) : S C env L (.Assign [.Name y py] (.ListComp elt [⟨tg, iter, ifs, 0⟩] scope pos) spos :: rest) Q := by
  obtain ⟨g, tt, te, h1, h2, h3, h4⟩ := lc_tS (own := own) f q ok hh hi hb
  exact S_cons ⟨PS.imp (ps_setLc ok.calm ok.nd hy hyl hsw hi.p bok h1 h2 h3 hs) fun D σ H ⟨F, s, n⟩ => h4 σ H _ ⟨F, s, fun Da vs F' H' w o hR sl pr hz => by
    exact n.nx _ _ _ F' H' (h Da) w.f ⟨sl.put (e := ⟨(At.mk Da)⟩) (v := .ref Da) rfl i, o.ofRc hR rfl ⟨⟨vs, o.rH Da _ upd_same, pr⟩, hz⟩⟩⟩⟩
end
end Py

namespace Py
open PySem PySem.Spec PyProof.Rows L2

/-! ### built-ins -/
structure Cal (X : Cx) (x : Str) (rs : List Ent) (r : Ent) : Prop where
  h : ∃ u t, CallR X u t ∧ bootBuiltins x = some u ∧ ((∃ id, u = .builtin id) ∨ ∃ T, u = .type T) ∧ CaS X.K t rs r
/-- of one list that is read -/
structure CalR {α : Type} [Rep α] (X : Cx) (x : Str) (as : List α) (r : Ent) : Prop where
  h : ∃ u t, CallR X u t ∧ bootBuiltins x = some u ∧ ((∃ id, u = .builtin id) ∨ ∃ T, u = .type T) ∧
    ∀ F H p vs (Q : VK), Ex F H → SqL X.K H p vs → Pr (Rep.rp X.K F) vs as → as.length ≤ sizeLine → (∀ v F' H', Gro F H F' H' → r.rp X.K F' v → Q v H') → t [.ref p] H Q
section
variable {C : Cz} {k j : Nat} {env env' env2 env3 : Env} {L LR : List Cell} {e a b c tg iter elt : Expr} {es ifs : List Expr} {r r1 r2 r3 : Ent} {rs : List Ent} {pos p p2 apos cpos : Pos} {Q : Po} {st : Stmt} {rest body : List Stmt} {x : Str}
theorem pe_callU {X : Cx} {t : TA} {u : Value} {r : List V → Hp → VK → Prop} (hc : CallR X u r) (hu : (∃ id, u = .builtin id) ∨ ∃ T, u = .type T) (hg : Gl X x) (hm : X.mg x = none) (hv : bootBuiltins x = some u) (ha : PA X (e :: es) t) (hn : x ≠ "__name__" := by decide) (hdb : (x == ("__debug__" : Str)) = false := by decide)
    (he : starEach (e :: es) X.env = (false, eval e X.env) :: starEach es X.env := by rfl) (hpl : (backTo pos (starEach es X.env)).any (·.1) = false := by rfl) : PE X (.Call (.Name x p) (e :: es) [] pos) (tCB r t) := by
  rcases hu with ⟨id, rfl⟩ | ⟨T, rfl⟩
  · exact pe_callB hc hg hm hv ha hn hdb he hpl
  · exact pe_callTy hc hg hm hv ha hn hdb he hpl
theorem E_bi (h : Cal C.X x rs r) (ha : A C env L (e :: es) rs) (hm : C.X.mg x = none) (hg : Gl C.X x := by rfl) (hn : x ≠ "__name__" := by decide) (hdb : (x == ("__debug__" : Str)) = false := by decide)
    (he : starEach (e :: es) C.X.env = (false, eval e C.X.env) :: starEach es C.X.env := by rfl) (hpl : (backTo pos (starEach es C.X.env)).any (·.1) = false := by rfl) : E C env L (.Call (.Name x p) (e :: es) [] pos) r := by
  obtain ⟨u, t, h1, h2, h3, h4⟩ := h.h
  exact ⟨PE.imp (pe_callU h1 h3 hg hm h2 ha.p hn hdb he hpl) fun σ H Q ⟨F, s, q⟩ => ⟨F, s, fun vs F1 H1 x1 s1 rv => h4 F1 H1 vs Q s1.ow.fH rv fun v F' H' g rr => q v F' H' (x1.tr g.w) (s1.gro g) rr⟩⟩
theorem E_biR {α : Type} [Rep α] {as : List α} (h : CalR C.X x as r) (ha : ER C env L e as) (hm : C.X.mg x = none) (hg : Gl C.X x := by rfl) (hn : x ≠ "__name__" := by decide) (hdb : (x == ("__debug__" : Str)) = false := by decide)
    (he : starEach [e] C.X.env = (false, eval e C.X.env) :: starEach [] C.X.env := by rfl) (hpl : (backTo pos (starEach [] C.X.env)).any (·.1) = false := by rfl) : E C env L (.Call (.Name x p) [e] [] pos) r := by
  obtain ⟨u, t, h1, h2, h3, h4⟩ := h.h
  exact ⟨PE.imp (pe_callU h1 h3 hg hm h2 (pa_cons ha.p pa_nil he) hn hdb he hpl) fun σ H Q ⟨F, s, q⟩ => ⟨F, s, fun pp F1 H1 x1 s1 hr hz => by
    obtain ⟨vs, hl, rv⟩ := hr F1 H1 (Ex.rf F1) s1.ow
    exact h4 F1 H1 pp vs Q s1.ow.fH hl rv hz fun v F' H' g rr => q v F' H' (x1.tr g.w) (s1.gro g) rr⟩⟩
end
theorem boot_absx : bootBuiltins "abs" = some (.builtin "abs") := by decide +kernel
theorem boot_anyx : bootBuiltins "any" = some (.builtin "any") := by decide +kernel
theorem boot_allx : bootBuiltins "all" = some (.builtin "all") := by decide +kernel
theorem boot_sumx : bootBuiltins "sum" = some (.builtin "sum") := by decide +kernel
theorem boot_sortedx : bootBuiltins "sorted" = some (.builtin "sorted") := by decide +kernel
theorem boot_maxx : bootBuiltins "max" = some (.builtin "max") := by decide +kernel
theorem boot_listx : bootBuiltins "list" = some (.type "list") := by decide +kernel
theorem boot_tuplex : bootBuiltins "tuple" = some (.type "tuple") := by decide +kernel
theorem boot_boolx : bootBuiltins "bool" = some (.type "bool") := by decide +kernel
section
variable {X : Cx}
theorem one_arg {K F vs} {α : Type} [Rep α] {x : α} (h : Pr (fun v r => Ent.rp r K F v) vs [⟨x⟩]) : ∃ v, vs = [v] ∧ Rep.rp K F v x := by
  cases h with
  | cons h t => cases t; exact ⟨_, rfl, h⟩
theorem two_arg {K F vs} {α β : Type} [Rep α] [Rep β] {x : α} {y : β} (h : Pr (fun v r => Ent.rp r K F v) vs [⟨x⟩, ⟨y⟩]) : ∃ v w, vs = [v, w] ∧ Rep.rp K F v x ∧ Rep.rp K F w y := by
  cases h with
  | cons h t => cases t with | cons h2 t => cases t; exact ⟨_, _, rfl, h, h2⟩
theorem cal_intI {i : Int} : Cal X "int" [⟨i⟩] ⟨i⟩ := ⟨⟨_, _, call_int1, boot_int, Or.inr ⟨_, rfl⟩, fun F H vs Q e rv q => by
  obtain ⟨v, rfl, rfl⟩ := one_arg rv
  exact .inl ⟨i, rfl, q _ F H (Gro.rf e) rfl⟩⟩⟩
theorem cal_intB {i : Bool} : Cal X "int" [⟨i⟩] ⟨(if i then 1 else 0 : Int)⟩ := ⟨⟨_, _, call_int1, boot_int, Or.inr ⟨_, rfl⟩, fun F H vs Q e rv q => by
  obtain ⟨v, rfl, rfl⟩ := one_arg rv
  exact .inr ⟨i, rfl, q _ F H (Gro.rf e) rfl⟩⟩⟩
theorem cal_abs {i : Int} : Cal X "abs" [⟨i⟩] ⟨(if i < 0 then -i else i)⟩ := ⟨⟨_, _, call_abs, boot_absx, Or.inl ⟨_, rfl⟩, fun F H vs Q e rv q => by
  obtain ⟨v, rfl, rfl⟩ := one_arg rv
  exact ⟨i, rfl, q _ F H (Gro.rf e) rfl⟩⟩⟩
theorem cal_max {i j : Int} (hc : X.calm = true) : Cal X "max" [⟨i⟩, ⟨j⟩] ⟨(if j > i then j else i)⟩ := ⟨⟨_, _, call_max2 hc, boot_maxx, Or.inl ⟨_, rfl⟩, fun F H vs Q e rv q => by
  obtain ⟨v, w, rfl, rfl, rfl⟩ := two_arg rv
  exact ⟨i, j, rfl, q _ F H (Gro.rf e) rfl⟩⟩⟩
theorem cal_lenS {z : Str} : Cal X "len" [⟨z⟩] ⟨(z.length : Int)⟩ := ⟨⟨_, _, call_len_str, boot_len, Or.inl ⟨_, rfl⟩, fun F H vs Q e rv q => by
  obtain ⟨v, rfl, rfl, hz⟩ := one_arg rv
  exact ⟨z, rfl, hz.le, q _ F H (Gro.rf e) rfl⟩⟩⟩
theorem cal_lenT {α : Type} [Rep α] {z : Tup α} : Cal X "len" [⟨z⟩] ⟨(z.l.length : Int)⟩ := ⟨⟨_, _, call_len_seq, boot_len, Or.inl ⟨_, rfl⟩, fun F H vs Q e rv q => by
  obtain ⟨v, rfl, p, vs, rfl, h1, h2, h3⟩ := one_arg rv
  exact ⟨p, vs, rfl, Or.inr (ex_t e h1), q _ F H (Gro.rf e) (by show V.int _ = V.int _; rw [h2.length])⟩⟩⟩
theorem calR_len {α : Type} [Rep α] {as : List α} : CalR X "len" as ⟨(as.length : Int)⟩ := ⟨⟨_, _, call_len_seq, boot_len, Or.inl ⟨_, rfl⟩, fun F H p vs Q e hl rv hz q =>
  ⟨p, vs, rfl, Or.inl hl, q _ F H (Gro.rf e) (by show V.int _ = V.int _; rw [rv.length])⟩⟩⟩
theorem Pr.ints {K F} : ∀ {vs : List V} {ns : List Int}, Pr (Rep.rp K F) vs ns → vs = ns.map V.int
  | _, _, .nil => rfl
  | _, _, .cons h t => by rw [show _ = V.int _ from h, Pr.ints t]; rfl
theorem Pr.bools {K F} : ∀ {vs : List V} {ns : List Bool}, Pr (Rep.rp K F) vs ns → vs = ns.map V.bl
  | _, _, .nil => rfl
  | _, _, .cons h t => by rw [show _ = V.bl _ from h, Pr.bools t]; rfl
theorem Pr.strs {K F} : ∀ {vs : List V} {ns : List Str}, Pr (Rep.rp K F) vs ns → vs = ns.map V.str
  | _, _, .nil => rfl
  | _, _, .cons h t => by rw [show _ = V.str _ from h.1, Pr.strs t]; rfl
theorem Pr.ofInts {K F} (ns : List Int) : Pr (Rep.rp K F) (ns.map V.int) ns := Pr.map1 (Pr.diag (R := fun c b => Rep.rp K F (V.int c) b) (fun _ => rfl) ns)
theorem Pr.ofBools {K F} (ns : List Bool) : Pr (Rep.rp K F) (ns.map V.bl) ns := Pr.map1 (Pr.diag (R := fun c b => Rep.rp K F (V.bl c) b) (fun _ => rfl) ns)
theorem Pr.ofStrs {K F} : ∀ (ns : List Str), (∀ z ∈ ns, SOk z) → Pr (Rep.rp K F) (ns.map V.str) ns
  | [], _ => .nil
  | z :: ns, h => .cons ⟨rfl, h z List.mem_cons_self⟩ (Pr.ofStrs ns fun y hy => h y (List.mem_cons_of_mem _ hy))
theorem Pr.strs_le {K F} : ∀ {vs : List V} {ns : List Str}, Pr (Rep.rp K F) vs ns → ∀ z ∈ ns, SOk z
  | _, _, .nil, _, h => by cases h
  | _, _, .cons h t, z, hz => by
    rcases List.mem_cons.mp hz with rfl | hz
    · exact h.2
    · exact Pr.strs_le t z hz
theorem calR_sum {ns : List Int} (hc : X.calm = true) : CalR X "sum" ns ⟨ns.sum⟩ := ⟨⟨_, _, cr_sum hc, boot_sumx, Or.inl ⟨_, rfl⟩, fun F H p vs Q e hl rv hz q => by
  rw [rv.ints] at hl
  exact ⟨p, ns, rfl, hl, q _ F H (Gro.rf e) rfl⟩⟩⟩
theorem calR_any {ns : List Bool} (hc : X.calm = true) : CalR X "any" ns ⟨ns.any id⟩ := ⟨⟨_, _, cr_any hc, boot_anyx, Or.inl ⟨_, rfl⟩, fun F H p vs Q e hl rv hz q => by
  rw [rv.bools] at hl
  exact ⟨p, ns, rfl, hl, q _ F H (Gro.rf e) rfl⟩⟩⟩
theorem calR_all {ns : List Bool} (hc : X.calm = true) : CalR X "all" ns ⟨ns.all id⟩ := ⟨⟨_, _, cr_all hc, boot_allx, Or.inl ⟨_, rfl⟩, fun F H p vs Q e hl rv hz q => by
  rw [rv.bools] at hl
  exact ⟨p, ns, rfl, hl, q _ F H (Gro.rf e) rfl⟩⟩⟩
/-- list(xs) -/
theorem calR_list {α : Type} [Rep α] {as : List α} : CalR X "list" as ⟨as⟩ := ⟨⟨_, _, call_list_of, boot_listx, Or.inr ⟨_, rfl⟩, fun F H p vs Q e hl rv hz q =>
  ⟨p, vs, rfl, Or.inl hl, fun l hn => q _ _ _ (Gro.new e hn) ⟨l, vs, rfl, upd_same, rv.imp (fun _ _ => Rep.mono (Ex.new (Ex.free e hn))), hz⟩⟩⟩⟩
theorem cal_listT {α : Type} [Rep α] {as : Tup α} : Cal X "list" [⟨as⟩] ⟨as.l⟩ := ⟨⟨_, _, call_list_of, boot_listx, Or.inr ⟨_, rfl⟩, fun F H vs Q e rv q => by
  obtain ⟨v, rfl, p, vs, rfl, h1, h2, h3⟩ := one_arg rv
  exact ⟨p, vs, rfl, Or.inr (ex_t e h1), fun l hn => q _ _ _ (Gro.new e hn) ⟨l, vs, rfl, upd_same, h2.imp (fun _ _ => Rep.mono (Ex.new (Ex.free e hn))), h3⟩⟩⟩⟩
theorem calR_tuple {α : Type} [Rep α] {as : List α} : CalR X "tuple" as ⟨(Tup.mk as)⟩ := ⟨⟨_, _, call_tuple_of, boot_tuplex, Or.inr ⟨_, rfl⟩, fun F H p vs Q e hl rv hz q =>
  ⟨p, vs, rfl, Or.inl ⟨hl, fun l hn => q _ _ _ (Gro.new e hn) ⟨l, vs, rfl, Or.inl (Or.inl upd_same), rv.imp (fun _ _ => Rep.mono (Ex.new (Ex.free e hn))), hz⟩⟩⟩⟩⟩
def sortI (ns : List Int) : List Int := ns.mergeSort (fun a b => decide (a ≤ b))
theorem sorted_unique : ∀ {xs ys : List Int}, xs.Perm ys → xs.Pairwise (· ≤ ·) → ys.Pairwise (· ≤ ·) → xs = ys
  | [], ys, p, _, _ => by rw [List.nil_perm.mp p]
  | x :: xs, [], p, _, _ => by simp at p
  | x :: xs, y :: ys, p, h1, h2 => by
    have hx : x = y := by
      have a1 : x ∈ y :: ys := p.mem_iff.mp List.mem_cons_self
      have a2 : y ∈ x :: xs := p.mem_iff.mpr List.mem_cons_self
      rcases List.mem_cons.mp a1 with rfl | a1
      · rfl
      · rcases List.mem_cons.mp a2 with rfl | a2
        · rfl
        · have b1 := (List.pairwise_cons.mp h1).1 y a2
          have b2 := (List.pairwise_cons.mp h2).1 x a1
          omega
    subst hx
    rw [sorted_unique (List.Perm.cons_inv p) (List.pairwise_cons.mp h1).2 (List.pairwise_cons.mp h2).2]
theorem sortI_perm (ns : List Int) : (sortI ns).Perm ns := List.mergeSort_perm _ _
theorem sortI_sorted (ns : List Int) : (sortI ns).Pairwise (· ≤ ·) := by
  have h := List.pairwise_mergeSort (le := fun a b : Int => decide (a ≤ b)) (by intro a b c h1 h2; simp at *; omega) (by intro a b; simp; omega) ns
  exact h.imp fun h => by simpa using h
theorem calR_sortedI {ns : List Int} : CalR X "sorted" ns ⟨sortI ns⟩ := ⟨⟨_, _, cr_sortedI, boot_sortedx, Or.inl ⟨_, rfl⟩, fun F H p vs Q e hl rv hz q => by
  rw [rv.ints] at hl
  refine ⟨p, ns, rfl, hl, fun ns' l pe so hn => ?_⟩
  have e1 : ns' = sortI ns := sorted_unique (pe.trans (sortI_perm ns).symm) so (sortI_sorted ns)
  subst e1
  exact q _ _ _ (Gro.new e hn) ⟨l, _, rfl, upd_same, Pr.ofInts _, by rw [(sortI_perm ns).length_eq]; exact hz⟩⟩⟩
end

section
variable {C : Cz} {k j : Nat} {env env' env2 env3 : Env} {L LR : List Cell} {e a b c tg iter elt lo hi : Expr} {es ifs : List Expr} {r r1 r2 r3 : Ent} {rs : List Ent} {pos p p2 apos cpos : Pos} {Q : Po} {st : Stmt} {rest body : List Stmt} {x : Str}
/-! ### displays -/
def EntsOf {α : Type} [Rep α] (as : List α) : List Ent := as.map fun a => ⟨a⟩
theorem Pr.ofEnts {K F} {α : Type} [Rep α] : ∀ {as : List α} {vs : List V}, Pr (fun v r => Ent.rp r K F v) vs (EntsOf as) → Pr (Rep.rp K F) vs as
  | [], _, .nil => .nil
  | _ :: _, _, .cons h t => .cons h (Pr.ofEnts t)
theorem E_lst {α : Type} [Rep α] (as : List α) (h : A C env L es (EntsOf as)) (hz : as.length ≤ sizeLine := by decide) : E C env L (.List es pos) ⟨as⟩ := ⟨PE.imp (pe_lst h.p) fun σ H Q ⟨F, s, q⟩ => ⟨F, s, fun vs F1 H1 x1 s1 rv =>
  ⟨by rw [rv.ofEnts.length]; exact hz, fun l hn => q _ _ _ (x1.tr (Gro.new s1.ow.fH hn).w) (s1.gro (Gro.new s1.ow.fH hn)) ⟨l, vs, rfl, upd_same, rv.ofEnts.imp (fun _ _ => Rep.mono (Ex.new (Ex.free s1.ow.fH hn))), hz⟩⟩⟩⟩
/-- a new list of one's own -/
theorem EM_lst {α : Type} [Rep α] (as : List α) (h : A C env L es (EntsOf as)) (hz : as.length ≤ sizeLine := by decide) : EM C env L (.List es pos) (fun r L' => ∃ l, r = ⟨(At.mk l)⟩ ∧ L' = Cell.lst l as :: L) (fun _ _ _ => False) := ⟨PE.imp (pe_lst h.p) fun σ H Q ⟨F, s, q, _⟩ => ⟨F, s, fun vs F1 H1 x1 s1 rv =>
  ⟨by rw [rv.ofEnts.length]; exact hz, fun l hn => q _ _ _ F1 _ ⟨l, rfl, rfl⟩ x1.f ⟨s1.sl, s1.ow.cell hn rfl ⟨⟨vs, upd_same, rv.ofEnts⟩, hz⟩⟩ rfl⟩⟩⟩
theorem S_newL {α : Type} [Rep α] (i : Nat) (as : List α) {y : Str} {py : Pos} (hN : C.X.N.Nodup) (h : A C env L es (EntsOf as)) (hk : ∀ l, S C (env.set i (some ⟨(At.mk l)⟩)) (Cell.lst l as :: L) rest Q) (hz : as.length ≤ sizeLine := by decide)
    (hi : C.X.N[i]? = some y := by rfl) (hl : Loc C.X.env.scope y := by first | exact Or.inl rfl | exact Or.inr rfl) (hs : swapsWith (.List es p) (some (.Name y py)) pos.line C.X.env = pure false := by rfl) (hf : C.X.fn y = true ∨ C.X.env.scope.names.lookup y = some .local := by exact Or.inl rfl) : S C env L (.Assign [.Name y py] (.List es p) pos :: rest) Q :=
  S_setM i hN (EM_lst as h hz) (fun r L' ⟨l, h1, h2⟩ => by subst h1 h2; exact hk l) (fun _ _ _ z => z.elim) hi hl hs hf
theorem E_tup2 {α β : Type} [Rep α] [Rep β] {x : α} {y : β} {kt} (h : A C env L es [⟨x⟩, ⟨y⟩]) : E C env L (.Tuple es kt pos) ⟨(P2.mk x y)⟩ := ⟨PE.imp (pe_tup h.p) fun σ H Q ⟨F, s, q⟩ => ⟨F, s, fun vs F1 H1 x1 s1 rv => by
  obtain ⟨v, w, rfl, h1, h2⟩ := two_arg rv
  exact ⟨by show 2 ≤ sizeLine; decide, fun l hn => q _ _ _ (x1.tr (Gro.new s1.ow.fH hn).w) (s1.gro (Gro.new s1.ow.fH hn)) ⟨l, v, w, rfl, Or.inl (Or.inl upd_same), Rep.mono (Ex.new (Ex.free s1.ow.fH hn)) h1, Rep.mono (Ex.new (Ex.free s1.ow.fH hn)) h2⟩⟩⟩⟩
theorem three_arg {K F vs} {α β γ : Type} [Rep α] [Rep β] [Rep γ] {x : α} {y : β} {z : γ} (h : Pr (fun v r => Ent.rp r K F v) vs [⟨x⟩, ⟨y⟩, ⟨z⟩]) : ∃ v w u, vs = [v, w, u] ∧ Rep.rp K F v x ∧ Rep.rp K F w y ∧ Rep.rp K F u z := by
  cases h with
  | cons h t => cases t with | cons h2 t => cases t with | cons h3 t => cases t; exact ⟨_, _, _, rfl, h, h2, h3⟩
theorem E_tup3 {α β γ : Type} [Rep α] [Rep β] [Rep γ] {x : α} {y : β} {z : γ} {kt} (h : A C env L es [⟨x⟩, ⟨y⟩, ⟨z⟩]) : E C env L (.Tuple es kt pos) ⟨(P3.mk x y z)⟩ := ⟨PE.imp (pe_tup h.p) fun σ H Q ⟨F, s, q⟩ => ⟨F, s, fun vs F1 H1 x1 s1 rv => by
  obtain ⟨v, w, u, rfl, h1, h2, h3⟩ := three_arg rv
  exact ⟨by show 3 ≤ sizeLine; decide, fun l hn => q _ _ _ (x1.tr (Gro.new s1.ow.fH hn).w) (s1.gro (Gro.new s1.ow.fH hn)) ⟨l, v, w, u, rfl, Or.inl (Or.inl upd_same), Rep.mono (Ex.new (Ex.free s1.ow.fH hn)) h1, Rep.mono (Ex.new (Ex.free s1.ow.fH hn)) h2, Rep.mono (Ex.new (Ex.free s1.ow.fH hn)) h3⟩⟩⟩⟩
/-! ### places of tuples, texts -/
theorem E_tix {α β : Type} [Rep α] [Rep β] {t : α} {y : β} {i : Int} (ha : E C env L a ⟨t⟩) (hb : E C env L b ⟨i⟩) (h : ∀ F v, Rep.rp C.X.K F v t → ∃ p vs w, v = .ref p ∧ SqT C.X.K F p vs ∧ atI vs i = some w ∧ Rep.rp C.X.K F w y) (hs : PlainIx b := by exact fun _ _ => rfl) : E C env L (.Subscript a b pos) ⟨y⟩ :=
  ⟨PE.imp (pe_ix ix_tup ha.p hb.p hs) fun σ H Q ⟨F, s, q⟩ => ⟨F, s, fun v F1 H1 x1 s1 rv => ⟨F1, s1, fun w F2 H2 x2 s2 rw' => by
    obtain ⟨p, vs, u, rfl, h1, h2, h3⟩ := h F1 v rv
    exact ⟨p, vs, i, u, rfl, rw', ex_t s2.ow.fH (ex_t x2.f h1), h2, q u F2 H2 (x1.tr x2) s2 (Rep.mono x2.f h3)⟩⟩⟩⟩
theorem E_2a {α β : Type} [Rep α] [Rep β] {t : P2 α β} (ha : E C env L a ⟨t⟩) (hb : E C env L b ⟨(0 : Int)⟩) (hs : PlainIx b := by exact fun _ _ => rfl) : E C env L (.Subscript a b pos) ⟨t.a⟩ := E_tix ha hb (fun F v ⟨p, x, y, h1, h2, h3, h4⟩ => ⟨p, _, x, h1, h2, rfl, h3⟩) hs
theorem E_2b {α β : Type} [Rep α] [Rep β] {t : P2 α β} (ha : E C env L a ⟨t⟩) (hb : E C env L b ⟨(1 : Int)⟩) (hs : PlainIx b := by exact fun _ _ => rfl) : E C env L (.Subscript a b pos) ⟨t.b⟩ := E_tix ha hb (fun F v ⟨p, x, y, h1, h2, h3, h4⟩ => ⟨p, _, y, h1, h2, rfl, h4⟩) hs
theorem E_3a {α β γ : Type} [Rep α] [Rep β] [Rep γ] {t : P3 α β γ} (ha : E C env L a ⟨t⟩) (hb : E C env L b ⟨(0 : Int)⟩) (hs : PlainIx b := by exact fun _ _ => rfl) : E C env L (.Subscript a b pos) ⟨t.a⟩ := E_tix ha hb (fun F v ⟨p, x, y, z, h1, h2, h3, h4, h5⟩ => ⟨p, _, x, h1, h2, rfl, h3⟩) hs
theorem E_3b {α β γ : Type} [Rep α] [Rep β] [Rep γ] {t : P3 α β γ} (ha : E C env L a ⟨t⟩) (hb : E C env L b ⟨(1 : Int)⟩) (hs : PlainIx b := by exact fun _ _ => rfl) : E C env L (.Subscript a b pos) ⟨t.b⟩ := E_tix ha hb (fun F v ⟨p, x, y, z, h1, h2, h3, h4, h5⟩ => ⟨p, _, y, h1, h2, rfl, h4⟩) hs
theorem E_3c {α β γ : Type} [Rep α] [Rep β] [Rep γ] {t : P3 α β γ} (ha : E C env L a ⟨t⟩) (hb : E C env L b ⟨(2 : Int)⟩) (hs : PlainIx b := by exact fun _ _ => rfl) : E C env L (.Subscript a b pos) ⟨t.c⟩ := E_tix ha hb (fun F v ⟨p, x, y, z, h1, h2, h3, h4, h5⟩ => ⟨p, _, z, h1, h2, rfl, h5⟩) hs
/-- s[i] -/
theorem E_ixS {z : Str} {i : Int} {n : Nat} (ha : E C env L a ⟨z⟩) (hb : E C env L b ⟨i⟩) (h : atI z.cps.toList i = some n) (hs : PlainIx b := by exact fun _ _ => rfl) : E C env L (.Subscript a b pos) ⟨(⟨#[n]⟩ : Str)⟩ :=
  ⟨PE.imp (pe_ix ix_str ha.p hb.p hs) fun σ H Q ⟨F, s, q⟩ => ⟨F, s, fun v F1 H1 x1 s1 rv => ⟨F1, s1, fun w F2 H2 x2 s2 rw' =>
    ⟨z, i, n, rv.1, rw', rv.2.le, h, q _ F2 H2 (x1.tr x2) s2 ⟨rfl, (by
      unfold atI at h
      cases hj : ixN z.cps.toList.length i with
      | none => rw [hj] at h; cases h
      | some j => rw [hj] at h; exact sok_sign rv.2 h)⟩⟩⟩⟩⟩
/-! ### slices -/
theorem EO_none : EO C env L none none := ⟨⟨fun pins s σ H Q I ⟨F, st, q⟩ => po_none.run pins s σ H Q I (q F H (Gw.rf F H) st)⟩⟩
theorem EO_some {i : Int} (h : E C env L a ⟨i⟩) : EO C env L (some a) (some i) := ⟨⟨fun pins s σ H Q I ⟨F, st, q⟩ => (po_some h.p).run pins s σ H Q I ⟨F, st, fun v F' H' x s' rv => ⟨i, rv, q F' H' x s'⟩⟩⟩⟩
def cut {α : Type} (xs : List α) (lo hi : Option Int) : List α := (xs.drop (HT.sIx xs.length 0 lo)).take (HT.sIx xs.length xs.length hi - HT.sIx xs.length 0 lo)
theorem cut_le {α : Type} (xs : List α) (lo hi : Option Int) : (cut xs lo hi).length ≤ xs.length := by
  unfold cut
  rw [List.length_take, List.length_drop]
  omega
theorem E_sl {α : Type} [Rep α] {as : List α} {olo ohi : Option Expr} {l u : Option Int} (ha : ER C env L a as) (hl : EO C env L olo l) (hu : EO C env L ohi u) : E C env L (.Subscript a (.Slice olo ohi none p2) pos) ⟨cut as l u⟩ :=
  ⟨PE.imp (pe_slice sl_list ha.p hl.p hu.p) fun σ H Q ⟨F, s, q⟩ => ⟨F, s, fun pp F1 H1 x1 s1 hr hz => ⟨F1, s1, fun F2 H2 x2 s2 => ⟨F2, s2, fun F3 H3 x3 s3 => by
    obtain ⟨vs, hx, rv⟩ := hr F3 H3 (x2.f.tr x3.f) s3.ow
    refine ⟨pp, vs, rfl, hx, fun nl hn => ?_⟩
    refine q _ _ _ ((((x1.tr x2).tr x3)).tr (Gro.new s3.ow.fH hn).w) (s3.gro (Gro.new s3.ow.fH hn)) ⟨nl, _, rfl, upd_same, ?_, Nat.le_trans (cut_le _ _ _) hz⟩
    unfold cut cutV
    rw [rv.length]
    exact ((rv.drop _).take _).imp fun _ _ => Rep.mono (Ex.new (Ex.free s3.ow.fH hn))⟩⟩⟩⟩
theorem cutS_le (z : Str) (lo hi : Option Int) : (cutS z lo hi).length ≤ z.length := by
  unfold cutS
  show (List.toArray _).size ≤ z.cps.size
  rw [List.size_toArray, List.length_take, List.length_drop, Array.length_toList]
  omega
theorem sok_cut {z : Str} (h : SOk z) (l u : Option Int) : SOk (cutS z l u) := ⟨Nat.le_trans (cutS_le z l u) h.le, by
  unfold cutS
  refine List.all_eq_true.mpr fun c hc => List.all_eq_true.mp h.ok c ?_
  exact List.mem_of_mem_drop (List.mem_of_mem_take hc)⟩
theorem E_slS {z : Str} {olo ohi : Option Expr} {l u : Option Int} (ha : E C env L a ⟨z⟩) (hl : EO C env L olo l) (hu : EO C env L ohi u) : E C env L (.Subscript a (.Slice olo ohi none p2) pos) ⟨cutS z l u⟩ :=
  ⟨PE.imp (pe_slice sl_str ha.p hl.p hu.p) fun σ H Q ⟨F, s, q⟩ => ⟨F, s, fun v F1 H1 x1 s1 rv => ⟨F1, s1, fun F2 H2 x2 s2 => ⟨F2, s2, fun F3 H3 x3 s3 =>
    ⟨z, rv.1, rv.2.le, q _ F3 H3 ((x1.tr x2).tr x3) s3 ⟨rfl, sok_cut rv.2 l u⟩⟩⟩⟩⟩⟩
/-! ### lists of one's own -/
theorem E.own {α : Type} [Rep α] {as : List α} {l : Addr} (h : E C env L a ⟨(At.mk l)⟩) (hL : Cell.lst l as ∈ L) : ER C env L a as := ⟨PE.imp h.p fun σ H Q ⟨F, s, q⟩ => ⟨F, s, fun v F1 H1 x1 s1 rv => by
  have rv : v = V.ref l := rv
  subst rv
  exact q l F1 H1 x1 s1 (fun F2 H2 x2 o2 => by
    obtain ⟨⟨vs, h1, h2⟩, h3⟩ := o2.ok _ hL
    exact ⟨vs, sq_of h1, h2⟩) (s1.ow.ok _ hL).2⟩⟩
/-- xs.append(e) -/
theorem S_app {α : Type} [Rep α] {as : List α} {x : α} {l : Addr} (kk : Nat) (ho : E C env L a ⟨(At.mk l)⟩) (he : E C env L e ⟨x⟩) (hL : L[kk]? = some (Cell.lst l as)) (hz : as.length < sizeLine) (hk : S C env (L.set kk (Cell.lst l (as ++ [x]))) rest Q)
    (hs : swapsWith (.Call (.Attribute a "append" apos) [e] [] cpos) none pos.line C.X.env = pure false := by rfl) (hbase : attributeBase a "append" C.X.env (eval a C.X.env) = eval a C.X.env := by rfl)
    (hfew : ((backTo cpos (starEach (e :: []) C.X.env)).all (fun x => !x.1) && (backToKw cpos (keywordEach [] C.X.env)).all (fun x => x.1.isSome) && decide ((e :: []).length + ([] : List Keyword).length + (if ([] : List Keyword).isEmpty then 0 else 1) < 30)) = true := by rfl)
    (hst : starEach [e] C.X.env = (false, eval e C.X.env) :: starEach [] C.X.env := by rfl) (hline : (apos.endLine == cpos.line) = true := by rfl) : S C env L (.Expr (.Call (.Attribute a "append" apos) [e] [] cpos) pos :: rest) Q := by
  refine S_cons ⟨PS.imp (ps_expr (pe_bm PySem.F.plainAttrs_list PySem.F.slot_list_append PySem.F.type_list_append mt_append ho.p (pa_cons he.p pa_nil hst) hbase hfew hline hst rfl) hs) fun D σ H ⟨F, s, n⟩ => ?_⟩
  refine ⟨F, s, fun v F1 H1 x1 s1 rv => ?_⟩
  have rv : v = V.ref l := rv
  subst rv
  obtain ⟨⟨vs, h1, h2⟩, h3⟩ := s1.ow.ok _ (List.mem_of_getElem? hL)
  refine ⟨Or.inl ⟨rfl, vs, sq_of h1⟩, F1, s1, fun w F2 H2 x2 s2 rw' => ?_⟩
  obtain ⟨⟨vs2, h4, h5⟩, h6⟩ := s2.ow.ok _ (List.mem_of_getElem? hL)
  refine ⟨l, vs2, w, rfl, rfl, h4, by rw [h5.length]; exact hz, n.nx _ _ σ F2 _ hk (x1.f.tr x2.f) ⟨s2.sl, s2.ow.put hL rfl (fun b hb => upd_ne fun z => hb (by rw [z]; exact List.mem_cons_self)) ⟨⟨_, upd_same, h5.append (.cons rw' .nil)⟩, by rw [List.length_append]; exact hz⟩⟩⟩
/-- a list of one's own is frozen -/
theorem S_frz {α : Type} [Rep α] {as : List α} {l : Addr} (i kk : Nat) (hi : env[i]? = some (some ⟨(At.mk l)⟩)) (hL : L[kk]? = some (Cell.lst l as)) (hk : S C (env.set i (some ⟨as⟩)) (L.eraseIdx kk) rest Q) : S C env L rest Q := by
  refine ⟨PSs.imp hk.p fun D σ H ⟨F, s, n⟩ => ?_⟩
  have hp : L.Perm (Cell.lst l as :: L.eraseIdx kk) := by
    obtain ⟨hlt, he⟩ := List.getElem?_eq_some_iff.mp hL
    have e : L = L.take kk ++ Cell.lst l as :: L.drop (kk + 1) := by rw [← he]; simp
    rw [List.eraseIdx_eq_take_drop_succ]
    conv => lhs; rw [e]
    exact List.perm_middle
  obtain ⟨⟨vs, h1, h2⟩, h3⟩ := s.ow.ok _ (List.mem_of_getElem? hL)
  obtain ⟨x, o, hj⟩ := (s.ow.perm hp.symm).freeze
  obtain ⟨v, hv, rv⟩ := s.sl.get hi
  have rv : v = V.ref l := rv
  subst rv
  have sl := (s.sl.mono x).put (e := ⟨as⟩) (v := .ref l) (show Rep.rp C.X.K _ (.ref l) as from ⟨l, vs, rfl, by rw [hj l List.mem_cons_self]; exact h1, h2.imp fun _ _ => Rep.mono x, h3⟩) i
  have e : σ.set i (some (.ref l)) = σ := by
    obtain ⟨hlt, he⟩ := List.getElem?_eq_some_iff.mp hv
    rw [← he]; exact List.set_getElem_self hlt
  rw [e] at sl
  exact ⟨_, ⟨sl, o⟩, n.mono x⟩
end
end Py

namespace Py
open PySem PySem.Spec PyProof.Rows L2

/-! ### classes -/
/-- the method m of the class at C0 keeps sp -/
structure Ms (P : Program) (w : World) (K : PySem.W.Frag) (mg : Str → Option Value) (base : Heap) (k : Nat) (C0 : Addr) (m : Str) (sp : Sp) : Prop where
  h : ∃ f fd ps, Meth K C0 m f ∧ PySem.W.fnIn K f = true ∧ Binds K fd ps [] ∧ FnOk P w K mg base (L2.CX P w) k f fd ps sp
/-- the class's name is x, its __init__ keeps sp -/
structure Mks (P : Program) (w : World) (K : PySem.W.Frag) (mg : Str → Option Value) (base : Heap) (k : Nat) (C0 : Addr) (x : Str) (sp : Sp) : Prop where
  h : ∃ f fd ps, Mk K C0 f ∧ mg x = some (.ref C0) ∧ Binds K fd ps [] ∧ FnOk P w K mg base (L2.CX P w) k f fd ps sp

theorem own0 {K : PySem.W.Frag} {F H : Hp} (e : Ex F H) : Own K (frame H F []) F H [] :=
  ⟨e, fun a u h => (frame_of h).1, fun a u h => (frame_of h).2.1, fun c hc => (by cases hc), List.nodup_nil, fun c hc => (by cases hc), fun c hc => (by cases hc)⟩
theorem gro_of {K : PySem.W.Frag} {F H F' H' : Hp} {L : List Cell} (e : Ex F H) (o : Own K (frame H F []) F' H' L) (x : Ex F F') : Gro F H F' H' := ⟨x, frame_ex e o x, o.fH, fun p u h => by
  cases q : F p with
  | some v => left; have := x p v q; rw [h] at this; rw [this]
  | none =>
    right
    cases q2 : H p with
    | none => rfl
    | some v =>
      have h3 : frame H F [] p = some v := by rw [frame_some q (fun c hc => by cases hc)]; exact q2
      rw [o.fr p v h3] at h; cases h⟩
theorem of_spF.{u} {γ : Type u} {K : PySem.W.Frag} {arg : γ → List Ent} {pre : γ → Prop} {res : γ → Ent} {F H : Hp} {vs : List V} {Q : VK} {E : XK} (g : γ) (hp : pre g) (e : Ex F H) (rv : Pr (fun v r => Ent.rp r K F v) vs (arg g)) (h : ∀ v F' H', Gro F H F' H' → (res g).rp K F' v → Q v H') : spF K arg pre res vs H Q E :=
  ⟨g, hp, frame H F [], F, own0 e, rv, fun r L' v F' H' hpo x o rr => by
    obtain ⟨rfl, rfl⟩ := hpo
    exact h v F' H' (gro_of e o x) rr, fun _ _ _ _ _ z => z.elim⟩

section
variable {X : Cx} {A1 : Around} {CX0' : CXT} {k n : Nat} {f C0 : Addr} {fd : FuncData} {ps : List Str} {sp : Sp} {E : XK} {pins : List (Addr × Obj)} {σ : Py.St} {H : Hp} {s : Shared} {Q : VK} {us : List Value} {vs : List V}
theorem tk0 : Takes X (fun _ _ _ _ => False) := fun u s' ⟨_, _, _, _, _, _, _, _, _, _, _, _, _, _, _, _, z⟩ => z.elim
/-- a def is called, here or deeper within a builtin -/
theorem run_sub (F : FnOk X.prog X.w X.K X.mg X.base CX0' n f fd ps sp) (sb : Sub X n A1) (hb : Binds X.K fd ps []) (hx : PassesAt CX0' X σ E) (I : L2.Inv X pins σ H s) (r : Vals vs us) (h : sp vs H Q E) :
    wpAny (model X.prog X.w) A1 (call (.ref f) us) (EP X pins σ Q) X.xe s := by
  have e0 : Env0 X.prog X.w X.K X.mg X.base A1 X.stack s H := by
    have e := I.env0
    exact ⟨by rw [sb.fr]; exact e.frames, e.mod, e.bs, e.bsz, e.funs, e.frf, e.hok, e.bare⟩
  have hl : us.length = ps.length := by rw [← r.length]; exact F.len _ _ _ _ h
  have b := hb s us I.kIn (by rw [List.append_nil]; exact hl)
  rw [List.append_nil] at b
  refine wpAny_call (codeAny_mono (F.run A1 X.stack s H ⟨us, []⟩ us vs Q E sb.room e0 b r h) fun r s' hq => ?_)
  cases r with
  | error e => exact hx pins H s e s' I hq
  | ok fl =>
    cases fl with
    | ret u => exact I.after hq
    | next => exact False.elim hq
    | brk => exact False.elim hq
    | cont => exact False.elim hq
theorem Sub.here {X : Cx} {k n : Nat} (hr : Room k X.A) (h : n ≤ k) : Sub X n X.A := ⟨hr.mono h, rfl⟩

/-- an instance of the class at C0 -/
def IsI (K : PySem.W.Frag) (r : Ent) (C0 : Addr) : Prop := ∀ F v, r.rp K F v → ∃ p dx fs, v = .ref p ∧ F p = some (.ins C0 dx fs)
theorem inst_at {dx p : Addr} {fs : List (Str × V)} (I : L2.Inv X pins σ H s) (h : H p = some (.ins C0 dx fs)) : ∃ ox od, PySem.W.InstAt s.heap p ox C0 od ∧ ox.data = .plain := by
  obtain ⟨mA, J, _⟩ := ins_get I.hok h
  obtain ⟨od, J, _⟩ := J.look
  exact ⟨_, _, J, rfl⟩

theorem cmpBack_of {u : Value} {s' : Shared} (h : EP X pins σ Q u s') : PySem.W.CmpBack (EP X pins σ Q) u s' := by
  obtain ⟨v, H', I, r, q⟩ := h
  cases v with
  | non => cases r; exact ⟨.non, H', I, rfl, q⟩
  | bl b => cases r; exact ⟨.bl b, H', I, rfl, q⟩
  | int i => obtain ⟨t, rfl⟩ := r; exact ⟨.int i, H', I, ⟨t, rfl⟩, q⟩
  | str i => obtain ⟨t, rfl⟩ := r; exact ⟨.str i, H', I, ⟨t, rfl⟩, q⟩
  | byt i => obtain ⟨t, rfl⟩ := r; exact ⟨.byt i, H', I, ⟨t, rfl⟩, q⟩
  | flt i => obtain ⟨t, rfl⟩ := r; exact ⟨.flt i, H', I, ⟨t, rfl⟩, q⟩
  | ref a => cases r; exact ⟨.ref a, H', I, rfl, q⟩
  | ty a => cases r; exact ⟨.ty a, H', I, rfl, q⟩

/-- a op b by an own comparison: reading by values -/
def rOwn2 (C0 : Addr) (sp : Sp) : R2 := fun x y H Q => ∃ a dx fs b dy gs, x = .ref a ∧ y = .ref b ∧ H a = some (.ins C0 dx fs) ∧ H b = some (.ins C0 dy gs) ∧ sp [x, y] H Q (fun _ _ _ => False)
theorem op_cmpO {op : CmpOp} {m : Str} (ho : ∀ u v, compareOp op u v = richCompare op u v) (hm : (PySem.cmpInfo op).2.1 = m) (hr : Room k X.A) (M : Ms X.prog X.w X.K X.mg X.base n C0 m sp) (hj : n ≤ k) : OpR X (compareOp op) (rOwn2 C0 sp) := by
  intro pins s σ H x y v u Q I rx ry h
  obtain ⟨a, dx, fs, b, dy, gs, rfl, rfl, ha, hb, q⟩ := h
  cases rx
  cases ry
  obtain ⟨f, fd, ps, hM, _, hB, F⟩ := M.h
  obtain ⟨ox, od, J, _⟩ := inst_at I ha
  obtain ⟨ox', od', J', _⟩ := inst_at I hb
  obtain ⟨m', hF⟩ := I.fr
  rw [ho]
  subst hm
  refine PySem.W.cmp_K (tb := .ref C0) hr.units0 hF I.ok.mod.kin J J'.type (by simp [PySem.W.notFirst]) hM.at_ hM.fn ?_
  exact wpAny_mono (run_sub F (Sub.here hr hj) hB (passAt tk0 σ) I (show Vals [V.ref a, V.ref b] [Value.ref a, Value.ref b] from .cons rfl (.cons rfl .nil)) q) (fun _ _ z => cmpBack_of z) fun _ _ z => z
theorem op_binO {op : Operator} {m : Str} (hm : PySem.dunder op.info.2 = m) (hr : Room k X.A) (hc : PySem.W.selfFirst X.K C0 = true) (M : Ms X.prog X.w X.K X.mg X.base n C0 m sp) (hj : n ≤ k) : OpR X (binaryOp op) (rOwn2 C0 sp) := by
  intro pins s σ H x y v u Q I rx ry h
  obtain ⟨a, dx, fs, b, dy, gs, rfl, rfl, ha, hb, q⟩ := h
  cases rx
  cases ry
  obtain ⟨f, fd, ps, hM, _, hB, F⟩ := M.h
  obtain ⟨ox, od, J, _⟩ := inst_at I ha
  obtain ⟨ox', od', J', _⟩ := inst_at I hb
  obtain ⟨m', hF⟩ := I.fr
  subst hm
  refine PySem.W.binop_K hF I.ok.mod.kin J J'.type hc hM.at_ hM.fn ?_
  exact wpAny_mono (run_sub F (Sub.here hr hj) hB (passAt tk0 σ) I (show Vals [V.ref a, V.ref b] [Value.ref a, Value.ref b] from .cons rfl (.cons rfl .nil)) q) (fun _ _ z => cmpBack_of z) fun _ _ z => z
theorem call_lenO (hr : Room k X.A) (M : Ms X.prog X.w X.K X.mg X.base n C0 "__len__" sp) (hj : n + 1 ≤ k) : CallR X (.builtin "len") (fun xs H Q => ∃ a dx fs, xs = [.ref a] ∧ H a = some (.ins C0 dx fs) ∧ sp xs H (fun v H' => ∃ i : Int, v = .int i ∧ 0 ≤ i ∧ i < 2 ^ 63 ∧ Q (.int i) H') (fun _ _ _ => False)) := by
  intro pins s σ H xs us Q I r h
  obtain ⟨a, dx, fs, rfl, ha, q⟩ := h
  obtain ⟨f, fd, ps, hM, _, hB, F⟩ := M.h
  obtain ⟨ox, od, J, _⟩ := inst_at I ha
  obtain ⟨m', hF⟩ := I.fr
  cases r with
  | cons r t =>
    cases t
    cases r
    refine PySem.W.len_K hF I.ok.mod.kin J hM.at_ hM.fn ?_
    refine wpAny_mono (run_sub F (Sub.in1 (Sub.here hr hj)) hB (passAt tk0 σ) I (show Vals [V.ref a] [Value.ref a] from .cons rfl .nil) q) (fun u s' z => ?_) fun _ _ z => z
    obtain ⟨v, H', I', rv, i, rfl, h0, h1, q'⟩ := z
    obtain ⟨t, rfl⟩ := rv
    exact ⟨⟨h0, h1⟩, .int i, H', I'.tok _, ⟨_, rfl⟩, q'⟩
theorem call_strO (hr : Room k X.A) (M : Ms X.prog X.w X.K X.mg X.base n C0 "__str__" sp) (hj : n + 2 ≤ k) : CallR X (.type "str") (fun xs H Q => ∃ a dx fs, xs = [.ref a] ∧ H a = some (.ins C0 dx fs) ∧ sp xs H (fun v H' => ∃ z, v = .str z ∧ Q (.str z) H') (fun _ _ _ => False)) := by
  intro pins s σ H xs us Q I r h
  obtain ⟨a, dx, fs, rfl, ha, q⟩ := h
  obtain ⟨f, fd, ps, hM, _, hB, F⟩ := M.h
  obtain ⟨ox, od, J, _⟩ := inst_at I ha
  cases r with
  | cons r t =>
    cases t
    cases r
    have sb : Sub X n X.A.in1.in1 := Sub.in1 (Sub.in1 (Sub.here hr hj))
    refine PySem.W.kso_call sb.room.units0 I.kIn J hM.at_ hM.fn ?_
    refine wpAny_mono (run_sub F sb hB (passAt tk0 σ) I (show Vals [V.ref a] [Value.ref a] from .cons rfl .nil) q) (fun u s' z => ?_) fun _ _ z => z
    obtain ⟨v, H', I', rv, i, rfl, q'⟩ := z
    obtain ⟨t, rfl⟩ := rv
    exact ⟨.str i, H', I', ⟨t, rfl⟩, q'⟩
theorem pe_ixO {a b : Expr} {ta tb : TE} {pos : Pos} (hr : Room k X.A) (M : Ms X.prog X.w X.K X.mg X.base n C0 "__getitem__" sp) (hj : n + 1 ≤ k) (ha : PE X a ta) (hb : PE X b tb)
    (hs : ∀ x i, subscripted b true (.ref x) i = runValue (.builtin "lifetime.subscript" ⟨[.ref x, i], []⟩) := by intro _ _; with_unfolding_all rfl) : PE X (.Subscript a b pos) (fun σ H Q => ta σ H fun x H1 => tb σ H1 fun y H2 => ∃ a dx fs, x = .ref a ∧ H2 a = some (.ins C0 dx fs) ∧ sp [x, y] H2 Q (fun _ _ _ => False)) := by
  refine ⟨fun pins s σ H Q I h => ?_⟩
  refine Subscript_ (binT ha hb I h fun v u s2 x y H2 I2 rx ry q => ?_)
  obtain ⟨a, dx, fs, rfl, ha, q⟩ := q
  cases rx
  obtain ⟨f, fd, ps, hM, hfn, hB, F⟩ := M.h
  obtain ⟨ox, od, J, _⟩ := inst_at I2 ha
  obtain ⟨m', hF⟩ := I2.fr
  refine PySem.W.sub_K hF I2.ok.mod.kin J hM.at_ hfn hM.fn ?_ (hs a u)
  exact run_sub F (Sub.in1 (Sub.here hr hj)) hB (passAt tk0 σ) I2 (show Vals [V.ref a, y] [Value.ref a, u] from .cons rfl (.cons ry .nil)) q
theorem call_listS (hc : X.calm = true) : CallR X (.type "list") (fun xs H Q => ∃ z : Str, xs = [.str z] ∧ z.length ≤ sizeLine ∧ ∀ l, H l = none → Q (.ref l) (upd H l (.lst ((signs z).map V.str)))) := by
  intro pins s σ H xs us Q I r h
  obtain ⟨z, rfl, hz, q⟩ := h
  cases r with
  | cons r t =>
    cases t
    obtain ⟨t, rfl⟩ := r
    have hn := I.hok.fresh (Nat.le_refl _)
    refine call_list_str (I.ok.hd hc) z t (fun h' tk acc' c' k he hi => ?_) hz
    have ob : ObjOk X.prog X.w (upd H s.heap.objs.size (.lst ((signs z).map V.str))) h' s.heap.objs.size (.lst ((signs z).map V.str)) := by
      refine ⟨by rw [List.length_map]; unfold signs; rw [List.length_map, Array.length_toList]; exact hz, acc'.toList, c', ?_, by rw [Array.toArray_toList]; exact he⟩
      obtain ⟨e1, e2⟩ := hi
      have key : ∀ (cs : List Nat) (us : List Value), us.length = cs.length → (∀ (j : Nat) v, us[j]? = some v → ∃ c u, cs[j]? = some c ∧ v = Value.str ⟨#[c]⟩ u) → Vals ((cs.map fun c => (⟨#[c]⟩ : Str)).map V.str) us := by
        intro cs
        induction cs with
        | nil => intro us hl _; cases us with | nil => exact .nil | cons _ _ => simp at hl
        | cons c cs ih =>
          intro us hl hv
          cases us with
          | nil => simp at hl
          | cons u us =>
            obtain ⟨c', t', h1, h2⟩ := hv 0 u rfl
            have h1 : some c = some c' := h1
            cases h1
            refine .cons ⟨t', h2⟩ (ih us (by simpa using hl) fun j v hj => ?_)
            have := hv (j + 1) v (by simpa using hj)
            simpa using this
      refine key z.cps.toList acc'.toList (by simp [e1]) fun j v hj => ?_
      obtain ⟨c, u, h1, h2⟩ := e2 j v (by rw [← Array.getElem?_toList]; exact hj)
      exact ⟨c, u, by rw [← Array.getElem?_toList] at h1; exact h1, h2⟩
    exact ⟨.ref s.heap.objs.size, _, I.laid k (Nat.le_refl _) ob, rfl, q _ hn⟩
end
end Py

namespace Py
open PySem PySem.Spec PyProof.Rows L2

section
variable {X : Cx} {CX0' : CXT} {k n : Nat} {f C0 : Addr} {fd : FuncData} {ps : List Str} {sp : Sp} {E : XK} {pins : List (Addr × Obj)} {σ : Py.St} {H : Hp} {s : Shared} {Q : VK} {us : List Value} {vs : List V} {x : Str} {e : Expr} {es : List Expr} {p pos : Pos} {t : TA}
/-- C(..), what is raised wished for at the slots -/
theorem run_makeS (M : Mk X.K C0 f) (F : FnOk X.prog X.w X.K X.mg X.base CX0' n f fd ps sp) (hr : Room (n + 1) X.A) (hb : Binds X.K fd ps []) (hx : PassesAt CX0' X σ E) (I : L2.Inv X pins σ H s) (r : Vals vs us)
    (h : ∀ x dx, H x = none → H dx = none → dx ≠ x → sp (.ref x :: vs) (upd (upd H dx (.own x)) x (.ins C0 dx [])) (fun v H2 => v = .non ∧ Q (.ref x) H2) E) :
    wpAny (model X.prog X.w) X.A (call (.ref C0) us) (EP X pins σ Q) X.xe s := by
  have hq := h (s.heap.objs.size + 1) s.heap.objs.size (I.hok.fresh (Nat.le_succ _)) (I.hok.fresh (Nat.le_refl _)) (Nat.ne_of_lt (Nat.lt_succ_self _))
  have I2 := Inv.made (C := C0) I
  have r2 : Vals (V.ref (s.heap.objs.size + 1) :: vs) (Value.ref (s.heap.objs.size + 1) :: us) := .cons rfl r
  have hl : (Value.ref (s.heap.objs.size + 1) :: us).length = ps.length := by
    have e := r2.length
    rw [F.len _ _ _ _ hq] at e
    exact e.symm
  have b := hb _ (Value.ref (s.heap.objs.size + 1) :: us) I2.kIn (by rw [List.append_nil]; exact hl)
  rw [List.append_nil] at b
  refine wpAny_call (make_map (f := f) I.kIn M.makes M.init (beq_iff_eq.mp M.fn) (codeAny_mono (F.run _ X.stack _ _ ⟨Value.ref (s.heap.objs.size + 1) :: us, []⟩ (Value.ref (s.heap.objs.size + 1) :: us) _ _ E (hr.make C0 us [])
    (I2.env0.make C0 us []) b r2 hq) fun r s' hq' => ?_))
  cases r with
  | error e => exact hx pins _ _ e s' I2 hq'
  | ok fl =>
    cases fl with
    | ret u =>
      obtain ⟨v, H', I3, rv, ev, q3⟩ := I2.after hq'
      subst ev
      exact ⟨rv, ⟨V.ref (s.heap.objs.size + 1), H', I3, rfl, q3⟩⟩
    | next => exact False.elim hq'
    | brk => exact False.elim hq'
    | cont => exact False.elim hq'
def tMakeS (C0 : Addr) (sp : Sp) (E : Py.St → XK) (t : TA) : TE := fun σ H Q => t σ H fun vs H1 => ∀ x dx, H1 x = none → H1 dx = none → dx ≠ x →
  sp (.ref x :: vs) (upd (upd H1 dx (.own x)) x (.ins C0 dx [])) (fun v H2 => v = .non ∧ Q (.ref x) H2) (E σ)
theorem pe_makeS {E : Py.St → XK} (M : Mk X.K C0 f) (F : FnOk X.prog X.w X.K X.mg X.base CX0' n f fd ps sp) (hr : Room (n + 1) X.A) (hg : Gl X x) (hm : X.mg x = some (.ref C0)) (hb : Binds X.K fd ps []) (hx : ∀ σ, PassesAt CX0' X σ (E σ))
    (ha : PA X (e :: es) t) (hdb : (x == ("__debug__" : Str)) = false := by decide) (he : starEach (e :: es) X.env = (false, eval e X.env) :: starEach es X.env := by rfl) (hpl : (backTo pos (starEach es X.env)).any (·.1) = false := by rfl) :
    PE X (.Call (.Name x p) (e :: es) [] pos) (tMakeS C0 sp E t) := by
  refine ⟨fun pins s σ H Q I h => ?_⟩
  refine wpAny_Call_Name_kw (ld_glob I hg hm ?_ hdb)
  refine PySem.W.callWith_K (h₀ := X.base) I.ok.mod.kin M.kp (thn (ha.run pos pins s σ H _ I h) fun us s1 ⟨vs, H1, I1, r, q⟩ => ⟨I1.kIn, ?_⟩) he hpl
  exact run_makeS M F hr hb (hx σ) I1 r q
theorem pe_makeS0 {E : Py.St → XK} (M : Mk X.K C0 f) (F : FnOk X.prog X.w X.K X.mg X.base CX0' n f fd ps sp) (hr : Room (n + 1) X.A) (hg : Gl X x) (hm : X.mg x = some (.ref C0)) (hb : Binds X.K fd ps []) (hx : ∀ σ, PassesAt CX0' X σ (E σ))
    (hdb : (x == ("__debug__" : Str)) = false := by decide) : PE X (.Call (.Name x p) [] [] pos) (tMakeS C0 sp E tNil) := by
  refine ⟨fun pins s σ H Q I h => ?_⟩
  refine wpAny_Call_Name_kw (ld_glob I hg hm ?_ hdb)
  exact PySem.W.callWith_K0 I.kIn M.kp (run_makeS (us := []) M F hr hb (hx σ) I .nil h)
end

/-! ### an object of one's own -/
abbrev Fld := List (Str × Ent)
def FldOk (K : PySem.W.Frag) (F : Hp) (a : Str × V) (b : Str × Ent) : Prop := a.1 = b.1 ∧ b.2.rp K F a.2
theorem FldOk.mono {K F F' a b} (x : Ex F F') (h : FldOk K F a b) : FldOk K F' a b := ⟨h.1, Ent.mono x h.2⟩
theorem fld_lookup {K F} {vs : List (Str × V)} {fs : Fld} (h : Pr (FldOk K F) vs fs) {f : Str} {y : Ent} (hf : fs.lookup f = some y) : ∃ v, vs.lookup f = some v ∧ y.rp K F v := by
  induction h with
  | nil => cases hf
  | @cons a b _ _ h t ih =>
    obtain ⟨g, v⟩ := a
    obtain ⟨g', y'⟩ := b
    obtain ⟨h1, h2⟩ := h
    have h1 : g = g' := h1
    subst h1
    rw [List.lookup_cons] at hf ⊢
    cases q : (f == g) with
    | true => rw [q] at hf; cases hf; exact ⟨v, rfl, h2⟩
    | false => rw [q] at hf; exact ih hf
theorem fld_none {K F} {vs : List (Str × V)} {fs : Fld} (h : Pr (FldOk K F) vs fs) {f : Str} (hf : fs.lookup f = none) : vs.lookup f = none := by
  induction h with
  | nil => rfl
  | @cons a b _ _ h t ih =>
    obtain ⟨g, v⟩ := a
    obtain ⟨g', y'⟩ := b
    have h1 : g = g' := h.1
    subst h1
    rw [List.lookup_cons] at hf ⊢
    cases q : (f == g) with
    | true => rw [q] at hf; cases hf
    | false => rw [q] at hf; exact ih hf
def putE (f : Str) (y : Ent) : Fld → Fld
  | [] => [(f, y)]
  | (g, x) :: r => if g = f then (g, y) :: r else (g, x) :: putE f y r
theorem fld_put {K F} {vs : List (Str × V)} {fs : Fld} (h : Pr (FldOk K F) vs fs) {f : Str} {y : Ent} {v : V} (hv : y.rp K F v) : Pr (FldOk K F) (putF f v vs) (putE f y fs) := by
  induction h with
  | nil => exact .cons ⟨rfl, hv⟩ .nil
  | @cons a b _ _ h t ih =>
    obtain ⟨g, w⟩ := a
    obtain ⟨g', y'⟩ := b
    have h1 : g = g' := h.1
    subst h1
    unfold putF putE
    by_cases q : g = f
    · rw [if_pos q, if_pos q]; exact .cons ⟨rfl, hv⟩ t
    · rw [if_neg q, if_neg q]; exact .cons h ih
def Cell.obj (p C0 dx : Addr) (fs : Fld) : Cell := ⟨[p, dx], fun K F H => ∃ vs, H p = some (.ins C0 dx vs) ∧ H dx = some (.own p) ∧ Pr (FldOk K F) vs fs, fun x h ⟨vs, h1, h2, h3⟩ => ⟨vs, by rw [h p List.mem_cons_self]; exact h1, by rw [h dx (List.mem_cons_of_mem _ List.mem_cons_self)]; exact h2, h3.imp fun _ _ => FldOk.mono x⟩,
  fun ⟨vs, h1, h2, _⟩ a ha => by
    rcases List.mem_cons.mp ha with rfl | ha
    · exact ⟨_, h1⟩
    · rw [List.mem_singleton.mp ha]; exact ⟨_, h2⟩⟩

section
variable {K : PySem.W.Frag} {R F H H' : Hp} {L : List Cell}
theorem Own.cells (o : Own K R F H L) {c : Cell} {u : Hp} (hu : ∀ a, a ∉ c.ad → u a = H a) (hnew : ∀ a ∈ c.ad, H a = none) (hnd : c.ad.Nodup) (ok : c.ok K F u) : Own K R F u (c :: L) := by
  have hc : ∀ d ∈ L, ∀ a ∈ d.ad, a ∉ c.ad := fun d hd a ha h => by
    obtain ⟨v, hv⟩ := d.th (o.ok d hd) a ha
    rw [hnew a h] at hv; cases hv
  refine ⟨fun a v q => ?_, fun a v q => ?_, o.fr, fun d hd => ?_, ?_, fun d hd a hda => ?_, fun d hd a hda => ?_⟩
  · rw [hu a fun h => by rw [Ex.free o.fH (hnew a h)] at q; cases q]; exact o.fH a v q
  · rw [hu a fun h => by rw [Ex.free o.rH (hnew a h)] at q; cases q]; exact o.rH a v q
  · rcases List.mem_cons.mp hd with rfl | hd
    · exact ok
    · exact d.mono (Ex.rf F) (fun a ha => hu a (hc d hd a ha)) (o.ok d hd)
  · rw [List.flatMap_cons]
    refine List.nodup_append.mpr ⟨hnd, o.nd, fun a ha b hb e => ?_⟩
    subst e
    obtain ⟨d, hd, hda⟩ := List.mem_flatMap.mp hb
    exact hc d hd a hda ha
  · rcases List.mem_cons.mp hd with rfl | hd
    · exact Ex.free o.fH (hnew a hda)
    · exact o.nf d hd a hda
  · rcases List.mem_cons.mp hd with rfl | hd
    · exact Ex.free o.rH (hnew a hda)
    · exact o.nr d hd a hda
theorem Own.made (o : Own K R F H L) {x dx C0 : Addr} (h1 : H x = none) (h2 : H dx = none) (h3 : dx ≠ x) : Own K R F (upd (upd H dx (.own x)) x (.ins C0 dx [])) (Cell.obj x C0 dx [] :: L) := by
  refine o.cells (fun a ha => ?_) (fun a ha => ?_) (by show List.Nodup [x, dx]; simp; exact fun e => h3 e.symm) ⟨[], upd_same, by rw [upd_ne h3, upd_same], .nil⟩
  · have e1 : a ≠ x := fun e => ha (by rw [e]; exact List.mem_cons_self)
    have e2 : a ≠ dx := fun e => ha (by rw [e]; exact List.mem_cons_of_mem _ List.mem_cons_self)
    rw [upd_ne e1, upd_ne e2]
  · rcases List.mem_cons.mp ha with rfl | ha
    · exact h1
    · rw [List.mem_singleton.mp ha]; exact h2
end

section
variable {C : Cz} {k j n : Nat} {env env' env2 env3 : Env} {L LR : List Cell} {e a b c o tg iter elt lo hi : Expr} {es ifs : List Expr} {r r1 r2 r3 : Ent} {rs : List Ent} {pos p p2 apos cpos : Pos} {Q : Po} {st : Stmt} {rest body : List Stmt} {x f m : Str} {C0 : Addr}
/-- C(e, ..) -/
theorem EM_make.{u} {δ : Type u} {arg : δ → List Ent} {pre : δ → Prop} {post : Addr → Addr → δ → Ent → List Cell → Prop} {exc : Addr → Addr → δ → Value → Option Addr → List Cell → Prop} (d : δ) (ok : C.Ok k)
    (M : Mks C.X.prog C.X.w C.X.K C.X.mg C.X.base j C0 x (spM (γ := Addr × Addr × δ) C.X.K (fun g => ⟨(At.mk g.1)⟩ :: arg g.2.2) (fun g => [Cell.obj g.1 C0 g.2.1 []]) (fun g => pre g.2.2) (fun g => post g.1 g.2.1 g.2.2) (fun g => exc g.1 g.2.1 g.2.2)))
    (hpo : ∀ p dx d r L', post p dx d r L' → r = ⟨()⟩) (ha : A C env L (e :: es) (arg d)) (hp : pre d) (hj : j + 1 ≤ k := by decide) (hg : Gl C.X x := by rfl)
    (hdb : (x == ("__debug__" : Str)) = false := by decide) (he : starEach (e :: es) C.X.env = (false, eval e C.X.env) :: starEach es C.X.env := by rfl) (hpl : (backTo pos (starEach es C.X.env)).any (·.1) = false := by rfl) :
    EM C env L (.Call (.Name x p) (e :: es) [] pos) (fun r L' => ∃ p dx L1, r = ⟨(At.mk p)⟩ ∧ post p dx d ⟨()⟩ L1 ∧ L' = L1 ++ L) (fun cls dd L' => ∃ p dx L1, exc p dx d cls dd L1 ∧ L' = L1 ++ L) := by
  obtain ⟨f, fd, ps, hM, hm, hb, F⟩ := M.h
  refine ⟨PE.imp (pe_makeS hM F (ok.room.mono hj) hg hm hb (fun σ => passAt ok.tk σ) ha.p hdb he hpl) fun σ H Q ⟨F0, s, q1, q2⟩ => ⟨F0, s, fun vs F1 H1 x1 s1 rv xx dx h1 h2 h3 => ?_⟩⟩
  have o := s1.ow.made (C0 := C0) h1 h2 h3
  have s2 : Sta C F1 env (Cell.obj xx C0 dx [] :: L) σ (upd (upd H1 dx (.own xx)) xx (.ins C0 dx [])) := ⟨s1.sl, o⟩
  refine of_sp1 (C := C) (env := env) (LR := L) (xx, dx, d) hp (List.Perm.refl _) s2 (.cons (show Ent.rp ⟨(At.mk xx)⟩ _ _ _ from rfl) rv) (fun v r L' F' H' hpost x2 s' rr => ?_) (fun cls dd L' F' H' hx x2 s' => q2 cls dd _ F' H' ⟨xx, dx, L', hx, rfl⟩ (x1.f.tr x2) s')
  have hr := hpo _ _ _ _ _ hpost
  subst hr
  exact ⟨rr, q1 (.ref xx) _ _ F' H' ⟨xx, dx, L', rfl, hpost, rfl⟩ (x1.f.tr x2) s' rfl⟩
theorem EM_make0.{u} {δ : Type u} {pre : δ → Prop} {post : Addr → Addr → δ → Ent → List Cell → Prop} {exc : Addr → Addr → δ → Value → Option Addr → List Cell → Prop} (d : δ) (ok : C.Ok k)
    (M : Mks C.X.prog C.X.w C.X.K C.X.mg C.X.base j C0 x (spM (γ := Addr × Addr × δ) C.X.K (fun g => [⟨(At.mk g.1)⟩]) (fun g => [Cell.obj g.1 C0 g.2.1 []]) (fun g => pre g.2.2) (fun g => post g.1 g.2.1 g.2.2) (fun g => exc g.1 g.2.1 g.2.2)))
    (hpo : ∀ p dx d r L', post p dx d r L' → r = ⟨()⟩) (hp : pre d) (hj : j + 1 ≤ k := by decide) (hg : Gl C.X x := by rfl)
    (hdb : (x == ("__debug__" : Str)) = false := by decide) :
    EM C env L (.Call (.Name x p) [] [] pos) (fun r L' => ∃ p dx L1, r = ⟨(At.mk p)⟩ ∧ post p dx d ⟨()⟩ L1 ∧ L' = L1 ++ L) (fun cls dd L' => ∃ p dx L1, exc p dx d cls dd L1 ∧ L' = L1 ++ L) := by
  obtain ⟨f, fd, ps, hM, hm, hb, F⟩ := M.h
  refine ⟨PE.imp (pe_makeS0 hM F (ok.room.mono hj) hg hm hb (fun σ => passAt ok.tk σ) hdb) fun σ H1 Q ⟨F1, s1, q1, q2⟩ => ?_⟩
  show ∀ xx dx, _ → _ → _ → _
  intro xx dx h1 h2 h3
  have o := s1.ow.made (C0 := C0) h1 h2 h3
  have s2 : Sta C F1 env (Cell.obj xx C0 dx [] :: L) σ (upd (upd H1 dx (.own xx)) xx (.ins C0 dx [])) := ⟨s1.sl, o⟩
  refine of_sp1 (C := C) (env := env) (LR := L) (xx, dx, d) hp (List.Perm.refl _) s2 (.cons (show Ent.rp ⟨(At.mk xx)⟩ _ _ _ from rfl) .nil) (fun v r L' F' H' hpost x2 s' rr => ?_) (fun cls dd L' F' H' hx x2 s' => q2 cls dd _ F' H' ⟨xx, dx, L', hx, rfl⟩ x2 s')
  have hr := hpo _ _ _ _ _ hpost
  subst hr
  exact ⟨rr, q1 (.ref xx) _ _ F' H' ⟨xx, dx, L', rfl, hpost, rfl⟩ x2 s' rfl⟩
/-- o.f, o frozen -/
theorem E_fld {α β : Type} [Rep α] [Rep β] {t : α} {y : β} (cl : Cls C.X.K C0) (na : NoAttr C.X.K C0 f) (h : ∀ F v, Rep.rp C.X.K F v t → ∃ p dx fs w, v = .ref p ∧ F p = some (.ins C0 dx fs) ∧ fs.lookup f = some w ∧ Rep.rp C.X.K F w y) (he : E C env L e ⟨t⟩) (hb : attributeBase e f C.X.env (eval e C.X.env) = eval e C.X.env := by rfl) : E C env L (.Attribute e f pos) ⟨y⟩ :=
  ⟨PE.imp (pe_fld he.p hb) fun σ H Q ⟨F, s, q⟩ => ⟨F, s, fun v F1 H1 x1 s1 rv => by
    obtain ⟨p, dx, fs, w, rfl, h1, h2, h3⟩ := h F1 v rv
    exact ⟨p, C0, dx, fs, w, rfl, s1.ow.fH _ _ h1, cl, na, h2, q w F1 H1 x1 s1 h3⟩⟩⟩
/-- o.f, o one's own -/
theorem E_fldO {q dx : Addr} {fs : Fld} {y : Ent} (cl : Cls C.X.K C0) (na : NoAttr C.X.K C0 f) (he : E C env L e ⟨(At.mk q)⟩) (hL : Cell.obj q C0 dx fs ∈ L) (hf : fs.lookup f = some y) (hb : attributeBase e f C.X.env (eval e C.X.env) = eval e C.X.env := by rfl) : E C env L (.Attribute e f pos) y :=
  ⟨PE.imp (pe_fld he.p hb) fun σ H Q ⟨F, s, qq⟩ => ⟨F, s, fun v F1 H1 x1 s1 rv => by
    have rv : v = V.ref q := rv
    subst rv
    obtain ⟨vs, h1, h2, h3⟩ := s1.ow.ok _ hL
    obtain ⟨w, h4, h5⟩ := fld_lookup h3 hf
    exact ⟨q, C0, dx, vs, w, rfl, h1, cl, na, h4, qq w F1 H1 x1 s1 h5⟩⟩⟩
/-- o.f = e -/
theorem S_fld {q dx : Addr} {fs : Fld} {y : Ent} (kk : Nat) (cl : Cls C.X.K C0) (na : NoAttr C.X.K C0 f) (ho : E C env L o ⟨(At.mk q)⟩) (he : E C env L e y) (hL : L[kk]? = some (Cell.obj q C0 dx fs)) (hk : S C env (L.set kk (Cell.obj q C0 dx (putE f y fs))) rest Q) (hz : fs.length < 1000 := by decide)
    (hs : swapsWith e (some (.Attribute o f p)) pos.line C.X.env = pure false := by rfl) : S C env L (.Assign [.Attribute o f p] e pos :: rest) Q :=
  S_cons ⟨PS.imp (ps_fld ho.p he.p hs) fun D σ H ⟨F, s, n⟩ => ⟨F, s, fun v F1 H1 x1 s1 rv => ⟨F1, s1, fun w F2 H2 x2 s2 rw' => by
    have rw' : w = V.ref q := rw'
    subst rw'
    obtain ⟨vs, h1, h2, h3⟩ := s2.ow.ok _ (List.mem_of_getElem? hL)
    have hne : dx ≠ q := fun e => by
      subst e
      rw [h1] at h2; cases h2
    refine ⟨q, C0, dx, vs, rfl, h1, cl, na, by rw [h3.length]; exact hz, n.nx env _ σ F2 _ hk (x1.f.tr x2.f) ⟨s2.sl, s2.ow.put hL rfl (fun b hb => upd_ne fun z => hb (by rw [z]; exact List.mem_cons_self)) ⟨_, upd_same, by rw [upd_ne hne]; exact h2, fld_put h3 (Ent.mono x2.f rv)⟩⟩⟩⟩⟩⟩
/-- a cell is frozen, and its name's datum is read anew -/
theorem S_frzG {c : Cell} {r0 r1 : Ent} (i kk : Nat) (hi : env[i]? = some (some r0)) (hL : L[kk]? = some c) (hc : ∀ F H F' v, c.ok C.X.K F H → Ex F F' → (∀ a ∈ c.ad, F' a = H a) → r0.rp C.X.K F v → r1.rp C.X.K F' v) (hk : S C (env.set i (some r1)) (L.eraseIdx kk) rest Q) : S C env L rest Q := by
  refine ⟨PSs.imp hk.p fun D σ H ⟨F, s, n⟩ => ?_⟩
  have hp : L.Perm (c :: L.eraseIdx kk) := by
    obtain ⟨hlt, he⟩ := List.getElem?_eq_some_iff.mp hL
    have e : L = L.take kk ++ c :: L.drop (kk + 1) := by rw [← he]; simp
    rw [List.eraseIdx_eq_take_drop_succ]
    conv => lhs; rw [e]
    exact List.perm_middle
  obtain ⟨x, o, hj⟩ := (s.ow.perm hp.symm).freeze
  obtain ⟨v, hv, rv⟩ := s.sl.get hi
  have sl := (s.sl.mono x).put (e := r1) (v := v) (hc F H _ v (s.ow.ok _ (List.mem_of_getElem? hL)) x hj rv) i
  have e : σ.set i (some v) = σ := by
    obtain ⟨hlt, he⟩ := List.getElem?_eq_some_iff.mp hv
    rw [← he]; exact List.set_getElem_self hlt
  rw [e] at sl
  exact ⟨_, ⟨sl, o⟩, n.mono x⟩
/-- an expression whose result is a new object, frozen at once -/
theorem EM_frz {c : Addr → Cell} {y : Ent} {PX} (h : EM C env L e (fun r L' => ∃ q, r = ⟨(At.mk q)⟩ ∧ L' = c q :: L) PX) (hc : ∀ q F H F', (c q).ok C.X.K F H → Ex F F' → (∀ a ∈ (c q).ad, F' a = H a) → y.rp C.X.K F' (.ref q)) : EM C env L e (fun r L' => r = y ∧ L' = L) PX :=
  ⟨PE.imp h.p fun σ H Q ⟨F, s, q1, q2⟩ => ⟨F, s, fun v r L' F' H' hr x s' rv => by
    obtain ⟨q, rfl, rfl⟩ := hr
    have rv : v = V.ref q := rv
    subst rv
    obtain ⟨x2, o, hj⟩ := s'.ow.freeze
    exact q1 (.ref q) y L _ H' ⟨rfl, rfl⟩ (x.tr x2) ⟨s'.sl.mono x2, o⟩ (hc q F' H' _ (s'.ow.ok _ List.mem_cons_self) x2 hj), q2⟩⟩

/-! own operators, by values -/
theorem cmp_own.{u} {X : Cx} {γ : Type u} {arg : γ → List Ent} {pre : γ → Prop} {res : γ → Ent} {op : CmpOp} (g : γ) (hr : Room k X.A) (M : Ms X.prog X.w X.K X.mg X.base n C0 m (spF X.K arg pre res)) (ha : arg g = [r1, r2]) (hp : pre g) (i1 : IsI X.K r1 C0) (i2 : IsI X.K r2 C0) (ho : ∀ u v, compareOp op u v = richCompare op u v := by intro _ _; rfl) (hm : (PySem.cmpInfo op).2.1 = m := by rfl) (hj : n ≤ k := by decide) : Cmp X op r1 r2 (res g) :=
  ⟨⟨_, op_cmpO ho hm hr M hj, fun F H v1 v2 Q e h1 h2 q => by
    obtain ⟨a, dx, fs, rfl, g1⟩ := i1 F v1 h1
    obtain ⟨b, dy, gs, rfl, g2⟩ := i2 F v2 h2
    exact ⟨a, dx, fs, b, dy, gs, rfl, rfl, e _ _ g1, e _ _ g2, of_spF g hp e (by rw [ha]; exact .cons h1 (.cons h2 .nil)) q⟩⟩⟩
theorem bin_own.{u} {X : Cx} {γ : Type u} {arg : γ → List Ent} {pre : γ → Prop} {res : γ → Ent} {op : Operator} (g : γ) (hr : Room k X.A) (hc : PySem.W.selfFirst X.K C0 = true) (M : Ms X.prog X.w X.K X.mg X.base n C0 m (spF X.K arg pre res)) (ha : arg g = [r1, r2]) (hp : pre g) (i1 : IsI X.K r1 C0) (i2 : IsI X.K r2 C0) (hm : PySem.dunder op.info.2 = m := by rfl) (hj : n ≤ k := by decide) : Bin X op r1 r2 (res g) :=
  ⟨⟨_, op_binO hm hr hc M hj, fun F H v1 v2 Q e h1 h2 q => by
    obtain ⟨a, dx, fs, rfl, g1⟩ := i1 F v1 h1
    obtain ⟨b, dy, gs, rfl, g2⟩ := i2 F v2 h2
    exact ⟨a, dx, fs, b, dy, gs, rfl, rfl, e _ _ g1, e _ _ g2, of_spF g hp e (by rw [ha]; exact .cons h1 (.cons h2 .nil)) q⟩⟩⟩
theorem pr_one {K F} {v : V} {r : Ent} (h : Pr (fun v r => Ent.rp r K F v) [v] [r]) : r.rp K F v := by cases h; assumption
theorem one_of {K F} {vs : List V} {r : Ent} (h : Pr (fun v r => Ent.rp r K F v) vs [r]) : ∃ v, vs = [v] ∧ r.rp K F v := by
  cases h with
  | cons h t => cases t; exact ⟨_, rfl, h⟩
theorem cal_lenO.{u} {X : Cx} {γ : Type u} {arg : γ → List Ent} {pre : γ → Prop} {res : γ → Int} (g : γ) (hr : Room k X.A) (M : Ms X.prog X.w X.K X.mg X.base n C0 "__len__" (spF X.K arg pre (fun g => ⟨res g⟩))) (ha : arg g = [r1]) (hp : pre g) (i1 : IsI X.K r1 C0) (hb : 0 ≤ res g ∧ res g < 2 ^ 63) (hj : n + 1 ≤ k := by decide) : Cal X "len" [r1] ⟨res g⟩ :=
  ⟨⟨_, _, call_lenO hr M hj, boot_len, Or.inl ⟨_, rfl⟩, fun F H vs Q e rv q => by
    obtain ⟨v, rfl, h1⟩ := one_of rv
    obtain ⟨a, dx, fs, rfl, g1⟩ := i1 F v h1
    exact ⟨a, dx, fs, rfl, e _ _ g1, of_spF g hp e (by rw [ha]; exact .cons h1 .nil) fun v F' H' gg rr => ⟨res g, rr, hb.1, hb.2, q _ F' H' gg rfl⟩⟩⟩⟩
theorem cal_strO.{u} {X : Cx} {γ : Type u} {arg : γ → List Ent} {pre : γ → Prop} {res : γ → Str} (g : γ) (hr : Room k X.A) (M : Ms X.prog X.w X.K X.mg X.base n C0 "__str__" (spF X.K arg pre (fun g => ⟨res g⟩))) (ha : arg g = [r1]) (hp : pre g) (i1 : IsI X.K r1 C0) (hj : n + 2 ≤ k := by decide) : Cal X "str" [r1] ⟨res g⟩ :=
  ⟨⟨_, _, call_strO hr M hj, boot_str, Or.inr ⟨_, rfl⟩, fun F H vs Q e rv q => by
    obtain ⟨v, rfl, h1⟩ := one_of rv
    obtain ⟨a, dx, fs, rfl, g1⟩ := i1 F v h1
    exact ⟨a, dx, fs, rfl, e _ _ g1, of_spF g hp e (by rw [ha]; exact .cons h1 .nil) fun v F' H' gg rr => ⟨res g, rr.1, q _ F' H' gg ⟨rfl, rr.2⟩⟩⟩⟩⟩
theorem E_ixO.{u} {γ : Type u} {arg : γ → List Ent} {pre : γ → Prop} {res : γ → Ent} (g : γ) (ok : C.Ok k) (M : Ms C.X.prog C.X.w C.X.K C.X.mg C.X.base n C0 "__getitem__" (spF C.X.K arg pre res)) (hg : arg g = [r1, r2]) (hp : pre g) (i1 : IsI C.X.K r1 C0) (ha : E C env L a r1) (hb : E C env L b r2) (hj : n + 1 ≤ k := by decide)
    (hs : ∀ x i, subscripted b true (.ref x) i = runValue (.builtin "lifetime.subscript" ⟨[.ref x, i], []⟩) := by intro _ _; with_unfolding_all rfl) : E C env L (.Subscript a b pos) (res g) :=
  ⟨PE.imp (pe_ixO ok.room M hj ha.p hb.p hs) fun σ H Q ⟨F, s, q⟩ => ⟨F, s, fun v F1 H1 x1 s1 rv => ⟨F1, s1, fun w F2 H2 x2 s2 rw' => by
    obtain ⟨aa, dx, fs, rfl, g1⟩ := i1 F1 v rv
    exact ⟨aa, dx, fs, rfl, s2.ow.fH _ _ (x2.f _ _ g1), of_spF g hp s2.ow.fH (by rw [hg]; exact .cons (Ent.mono x2.f rv) (.cons rw' .nil)) fun v F' H' gg rr => q v F' H' ((x1.tr x2).tr gg.w) (s2.gro gg) rr⟩⟩⟩⟩
theorem sok_signs {z : Str} (hz : SOk z) : ∀ y ∈ signs z, SOk y := fun y hy => by
  unfold signs at hy
  obtain ⟨c, hc, rfl⟩ := List.mem_map.mp hy
  obtain ⟨i, hi⟩ := List.getElem?_of_mem hc
  exact sok_sign hz hi
/-- list(s), s a text -/
theorem cal_listS {X : Cx} {z : Str} (hc : X.calm = true) : Cal X "list" [⟨z⟩] ⟨signs z⟩ := ⟨⟨_, _, call_listS hc, boot_listx, Or.inr ⟨_, rfl⟩, fun F H vs Q e rv q => by
  obtain ⟨v, rfl, rfl, hz⟩ := one_arg rv
  exact ⟨z, rfl, hz.le, fun l hn => q _ _ _ (Gro.new e hn) ⟨l, _, rfl, upd_same, Pr.ofStrs _ (sok_signs hz), by unfold signs; rw [List.length_map, Array.length_toList]; exact hz.le⟩⟩⟩⟩
end
end Py

namespace Py
open PySem PySem.Spec PyProof.Rows L2

/-- a built-in type as a value -/
structure TyN where
  n : String
instance : Rep TyN := ⟨fun _ _ v a => v = .ty a.n, fun _ h => h⟩
section
variable {C : Cz} {k j n : Nat} {env env' env2 env3 : Env} {L LR : List Cell} {e a b c o tg iter elt lo hi : Expr} {es ifs : List Expr} {r r1 r2 r3 : Ent} {rs : List Ent} {pos p p2 apos cpos : Pos} {Q : Po} {st : Stmt} {rest body : List Stmt} {x f m : Str} {C0 : Addr}
/-! names of the module -/
theorem E_glo {q : Addr} (hm : C.X.mg x = some (.ref q)) (hg : Gl C.X x := by rfl) (hd : (x == ("__debug__" : Str)) = false := by decide) : E C env L (.Name x p) ⟨(At.mk q)⟩ :=
  ⟨PE.imp (pe_glob (v := .ref q) hg hm rfl hd) fun σ H Q ⟨F, s, q⟩ => q _ F H (Gw.rf F H) s rfl⟩
theorem E_gloI {i : Int} {t : Tok} (hm : C.X.mg x = some (.int i t)) (hg : Gl C.X x := by rfl) (hd : (x == ("__debug__" : Str)) = false := by decide) : E C env L (.Name x p) ⟨i⟩ :=
  ⟨PE.imp (pe_glob (v := .int i) hg hm ⟨t, rfl⟩ hd) fun σ H Q ⟨F, s, q⟩ => q _ F H (Gw.rf F H) s rfl⟩
theorem E_gloS {i : Str} {t : Tok} (hm : C.X.mg x = some (.str i t)) (hz : SOk i := by exact ⟨by decide, by decide +kernel⟩) (hg : Gl C.X x := by rfl) (hd : (x == ("__debug__" : Str)) = false := by decide) : E C env L (.Name x p) ⟨i⟩ :=
  ⟨PE.imp (pe_glob (v := .str i) hg hm ⟨t, rfl⟩ hd) fun σ H Q ⟨F, s, q⟩ => q _ F H (Gw.rf F H) s ⟨rfl, hz⟩⟩
/-- a written tuple of texts -/
theorem E_gloT {q : Addr} {ss : List Str} (hm : C.X.mg x = some (.ref q)) (ht : ∀ H, SqT C.X.K H q (ss.map V.str)) (hz : ∀ z ∈ ss, SOk z) (hl : ss.length ≤ sizeLine := by decide) (hg : Gl C.X x := by rfl) (hd : (x == ("__debug__" : Str)) = false := by decide) : E C env L (.Name x p) ⟨(Tup.mk ss)⟩ :=
  ⟨PE.imp (pe_glob (v := .ref q) hg hm rfl hd) fun σ H Q ⟨F, s, qq⟩ => qq _ F H (Gw.rf F H) s ⟨q, _, rfl, ht F, Pr.ofStrs ss hz, hl⟩⟩
theorem E_ty {T : String} (hv : bootBuiltins x = some (.type T)) (hm : C.X.mg x = none) (hg : Gl C.X x := by rfl) (hn : x ≠ "__name__" := by decide) (hd : (x == ("__debug__" : Str)) = false := by decide) : E C env L (.Name x p) ⟨(TyN.mk T)⟩ :=
  ⟨PE.imp (pe_bltn (v := .ty T) hg hm hv rfl hn hd) fun σ H Q ⟨F, s, q⟩ => q _ F H (Gw.rf F H) s rfl⟩
end
theorem E_cval {C : Cz} {env : Env} {L : List Cell} {e : Expr} {f : Str} {pos : Pos} {C0 : Addr} {mc : Value} {i : Int} {u : Value} (cr : ClX.CRead C.X.K C0 mc) (cv : ClX.CVal C.X.K C0 mc f (.int i) u) (he : E C env L e ⟨(At.mk C0)⟩) (hb : attributeBase e f C.X.env (eval e C.X.env) = eval e C.X.env := by rfl) : E C env L (.Attribute e f pos) ⟨i⟩ :=
  ⟨PE.imp (ClX.pe_cval he.p hb) fun σ H Q ⟨F, s, q⟩ => ⟨F, s, fun v F1 H1 x1 s1 rv => ⟨C0, mc, .int i, u, rv, cr, cv, q _ F1 H1 x1 s1 rfl⟩⟩⟩
/-! ### isinstance -/
class TyE (α : Type) [Rep α] (t : outParam String) : Prop where
  ty : ∀ K F H v (a : α), Ex F H → Rep.rp K F v a → TyX K H v (.type t)
instance : TyE Int "int" := ⟨fun K F H v a e h => by rw [show v = V.int a from h]; exact .base (.int a)⟩
instance : TyE Bool "bool" := ⟨fun K F H v a e h => by rw [show v = V.bl a from h]; exact .base (.bl a)⟩
instance : TyE Str "str" := ⟨fun K F H v a e h => by rw [show v = V.str a from h.1]; exact .base (.str a)⟩
instance : TyE Unit "NoneType" := ⟨fun K F H v a e h => by rw [show v = V.non from h]; exact .base .non⟩
instance {α : Type} [Rep α] : TyE (List α) "list" := ⟨fun K F H v a e h => by obtain ⟨p, vs, rfl, h1, _⟩ := h; exact .base (.lst (e _ _ h1))⟩
theorem tyT_of {K F H p vs} (e : Ex F H) (h : SqT K F p vs) : TyX K H (.ref p) (.type "tuple") := by
  rcases h with (h | ⟨o, h⟩) | ⟨o, its, n, h1, h2, h3⟩
  · exact .base (.tup (e _ _ h))
  · exact .fTuple (e _ _ h)
  · exact .kTuple h1 h2
instance {α β : Type} [Rep α] [Rep β] : TyE (P2 α β) "tuple" := ⟨fun K F H v a e h => by obtain ⟨p, x, y, rfl, h1, _⟩ := h; exact tyT_of e h1⟩
instance {α β γ : Type} [Rep α] [Rep β] [Rep γ] : TyE (P3 α β γ) "tuple" := ⟨fun K F H v a e h => by obtain ⟨p, x, y, z, rfl, h1, _⟩ := h; exact tyT_of e h1⟩
instance {α : Type} [Rep α] : TyE (Tup α) "tuple" := ⟨fun K F H v a e h => by obtain ⟨p, vs, rfl, h1, _⟩ := h; exact tyT_of e h1⟩
theorem boot_isinst : bootBuiltins "isinstance" = some (.builtin "isinstance") := by decide +kernel
theorem cal_isi {X : Cx} {α : Type} [Rep α] {t : String} [TyE α t] {x : α} {T : String} {bo : Bool} (hk : kitB t T = some bo) : Cal X "isinstance" [⟨x⟩, ⟨(TyN.mk T)⟩] ⟨bo⟩ :=
  ⟨⟨_, _, call_isi, boot_isinst, Or.inl ⟨_, rfl⟩, fun F H vs Q e rv q => by
    obtain ⟨v, w, rfl, h1, h2⟩ := two_arg rv
    have h2 : w = V.ty T := h2
    subst h2
    exact ⟨v, _, _, _, bo, rfl, .ty T, TyE.ty _ F H v x e h1, kit_ty hk, q _ F H (Gro.rf e) rfl⟩⟩⟩
/-- an instance of the class itself -/
theorem cal_isC {X : Cx} {r : Ent} {C0 : Addr} (c : C8.InsC X.K C0) (i1 : IsI X.K r C0) : Cal X "isinstance" [r, ⟨(At.mk C0)⟩] ⟨true⟩ :=
  ⟨⟨_, _, C8.call_isC c, boot_isinst, Or.inl ⟨_, rfl⟩, fun F H vs Q e rv q => by
    cases rv with
    | cons h1 t =>
      cases t with
      | cons h2 t =>
      cases t
      obtain ⟨a, dx, fs, rfl, g1⟩ := i1 F _ h1
      have h2 : _ = V.ref C0 := h2
      subst h2
      exact ⟨a, dx, fs, rfl, e _ _ g1, q _ F H (Gro.rf e) rfl⟩⟩⟩
/-! ### x in ..: flat things -/
theorem all_flatI (ns : List Int) : (ns.map V.int).all flatV = true := by simp [flatV]
theorem all_flatS (ns : List Str) : (ns.map V.str).all flatV = true := by simp [flatV]
theorem inV_int (i : Int) (ns : List Int) : inV (.int i) (ns.map V.int) = decide (i ∈ ns) := by
  unfold inV
  rw [List.any_map]
  induction ns with
  | nil => simp
  | cons a t ih =>
    rw [List.any_cons, ih]
    simp only [Function.comp, eqV, List.mem_cons]
    by_cases h : a = i
    · simp [h]
    · have h2 : ¬ i = a := fun e => h e.symm
      simp [h, h2]
theorem inV_str (i : Str) (ns : List Str) : inV (.str i) (ns.map V.str) = decide (i ∈ ns) := by
  unfold inV
  rw [List.any_map]
  induction ns with
  | nil => simp
  | cons a t ih =>
    rw [List.any_cons, ih]
    simp only [Function.comp, eqV, List.mem_cons]
    by_cases h : a = i
    · simp [h]
    · have h2 : ¬ i = a := fun e => h e.symm
      simp [h, h2]
theorem cmp_inST {X : Cx} {i : Str} {ns : List Str} : Cmp X .In ⟨i⟩ ⟨(Tup.mk ns)⟩ ⟨decide (i ∈ ns)⟩ := ⟨⟨_, op_in_seq, fun F H v1 v2 Q e h1 h2 q => by
  obtain ⟨p, vs, rfl, g1, g2, _⟩ := h2
  have g2 := Pr.strs g2
  subst g2
  refine ⟨p, _, rfl, Or.inr (ex_t e g1), by rw [show v1 = V.str i from h1.1]; rfl, all_flatS ns, q _ F H (Gro.rf e) ?_⟩
  rw [show v1 = V.str i from h1.1, inV_str]; rfl⟩⟩
theorem cmp_ninST {X : Cx} {i : Str} {ns : List Str} : Cmp X .NotIn ⟨i⟩ ⟨(Tup.mk ns)⟩ ⟨!decide (i ∈ ns)⟩ := ⟨⟨_, op_notIn_seq, fun F H v1 v2 Q e h1 h2 q => by
  obtain ⟨p, vs, rfl, g1, g2, _⟩ := h2
  have g2 := Pr.strs g2
  subst g2
  refine ⟨p, _, rfl, Or.inr (ex_t e g1), by rw [show v1 = V.str i from h1.1]; rfl, all_flatS ns, q _ F H (Gro.rf e) ?_⟩
  rw [show v1 = V.str i from h1.1, inV_str]; rfl⟩⟩

/-! ### errors -/
/-- what the text says of an own class of errors over ValueError without an __init__ of its own -/
structure ExcT (K : PySem.W.Frag) (mg : Str → Option Value) (x : Str) (C0 : Addr) : Prop where
  g : mg x = some (.ref C0)
  ex : PySem.W.excIn K C0 He.veBase "ValueError.__new__" = true
  kp : PySem.W.keepIn K (.ref C0) = true
  sb : PySem.W.subIn K (.ref C0) (.type "BaseException") = some true
  ty : PySem.W.typeIn K (.ref C0) = some (.type "type")
section
variable {C : Cz} {k j n : Nat} {env env' env2 env3 : Env} {L LR : List Cell} {e a b c o tg iter elt lo hi : Expr} {es ifs : List Expr} {r r1 r2 r3 : Ent} {rs : List Ent} {pos p p2 apos cpos : Pos} {Q : Po} {st : Stmt} {rest body : List Stmt} {x y f m : Str} {C0 : Addr}
theorem S_raise {jj} {pos3 : Pos} (ok : C.Ok k) (T : ExcT C.X.K C.X.mg x C0) (h : Q.ex (.ref C0) none env L) (hg : Gl C.X x := by rfl) (hdb : (x == ("__debug__" : Str)) = false := by decide) : S C env L (.Raise (some (.Call (.Name x p) [.Constant (.str y) jj p2] [] pos)) none pos3 :: rest) Q :=
  S_stop ⟨PS.imp (ps_raise ok.calm ok.tk (pmk_own PySem.F.excBase_ValueError T.ex T.g T.kp (raises_own T.sb T.ty) hg hdb)) fun D σ H ⟨F, s, n⟩ => n.ex (.ref C0) none env L σ F H h (Ex.rf F) s⟩
/-- the error that a suite holds -/
structure Exn where
  p : Addr
instance : Rep Exn := ⟨fun _ _ v a => v = .ref a.p, fun _ h => h⟩
def Cz.tr (C : Cz) (W : WX) (pn : List (Addr × Obj)) (xe : Value → Shared → Prop) : Cz := ⟨C.X.tr pn xe, C.R, W⟩
def Cz.suite (C : Cz) (a : Addr) (oe : Obj) (pn : List (Addr × Obj)) : Cz := ⟨C.X.suite a ((a, oe) :: pn), C.R, fun _ _ _ _ => False⟩
theorem S_try {nn : Str} {b₀ : Stmt} {suite : List Stmt} {np pos' : Pos} {cv : Value} (i : Nat) (ok : C.Ok k) (PX : Value → Option Addr → Env → List Cell → Prop) (hc : Names C.X x cv)
    (hb : ∀ W pn xe, (C.tr W pn xe).Ok k → S (C.tr W pn xe) env L body { Q with nx := fun e l => S C e l rest Q, ex := PX })
    (hca : ∀ cls d env' L', PX cls d env' L' → ∃ bo, PySem.W.exmOne C.X.K cls cv = some bo ∧ (bo = true → ∀ a oe pn, Zc cls d oe → (∃ vs, oe.data = .fields vs) → S (C.suite a oe pn) (env'.set i (some ⟨(Exn.mk a)⟩)) L' (b₀ :: suite) { nx := fun e l => S C (e.set i none) l rest Q, rt := Q.rt, bk := fun e l => Q.bk (e.set i none) l, ct := fun e l => Q.ct (e.set i none) l }) ∧ (bo = false → Q.ex cls d env' L'))
    (hs : C.X.stack = C.X.env :: C.X.outer := by rfl) (hf : C.X.env.frame = some C.X.env.locals := by rfl) (hi : C.X.N[i]? = some nn := by rfl) (hln : C.X.env.kindOf nn = some .local := by rfl) :
    S C env L (.Try body [.ExceptHandler (some (.Name x np)) (some nn) (b₀ :: suite) pos'] [] [] pos :: rest) Q := by
  refine S_cons ⟨PS.imp (ps_try_as (i := i) (Wout := C.W) (tb := fun W => sS ⟨C.X, C.R, W⟩ env L { Q with nx := fun e l => S C e l rest Q, ex := PX })
    (ts := fun a cls d D σ H => ∃ z : Env × List Cell, (∀ oe pn, Zc cls d oe → (∃ vs, oe.data = .fields vs) → S (C.suite a oe pn) z.1 z.2 (b₀ :: suite) { nx := fun e l => S C (e.set i none) l rest Q, rt := Q.rt, bk := fun e l => Q.bk (e.set i none) l, ct := fun e l => Q.ct (e.set i none) l }) ∧ sS ⟨C.X, C.R, fun _ _ _ _ => False⟩ z.1 z.2 { nx := fun e l => S C (e.set i none) l rest Q, rt := Q.rt, bk := fun e l => Q.bk (e.set i none) l, ct := fun e l => Q.ct (e.set i none) l } D σ H)
    hs hf ok.nd hi hln hc ok.tk (fun W pn xe tk po => (hb W pn xe ⟨tk, po, ok.calm, ok.nd, ok.room⟩).p) (fun a oe cls d pn hz hv => PSs.ex fun z h => (h oe pn hz hv).p)) fun D σ H ⟨F, s, n⟩ => ?_⟩
  refine ⟨F, s, ⟨fun e l σ' F' H' h x s' => n.nx e l σ' F' H' h x s', n.rt, n.bk, n.ct, fun cls d env' L' σ' F' H' h x s' => ?_⟩⟩
  obtain ⟨bo, h1, h2, h3⟩ := hca cls d env' L' h
  refine ⟨bo, h1, fun hbo a ha => ⟨(env'.set i (some ⟨(Exn.mk a)⟩), L'), fun oe pn hz hv => h2 hbo a oe pn hz hv, F', ⟨s'.sl.put (e := ⟨(Exn.mk a)⟩) (v := .ref a) rfl i, s'.ow⟩, ?_⟩, fun hbo => n.ex cls d env' L' σ' F' H' (h3 hbo) x s'⟩
  have w : ∀ {e : Env} {l : List Cell} {σ2 : Py.St} {F2 H2 : Hp}, StaK C.X.K C.R F2 e l σ2 H2 → StaK C.X.K C.R F2 (e.set i none) l (σ2.set i none) H2 := fun s2 => ⟨s2.sl.wipe i none, s2.ow⟩
  exact ⟨fun e l σ2 F2 H2 h x2 s2 => n.nx _ _ _ F2 H2 h (x.tr x2) (w s2), fun r l v F2 H2 h x2 o rr => n.rt r l v F2 H2 h (x.tr x2) o rr, fun e l σ2 F2 H2 h x2 s2 => n.bk _ _ _ F2 H2 h (x.tr x2) (w s2), fun e l σ2 F2 H2 h x2 s2 => n.ct _ _ _ F2 H2 h (x.tr x2) (w s2), fun _ _ _ _ _ _ _ h _ _ => h.elim⟩
/-- isinstance(e, D), e the error that the suite holds -/
theorem E_isE {a0 D0 : Addr} {oe : Obj} {pn : List (Addr × Obj)} {y : V} {cv : Value} {bo : Bool} (T : ExcC C.X.K D0) (hz : Zc (.ref D0) none oe) (hf : ∃ vs, oe.data = .fields vs) (hk : PySem.W.kitOne C.X.K (.ref D0) cv = some bo) (he : E (C.suite a0 oe pn) env L a ⟨(Exn.mk a0)⟩)
    (hc : PE (C.suite a0 oe pn).X b (tC y)) (hy : ∀ u, RelV y u → u = cv) (hm : C.X.mg "isinstance" = none) (hg : Gl (C.suite a0 oe pn).X "isinstance" := by rfl) (hst : starEach [a, b] (C.suite a0 oe pn).X.env = (false, eval a (C.suite a0 oe pn).X.env) :: starEach [b] (C.suite a0 oe pn).X.env := by rfl) (hst2 : starEach [b] (C.suite a0 oe pn).X.env = (false, eval b (C.suite a0 oe pn).X.env) :: starEach [] (C.suite a0 oe pn).X.env := by rfl) (hpl : (backTo pos (starEach [b] (C.suite a0 oe pn).X.env)).any (·.1) = false := by rfl) :
    E (C.suite a0 oe pn) env L (.Call (.Name "isinstance" p) [a, b] [] pos) ⟨bo⟩ := by
  have h := call_isE (X := C.X) (a := a0) (pn := pn) T hz hf
  exact ⟨PE.imp (pe_callB (X := (C.suite a0 oe pn).X) h hg hm boot_isinst (pa_cons he.p (pa_cons hc pa_nil hst2) hst) (by decide) (by decide) hst hpl) fun σ H Q ⟨F, s, q⟩ => ⟨F, s, fun v F1 H1 x1 s1 rv => by
    have rv : v = V.ref a0 := rv
    subst rv
    exact ⟨y, cv, bo, rfl, hy, hk, q _ F1 H1 x1 s1 rfl⟩⟩⟩
end
end Py

namespace Py
open PySem PySem.Spec PyProof.Rows L2

/-! ### == of data -/
class DE (α : Type) [Rep α] [DecidableEq α] where
  d : α → PyData
  n : Nat
  dp : ∀ K F H v a, Ex F H → Rep.rp K F v a → Dp K H v (d a) ∧ (d a).canLay0 = true
  dn : ∀ a, (d a).depth ≤ n
  ev : ∀ a b, PyData.eqv (d a) (d b) = decide (a = b)
instance : DE Int := ⟨.int, 0, fun K F H v a e h => by rw [show v = V.int a from h]; exact ⟨.int a, rfl⟩, fun _ => Nat.le_refl _, fun a b => by simp [PyData.eqv]; rfl⟩
instance : DE Bool := ⟨.bool, 0, fun K F H v a e h => by rw [show v = V.bl a from h]; exact ⟨.bl a, rfl⟩, fun _ => Nat.le_refl _, fun a b => by simp [PyData.eqv]; cases a <;> cases b <;> rfl⟩
theorem strOk_of {a : Str} (h : SOk a) : PyData.strOk a = true := by
  unfold PyData.strOk
  rw [← Array.all_toList]
  exact h.ok
instance : DE Str := ⟨.str, 0, fun K F H v a e h => by rw [show v = V.str a from h.1]; exact ⟨.str a, strOk_of h.2⟩, fun _ => Nat.le_refl _, fun a b => by simp [PyData.eqv]; by_cases h : a = b <;> simp [h]⟩
section
variable {α : Type} [Rep α] [DecidableEq α] [DE α]
theorem dpAll {K F H} (e : Ex F H) : ∀ {vs : List V} {as : List α}, Pr (Rep.rp K F) vs as → DpAll K H vs (as.map DE.d) ∧ PyData.canLayAll0 (as.map DE.d) = true
  | _, _, .nil => ⟨.nil, rfl⟩
  | _, _, .cons h t => by
    obtain ⟨h1, h2⟩ := DE.dp K F H _ _ e h
    obtain ⟨h3, h4⟩ := dpAll e t
    exact ⟨.cons h1 h3, by rw [List.map_cons]; unfold PyData.canLayAll0; rw [h2, h4]; rfl⟩
theorem depAll : ∀ as : List α, PyData.depthAll (as.map DE.d) ≤ DE.n α
  | [] => Nat.zero_le _
  | a :: as => by
    rw [List.map_cons]; unfold PyData.depthAll
    exact Nat.max_le.mpr ⟨DE.dn a, depAll as⟩
theorem evAll : ∀ as bs : List α, PyData.eqvAll (as.map DE.d) (bs.map DE.d) = decide (as = bs)
  | [], [] => by simp [PyData.eqvAll]
  | [], _ :: _ => by simp [PyData.eqvAll]
  | _ :: _, [] => by simp [PyData.eqvAll]
  | a :: as, b :: bs => by
    simp only [List.map_cons, PyData.eqvAll, DE.ev, evAll as bs]
    by_cases h : a = b <;> by_cases h2 : as = bs <;> simp [h, h2]
end
instance {α : Type} [Rep α] [DecidableEq α] [DE α] : DE (List α) := ⟨fun as => .list (as.map DE.d), DE.n α + 1, fun K F H v a e h => by
  obtain ⟨p, vs, rfl, h1, h2, _⟩ := h
  obtain ⟨h3, h4⟩ := dpAll e h2
  exact ⟨.lst (sq_of (e _ _ h1)) h3, by unfold PyData.canLay0; exact h4⟩, fun a => by unfold PyData.depth; exact Nat.succ_le_succ (depAll a), fun a b => by unfold PyData.eqv; exact evAll a b⟩



instance {α : Type} [Rep α] [DecidableEq α] [DE α] : DE (Tup α) := ⟨fun as => .tuple (as.l.map DE.d), DE.n α + 1, fun K F H v a e h => by
  obtain ⟨p, vs, rfl, h1, h2, _⟩ := h
  obtain ⟨h3, h4⟩ := dpAll e h2
  exact ⟨.tup (ex_t e h1) h3, by unfold PyData.canLay0; exact h4⟩, fun a => by unfold PyData.depth; exact Nat.succ_le_succ (depAll a.l), fun a b => by
    unfold PyData.eqv
    rw [evAll]
    by_cases h : a.l = b.l
    · have : a = b := by cases a; cases b; simp at h; rw [h]
      simp [this]
    · have : a ≠ b := fun e => h (by rw [e])
      simp [h, this]⟩
instance {α β : Type} [Rep α] [Rep β] [DecidableEq α] [DecidableEq β] [DE α] [DE β] : DE (P2 α β) := ⟨fun t => .tuple [DE.d t.a, DE.d t.b], max (DE.n α) (DE.n β) + 1, fun K F H v a e h => by
  obtain ⟨p, x, y, rfl, h1, h2, h3⟩ := h
  obtain ⟨g1, g2⟩ := DE.dp K F H _ _ e h2
  obtain ⟨g3, g4⟩ := DE.dp K F H _ _ e h3
  exact ⟨.tup (ex_t e h1) (.cons g1 (.cons g3 .nil)), by simp [PyData.canLay0, PyData.canLayAll0, g2, g4]⟩, fun t => by
    simp only [PyData.depth, PyData.depthAll]
    have := DE.dn t.a
    have := DE.dn t.b
    omega, fun t u => by
    simp only [PyData.eqv, PyData.eqvAll, DE.ev]
    obtain ⟨a, b⟩ := t
    obtain ⟨c, d⟩ := u
    by_cases h : a = c <;> by_cases h2 : b = d <;> simp [h, h2]⟩
instance {α β γ : Type} [Rep α] [Rep β] [Rep γ] [DecidableEq α] [DecidableEq β] [DecidableEq γ] [DE α] [DE β] [DE γ] : DE (P3 α β γ) := ⟨fun t => .tuple [DE.d t.a, DE.d t.b, DE.d t.c], max (DE.n α) (max (DE.n β) (DE.n γ)) + 1, fun K F H v a e h => by
  obtain ⟨p, x, y, z, rfl, h1, h2, h3, h4⟩ := h
  obtain ⟨g1, g2⟩ := DE.dp K F H _ _ e h2
  obtain ⟨g3, g4⟩ := DE.dp K F H _ _ e h3
  obtain ⟨g5, g6⟩ := DE.dp K F H _ _ e h4
  exact ⟨.tup (ex_t e h1) (.cons g1 (.cons g3 (.cons g5 .nil))), by simp [PyData.canLay0, PyData.canLayAll0, g2, g4, g6]⟩, fun t => by
    simp only [PyData.depth, PyData.depthAll]
    have := DE.dn t.a
    have := DE.dn t.b
    have := DE.dn t.c
    omega, fun t u => by
    simp only [PyData.eqv, PyData.eqvAll, DE.ev]
    obtain ⟨a, b, x⟩ := t
    obtain ⟨c, d, y⟩ := u
    by_cases h : a = c <;> by_cases h2 : b = d <;> by_cases h3 : x = y <;> simp [h, h2, h3]⟩
theorem shaped_of {α : Type} [Rep α] [DecidableEq α] [DE α] (hn : DE.n α ≤ 64) {a : α} (h : (DE.d a).canLay0 = true) : SeqAt.shaped (DE.d a) = true := by
  unfold SeqAt.shaped
  rw [h, decide_eq_true (Nat.le_trans (DE.dn a) hn)]; rfl
theorem cmp_eqD {X : Cx} {k : Nat} {α : Type} [Rep α] [DecidableEq α] [DE α] {a b : α} (hr : Room k X.A) (hn : DE.n α ≤ 64 := by decide) : Cmp X .Eq ⟨a⟩ ⟨b⟩ ⟨decide (a = b)⟩ := ⟨⟨_, op_eqD hr.units, fun F H v1 v2 Q e h1 h2 q => by
  obtain ⟨g1, g2⟩ := DE.dp _ F H v1 a e h1
  obtain ⟨g3, g4⟩ := DE.dp _ F H v2 b e h2
  exact ⟨_, _, g1, g3, shaped_of hn g2, shaped_of hn g4, q _ F H (Gro.rf e) (by show V.bl _ = V.bl _; rw [DE.ev])⟩⟩⟩
theorem cmp_neD {X : Cx} {k : Nat} {α : Type} [Rep α] [DecidableEq α] [DE α] {a b : α} (hr : Room k X.A) (hn : DE.n α ≤ 64 := by decide) : Cmp X .NotEq ⟨a⟩ ⟨b⟩ ⟨!decide (a = b)⟩ := ⟨⟨_, op_neD hr.units, fun F H v1 v2 Q e h1 h2 q => by
  obtain ⟨g1, g2⟩ := DE.dp _ F H v1 a e h1
  obtain ⟨g3, g4⟩ := DE.dp _ F H v2 b e h2
  exact ⟨_, _, g1, g3, shaped_of hn g2, shaped_of hn g4, q _ F H (Gro.rf e) (by show V.bl _ = V.bl _; rw [DE.ev])⟩⟩⟩
/-! ### sep.join(xs) -/
def joinS (sep : Str) (ys : List Str) : Str := Str.join sep ys
theorem joinS_len (sep : Str) : ∀ ys : List Str, (joinS sep ys).length ≤ (ys.map (·.length)).sum + ys.length * sep.length
  | [] => Nat.zero_le _
  | [x] => by show x.length ≤ _; simp
  | x :: y :: ys => by
    have ih := joinS_len sep (y :: ys)
    show (x ++ sep ++ joinS sep (y :: ys)).length ≤ _
    rw [str_len_append, str_len_append]
    simp only [List.map_cons, List.sum_cons, List.length_cons] at ih ⊢
    have e : (ys.length + 1 + 1) * sep.length = (ys.length + 1) * sep.length + sep.length := by rw [Nat.succ_mul]
    omega
theorem joinS_ok {sep : Str} (hs : SOk sep) : ∀ {ys : List Str}, (∀ y ∈ ys, SOk y) → (joinS sep ys).cps.toList.all (fun c => decide (c < 0x110000)) = true
  | [], _ => rfl
  | [x], h => (h x List.mem_cons_self).ok
  | x :: y :: ys, h => by
    have ih := joinS_ok hs (ys := y :: ys) fun z hz => h z (List.mem_cons_of_mem _ hz)
    show (x ++ sep ++ joinS sep (y :: ys)).cps.toList.all _ = true
    rw [str_cps_append, str_cps_append, List.all_append, List.all_append, (h x List.mem_cons_self).ok, hs.ok, ih]; rfl
section
variable {C : Cz} {env : Env} {L : List Cell} {e o : Expr} {apos pos : Pos}
theorem E_join {sep : Str} {ys : List Str} (ho : E C env L o ⟨sep⟩) (he : ER C env L e ys) (hz : (ys.map (·.length)).sum + ys.length * sep.length ≤ 16777216) (hs : starEach [e] C.X.env = [(false, eval e C.X.env)] := by rfl) (hbase : attributeBase o "join" C.X.env (eval o C.X.env) = eval o C.X.env := by rfl) (hline : (apos.endLine == pos.line) = true := by rfl) : E C env L (.Call (.Attribute o "join" apos) [e] [] pos) ⟨joinS sep ys⟩ :=
  ⟨PE.imp (pe_join ho.p he.p hs hbase hline) fun σ H Q ⟨F, s, q⟩ => ⟨F, s, fun v F1 H1 x1 s1 rv => by
    refine ⟨⟨sep, rv.1⟩, F1, s1, fun p F2 H2 x2 s2 hr hz2 => ?_⟩
    obtain ⟨vs, hl, pr⟩ := hr F2 H2 (Ex.rf F2) s2.ow
    have e1 := Pr.strs pr
    subst e1
    refine ⟨sep, p, ys, rv.1, rfl, Or.inl hl, hz, q _ F2 H2 (x1.tr x2) s2 ⟨?_, ⟨?_, joinS_ok rv.2 (Pr.strs_le pr)⟩⟩⟩
    · rw [TL.join_eq]; rfl
    · have := joinS_len sep ys
      show (joinS sep ys).length ≤ sizeLine
      rw [sizeLine_eq]; omega⟩⟩
end
end Py

namespace Py
open PySem PySem.Spec PyProof.Rows L2
/-! ### the head: facts by names -/
abbrev AlX : Type := Bool × He.AlD
def obsX (xs : List (PySem.W.Frag → Bool)) (fn : List He.DefD) (K : PySem.W.Frag) : AlX := (xs.all fun f => f K, He.obsD [] fn K)
def valX (fn : List He.DefD) : AlX := (true, He.valD fn)
def SaysX (xs : List (PySem.W.Frag → Bool)) (fn : List He.DefD) (K : PySem.W.Frag) : Prop := obsX xs fn K = valX fn
def obsXG (n : Nat) (xs : List (PySem.W.Frag → Bool)) (fn : List He.DefD) (g : Addr → Option Obj) : AlX := obsX xs fn (He.frG g (PySem.cStatics :: He.asD g n))
def hookX (n : Nat) (xs : List (PySem.W.Frag → Bool)) (fn : List He.DefD) : PySem.W.Hook where
  α := AlX
  obs := fun s => obsXG n xs fn s.heap.get?
  val := fun _ => valX fn
  says := fun _ h => ∃ K : PySem.W.Frag, K.In h ∧ SaysX xs fn K
  of := fun _ _ e => ⟨_, He.frG_in, e⟩
  keeps := fun _ _ _ ⟨K, hK, c⟩ k => ⟨K, PySem.W.Frag.In.keeps hK k, c⟩
theorem obsXG_eq {n : Nat} {xs : List (PySem.W.Frag → Bool)} {fn : List He.DefD} {g : Addr → Option Obj} {s : Shared} (h : ∀ a, g a = s.heap.get? a) : obsXG n xs fn g = (hookX n xs fn).obs s := by
  have e : g = s.heap.get? := funext h
  rw [e] <;> rfl
section
variable {xs : List (PySem.W.Frag → Bool)} {fn : List He.DefD} {K : PySem.W.Frag}
theorem SaysX.chk (c : SaysX xs fn K) (i : Nat) {f : PySem.W.Frag → Bool} (h : xs[i]? = some f := by rfl) : f K = true :=
  List.all_eq_true.mp (show xs.all (fun f => f K) = true from congrArg (fun z : AlX => z.1) c) f (List.mem_of_getElem? h)
theorem SaysX.def_ (c : SaysX xs fn K) (i : Nat) {d : He.DefD} (h : fn[i]? = some d := by rfl) : ∃ fd, FunD K d.name d.qual d.params d.body d.scope (d.dvs K) (d.kws K) (He.fAd K d.at_) fd :=
  He.SaysD.def_ (show He.SaysD [] fn K from congrArg (fun z : AlX => z.2) c) i h
end
/-- a list of facts -/
def faB (fs : List He.Fa) (K : PySem.W.Frag) : Bool := fs.all fun f => f.ok K
theorem faB_at {fs : List He.Fa} {K : PySem.W.Frag} (h : faB fs K = true) (i : Nat) {f : He.Fa} (hi : fs[i]? = some f := by rfl) : f.ok K = true := List.all_eq_true.mp h f (List.mem_of_getElem? hi)
section
variable {K : PySem.W.Frag} {h : Heap} {mg : Str → Option Value}
def insB (x : Str) (K : PySem.W.Frag) : Bool := (He.Fa.cls x).ok K && (He.eqO (PySem.W.findIn K (.ref (He.ga K x)) "__class__") (some (some (.builtin "object.__class__"))) && (He.eqO (PySem.W.specialIn K (.builtin "object.__class__") "__get__") (some (some (.builtin "getset_descriptor.__get__"))) &&
  (decide (PySem.W.takesIn K (.builtin "object.__class__") = some true) && (decide (PySem.W.mroIn K (He.ga K x) (.type "object") = some true) && decide (PySem.W.kitOne K (.ref (He.ga K x)) (.ref (He.ga K x)) = some true)))))
theorem insB_ok {x : Str} (c : insB x K = true) : C8.InsC K (He.ga K x) := by
  obtain ⟨c1, c⟩ := He.ba c
  obtain ⟨c2, c⟩ := He.ba c
  obtain ⟨c3, c⟩ := He.ba c
  obtain ⟨c4, c⟩ := He.ba c
  obtain ⟨c5, c6⟩ := He.ba c
  exact ⟨He.cls_ok c1, He.eqO_ok c2, He.eqO_ok c3, of_decide_eq_true c4, of_decide_eq_true c5, of_decide_eq_true c6⟩
def creadB (x : Str) (K : PySem.W.Frag) : Bool := PySem.W.readsIn K (He.ga K x) (.type "type") && He.eqO (PySem.W.specialIn K (.ref (He.ga K x)) "__getattribute__") (some (some (.builtin "type.__getattribute__")))
theorem creadB_ok {x : Str} (c : creadB x K = true) : ClX.CRead K (He.ga K x) (.type "type") := by
  obtain ⟨c1, c2⟩ := He.ba c
  exact ⟨c1, He.eqO_ok c2⟩
def cvalB (x f : Str) (v : V) (K : PySem.W.Frag) : Bool := match PySem.W.findCls K (.ref (He.ga K x)) (.type "type") f with
  | some (.val u) => He.relB v u
  | _ => false
theorem cvalB_ok {x f : Str} {v : V} (c : cvalB x f v K = true) : ∃ u, ClX.CVal K (He.ga K x) (.type "type") f v u := by
  unfold cvalB at c
  cases e : PySem.W.findCls K (.ref (He.ga K x)) (.type "type") f with
  | none => rw [e] at c; cases c
  | some o =>
    rw [e] at c
    cases o with
    | val u => exact ⟨u, e, He.relB_ok c⟩
    | _ => cases c
def excB (x : Str) : List He.Fa := [.glo x, .exc x]
theorem excT_of (X : K.In h) (G : h.Ns mainGlobals mg) {x : Str} (c1 : (He.Fa.glo x).ok K = true) (c2 : (He.Fa.exc x).ok K = true) : ExcT K mg x (He.ga K x) := by
  obtain ⟨h1, h2, h3, h4⟩ := He.exc_ok c2
  exact ⟨He.glo_ok X G c1, h1, h2, h3, h4⟩
section
variable {P : Program} {w : World} {base : Heap} {k : Nat} {x qual m : Str} {sp : Sp} {fd : FuncData} {ps : List Str} {params : Arguments} {body : List Stmt} {scope : Scope} {f C0 : Addr}
theorem hs_of (F : FunD K x qual params body scope [] [] f fd) (hm : mg m = some (.ref f)) (hb : Binds K fd ps []) (ok : FnOk P w K mg base (L2.CX P w) k f fd ps sp) : Hs P w K mg base k m sp := ⟨f, fd, ps, hm, F.kp, hb, ok⟩
theorem ms_of (M : Meth K C0 m f) (hf : PySem.W.fnIn K f = true) (hb : Binds K fd ps []) (ok : FnOk P w K mg base (L2.CX P w) k f fd ps sp) : Ms P w K mg base k C0 m sp := ⟨f, fd, ps, M, hf, hb, ok⟩
theorem mks_of (M : Mk K C0 f) (hm : mg x = some (.ref C0)) (hb : Binds K fd ps []) (ok : FnOk P w K mg base (L2.CX P w) k f fd ps sp) : Mks P w K mg base k C0 x sp := ⟨f, fd, ps, M, hm, hb, ok⟩
end
/-- a method: found, a def of the text -/
def methB (x m : Str) (K : PySem.W.Frag) : Bool := (He.Fa.meth x m).ok K && PySem.W.fnIn K (He.ma K (He.ga K x) m)
theorem methB_ok {x m : Str} (c : methB x m K = true) : Meth K (He.ga K x) m (He.ma K (He.ga K x) m) ∧ PySem.W.fnIn K (He.ma K (He.ga K x) m) = true := ⟨He.meth_ok (He.ba c).1, (He.ba c).2⟩
/-- the law's own promise -/
def spLaw (K : PySem.W.Frag) : Sp := spF (γ := List Int) K (fun ns => [⟨(Scr.mk ns)⟩]) (fun _ => True) (fun _ => ⟨true⟩)
theorem spLaw_at (H : Hp) (a : Addr) (ns : List Int) (hl : ns.length ≤ 63) (hS : SqL K H a (ns.map V.int)) : spLaw K [.ref a] H (fun v _ => v = .bl true) fun _ _ _ => False := by
  refine of_spF ns trivial (Ex.rf H) (.cons ⟨a, rfl, hS, hl⟩ .nil) fun v F' H' g rv => ?_
  exact rv
end
theorem cx_top {P : Program} {w : World} {H : Hp} {s : Shared} {e : Value} {s' : Shared} (h : L2.CX P w [] H s (fun _ _ _ => False) e s') : False := by
  obtain ⟨_, _, _, _, _, _, _, _, _, _, _, _, h⟩ := h
  exact h
theorem walk_ofX {l : PySem.W.OpenLaw} {k : Nat} {q : Program} {loose : List Str} {XP : (Str → Option Value) → Heap → Prop} {YP : World → Heap → Prop} {d : DefRec} {x : Str}
    (hn : l.most = some 63) (hdf : d.params.defaults = []) (hr : Room k callerA)
    (F : ∀ (w : World) (mg : Str → Option Value) (fa : Addr) (h : Heap), YP w h → h.Ns mainGlobals mg → mg d.name = some (.ref fa) →
      ∃ (K : PySem.W.Frag) (fd : FuncData), K.In h ∧ (∀ (s : Shared) (u : Value), BindsTo s fd ⟨[u], []⟩ [(x, u)]) ∧
        ∀ base : Heap, K.In base → base.Ns mainGlobals mg → FnOk l.prog w K mg base (L2.CX l.prog w) k fa fd [x] (spLaw K)) :
    PySem.W.WalkO q loose XP YP l.row.toRowW d [] (fun f vs => PySem.call f vs) := by
  refine Att.attach_call hn hdf fun w s₀ s₁ mg mb fa o pm cd doc a vs ns G Y ho hd hcd hmg hobj hints hlen hg => ?_
  obtain ⟨K, fd, KX, hb, hF⟩ := F w mg fa _ Y G.T.g hmg
  exact law_call KX G.T.g G.T.b G.T.builtins G.T.nolimit hg hobj hints (Nat.le_trans hlen (by decide)) hr hF hb (fun H hO hS => spLaw_at H a ns hlen hS) fun H e s' => cx_top
end Py

namespace Py
open PySem PySem.Spec PyProof.Rows L2
theorem str_ext {a b : Str} (h : a.cps.toList = b.cps.toList) : a = b := by
  obtain ⟨x⟩ := a
  obtain ⟨y⟩ := b
  have h : x.toList = y.toList := h
  rw [Array.toList_inj.mp h]
theorem str_len (z : Str) : z.length = z.cps.toList.length := (Array.length_toList).symm
/-- z[:j] -/
theorem cutS_to {z : Str} {j : Int} (h0 : 0 ≤ j) (h1 : j ≤ z.length) : (cutS z none (some j)).cps.toList = z.cps.toList.take j.toNat := by
  unfold cutS
  obtain ⟨n, rfl⟩ := Int.eq_ofNat_of_zero_le h0
  rw [HT.sIx_none, HT.sIx_nat]
  simp only [List.drop_zero, Nat.sub_zero, Int.toNat_natCast]
  rw [Nat.min_eq_left (by omega)]
/-- z[i:] -/
theorem cutS_from {z : Str} {i : Int} (h0 : 0 ≤ i) : (cutS z (some i) none).cps.toList = z.cps.toList.drop i.toNat := by
  unfold cutS
  obtain ⟨n, rfl⟩ := Int.eq_ofNat_of_zero_le h0
  rw [HT.sIx_none, HT.sIx_nat, Int.toNat_natCast, str_len]
  simp only
  by_cases h : n ≤ z.cps.toList.length
  · rw [Nat.min_eq_left h, ← List.length_drop, List.take_length]
  · rw [Nat.min_eq_right (by omega), Nat.sub_self, List.take_zero, List.drop_eq_nil_of_le (by omega)]
/-- z[i:j] -/
theorem cutS_mid {z : Str} {i j : Int} (h0 : 0 ≤ i) (h1 : 0 ≤ j) (h2 : j ≤ z.length) : (cutS z (some i) (some j)).cps.toList = (z.cps.toList.take j.toNat).drop i.toNat := by
  unfold cutS
  obtain ⟨n, rfl⟩ := Int.eq_ofNat_of_zero_le h0
  obtain ⟨m, rfl⟩ := Int.eq_ofNat_of_zero_le h1
  rw [HT.sIx_nat, HT.sIx_nat, Int.toNat_natCast, Int.toNat_natCast, str_len] at *
  rw [Nat.min_eq_left (show m ≤ z.cps.toList.length by omega)]
  show (z.cps.toList.drop (min n z.cps.toList.length)).take (m - min n z.cps.toList.length) = _
  by_cases h : n ≤ z.cps.toList.length
  · rw [Nat.min_eq_left h, List.drop_take]
  · rw [Nat.min_eq_right (by omega), List.drop_eq_nil_of_le (Nat.le_refl _), List.take_nil, List.drop_eq_nil_of_le]
    rw [List.length_take]; omega
theorem atS {z : Str} {i : Int} (h0 : 0 ≤ i) (h : i < z.length) : atI z.cps.toList i = some (z.cps.toList.getD i.toNat 0) := by
  have hi : i.toNat < z.cps.toList.length := by rw [← str_len]; omega
  exact atI_nat' h0 (by rw [List.getD_eq_getElem?_getD, List.getElem?_eq_getElem hi]; rfl)
end Py

namespace Py
open PySem PySem.Spec PyProof.Rows L2
section
variable {C : Cz} {k j n : Nat} {env env' env2 env3 : Env} {L LR : List Cell} {e a b c o tg iter elt lo hi : Expr} {r r1 r2 r3 : Ent} {P P' : Ent → List Cell → Prop} {PX PX' : Value → Option Addr → List Cell → Prop}
theorem EM.imp (h : EM C env L e P PX) (h1 : ∀ r L', P r L' → P' r L') (h2 : ∀ c d L', PX c d L' → PX' c d L') : EM C env L e P' PX' := ⟨PE.imp h.p fun σ H Q ⟨F, s, q1, q2⟩ => ⟨F, s, fun v r L' F' H' hp => q1 v r L' F' H' (h1 _ _ hp), fun c d L' F' H' hp => q2 c d L' F' H' (h2 _ _ _ hp)⟩⟩
/-- cells are forgotten where an error flies -/
theorem EM.dropX (h : EM C env L e P PX) (h2 : ∀ c d L', PX c d L' → ∃ L1 L2, L' = L1 ++ L2 ∧ PX' c d L2) : EM C env L e P PX' := ⟨PE.imp h.p fun σ H Q ⟨F, s, q1, q2⟩ => ⟨F, s, q1, fun c d L' F' H' hp x s' => by
  obtain ⟨L1, L2, rfl, hp2⟩ := h2 c d L' hp
  exact q2 c d L2 F' H' hp2 x ⟨s'.sl, s'.ow.sub⟩⟩⟩
/-- .. and where it ends -/
theorem EM.dropP (h : EM C env L e P PX) (h2 : ∀ r L', P r L' → ∃ L1 L2, L' = L1 ++ L2 ∧ P' r L2) : EM C env L e P' PX := ⟨PE.imp h.p fun σ H Q ⟨F, s, q1, q2⟩ => ⟨F, s, fun v r L' F' H' hp x s' rv => by
  obtain ⟨L1, L2, rfl, hp2⟩ := h2 r L' hp
  exact q1 v r L2 F' H' hp2 x ⟨s'.sl, s'.ow.sub⟩ rv, q2⟩⟩
theorem EM_frzO {ι : Type} {pre : ι → Prop} {c : Addr → ι → Cell} {y : Ent} (h : EM C env L e (fun r L' => ∃ q i, r = ⟨(At.mk q)⟩ ∧ pre i ∧ L' = c q i :: L) PX) (hc : ∀ q i, pre i → ∀ F H F', (c q i).ok C.X.K F H → Ex F F' → (∀ a ∈ (c q i).ad, F' a = H a) → y.rp C.X.K F' (.ref q)) : EM C env L e (fun r L' => (∃ i, pre i) ∧ r = y ∧ L' = L) PX :=
  ⟨PE.imp h.p fun σ H Q ⟨F, s, q1, q2⟩ => ⟨F, s, fun v r L' F' H' hr x s' rv => by
    obtain ⟨q, i, rfl, hi, rfl⟩ := hr
    have rv : v = V.ref q := rv
    subst rv
    obtain ⟨x2, o, hj⟩ := s'.ow.freeze
    exact q1 (.ref q) y L _ H' ⟨⟨i, hi⟩, rfl, rfl⟩ (x.tr x2) ⟨s'.sl.mono x2, o⟩ (hc q i hi F' H' _ (s'.ow.ok _ List.mem_cons_self) x2 hj), q2⟩⟩
end
end Py

namespace Py
open PySem PySem.Spec PyProof.Rows L2
/-! ### own iterators: __iter__ gives a list's iterator -/
/-- a promise that may look at the size of the heap at the entry -/
structure FnN (P : Program) (w : World) (K : PySem.W.Frag) (mg : Str → Option Value) (base : Heap) (C0 : CXT) (k : Nat) (f : Addr) (fd : FuncData) (ps : List Str) (sp : Nat → Sp) : Prop where
  len : ∀ n vs H Q E, sp n vs H Q E → vs.length = ps.length
  run : ∀ (A : Around) (outer : List PySem.Env) (s : Shared) (H : Hp) (args : Args) (us : List Value) (vs : List V) (Q : VK) (E : XK), Room k A → Env0 P w K mg base A outer s H → BindsTo s fd args (ps.zip us) → Vals vs us → sp s.heap.objs.size vs H Q E →
    codeAny (model P w) A (.call (.ref f) args) (CR C0 outer P w H s Q E) s
section
variable {P : Program} {w : World} {K : PySem.W.Frag} {mg : Str → Option Value} {base : Heap} {x qual : Str} {params : Arguments} {body : List Stmt} {scope : Scope} {dvs : List V} {kws : List (Str × V)} {f : Addr} {fd : FuncData} {C0 : CXT} {N ps : List Str} {k : Nat} {sp : Nat → Sp}
theorem FnN.of (F : FunD K x qual params body scope dvs kws f fd) (Sc : FnScope N ps scope) (hlen : ∀ n vs H Q E, sp n vs H Q E → vs.length = ps.length)
    (hbody : ∀ (cdv : Value) (A : Around) (outer : List PySem.Env) (s : Shared) (H : Hp) (vs : List V) (Q : VK) (E : XK), Room k (A.deeper (envOfC qual scope s.heap.objs.size f cdv)) → sp s.heap.objs.size vs H Q E →
      ∃ t, PSs (cxOf C0 P w K mg base N qual scope f cdv A outer s H E) body t ∧ t { nx := fun _ H' => Q .non H', rt := Q } (L2.start N vs) H) : FnN P w K mg base C0 (k + 1) f fd ps sp := by
  obtain ⟨oc, od, dV, kV, doc, pm, an, cdv, ct, osl, rfl, look, hcode, _, _⟩ := F.ex
  constructor
  · exact hlen
  intro A outer s H args us vs Q E room e0 bind rv hsp
  have len := hlen _ _ _ _ _ hsp
  have inS : ∀ b o, base.get? b = some o → s.heap.get? b = some o := fun b o e => (e0.bs b o e).1
  have KS : K.In s.heap := e0.mod.kin.keeps inS
  have noL : s.heap.NoLimit := e0.mod.nolimit.keeps inS
  have kinds : ∀ y ∈ ps.zip us, scope.names.lookup y.1 = some .local ∨ (scope.names.lookup y.1 = some .cell ∧ ((cellsFrom (s.heap.objs.size + 1) scope.names []).lookup y.1).isSome = true) := by
    rintro ⟨a, v⟩ hy
    exact (Sc.par a (List.of_mem_zip hy).1).elim Or.inl fun q => Or.inr ⟨q, PySem.W.cellsFrom_some _ _ _ (.inl q)⟩
  refine codeAny_call_function room.depth (KS _ _ look) rfl Sc.co Sc.gen rfl (PySem.W.codeRec_of KS hcode) (bind _ _ _ _ ?_)
  refine wpAny_newFunctionEnv_cells Sc.kind kinds ?_
  rintro env rfl s1 made
  obtain ⟨t, ht, hq⟩ := hbody cdv A outer s H vs Q E (room.deeper _) hsp
  have I := inv_start Sc room.hd e0 len rv made (CX := C0) (E := E) (qual := qual) (f := f) (cd := cdv)
  refine ⟨noL.keeps made.toInCall.keep, codeAny_func (wpAny_mono (ht.run [] s1 (L2.start N vs) H _ I hq) ?_ fun e s' hs => hs)⟩
  intro fl s' hs
  cases fl with
  | ret u =>
    obtain ⟨v, σ', H', J, rv', q⟩ := hs
    exact ⟨v, H', J.os, J.bare, J.base, J.hok, rv', q⟩
  | next =>
    obtain ⟨σ', H', J, q⟩ := hs
    exact ⟨V.non, H', J.os, J.bare, J.base, J.hok, rfl, q⟩
  | brk =>
    obtain ⟨_, _, _, q⟩ := hs
    exact q.elim
  | cont =>
    obtain ⟨_, _, _, q⟩ := hs
    exact q.elim
end
def spIt.{u} {γ : Type u} {β : Type} [Rep β] (K : PySem.W.Frag) (arg : γ → Ent) (cel : γ → List Cell) (pre : γ → Prop) (res : γ → List β) (n : Nat) : Sp := fun vs H Q E => ∃ g R F, pre g ∧ Own K R F H (cel g) ∧ Pr (fun v r => Ent.rp r K F v) vs [arg g] ∧
  ∀ it p us F' H', n ≤ it → H' it = none → Ex F F' → Own K R F' H' (cel g) → F' p = some (.lst us) → Pr (Rep.rp K F') us (res g) → (res g).length ≤ sizeLine → Q (.ref it) (upd H' it (ItO p it 0))
/-- the class's __iter__ -/
structure Mi (P : Program) (w : World) (K : PySem.W.Frag) (mg : Str → Option Value) (base : Heap) (k : Nat) (C0 : Addr) (sp : Nat → Sp) : Prop where
  h : ∃ f fd ps, Meth K C0 "__iter__" f ∧ Binds K fd ps [] ∧ FnN P w K mg base (L2.CX P w) k f fd ps sp
theorem boot_iterx : bootBuiltins "iter" = some (.builtin "iter") := by first | rfl | decide +kernel
theorem fn_it.{u} {γ : Type u} {β : Type} [Rep β] {P : Program} {w : World} {K : PySem.W.Frag} {mg : Str → Option Value} {base : Heap} {x qual : Str} {params : Arguments} {body : List Stmt} {scope : Scope} {dvs : List V} {kws : List (Str × V)} {f : Addr} {fd : FuncData} {N ps : List Str} {k : Nat} {arg : γ → Ent} {cel : γ → List Cell} {pre : γ → Prop} {res : γ → List β}
    (F : FunD K x qual params body scope dvs kws f fd) (Sc : FnScope N ps scope) (hlen : ps.length = 1) (hm : mg "iter" = none)
    (h : ∀ g, pre g → ∀ cdv A outer s H Ex0 R, let C : Cz := ⟨cxOf (L2.CX P w) P w K mg base N qual scope f cdv A outer s H Ex0, R, fun cls d _ H => Ex0 cls d H⟩
      C.Ok k → ∃ p e pos pos2, body = [.Return (some (.Call (.Name "iter" p) [e] [] pos)) pos2] ∧ Gl C.X "iter" ∧ starEach [e] C.X.env = (false, eval e C.X.env) :: starEach [] C.X.env ∧ (backTo pos (starEach [] C.X.env)).any (·.1) = false ∧ E C (startE N [arg g]) (cel g) e ⟨res g⟩) : FnN P w K mg base (L2.CX P w) (k + 1) f fd ps (spIt K arg cel pre res) := by
  refine FnN.of F Sc (fun n vs H Q E ⟨g, R, F0, _, _, rv, _⟩ => by rw [rv.length, hlen]; rfl) fun cdv A outer s H vs Q E0 hr ⟨g, R, F0, hp, o, rv, q⟩ => ?_
  obtain ⟨p, e, pos, pos2, rfl, hg, hst, hpl, he⟩ := h g hp cdv A outer s H E0 R ⟨takes_of rfl rfl rfl rfl, passes_of rfl, rfl, Sc.nd, hr⟩
  refine ⟨_, pss_one (ps_ret (pe_callU ItX.call_iterN (Or.inl ⟨_, rfl⟩) hg hm boot_iterx (A_cons he A_nil hst).p (by decide) (by decide) hst hpl)), ?_⟩
  refine ⟨F0, ⟨start_slots rv, o⟩, fun us F1 H1 x1 s1 rr => ?_⟩
  obtain ⟨v, rfl, r2⟩ := one_of rr
  have rr : Rep.rp K F1 v (res g) := r2
  obtain ⟨l, ws, rfl, h1, h2, h3⟩ := rr
  exact ⟨l, ws, rfl, sq_of (s1.ow.fH _ _ h1), fun it hit hn => q it l ws F1 H1 hn hit x1.f s1.ow h1 h2 h3⟩
theorem mi_of {P : Program} {w : World} {K : PySem.W.Frag} {mg : Str → Option Value} {base : Heap} {k : Nat} {C0 f : Addr} {fd : FuncData} {ps : List Str} {sp : Nat → Sp} (M : Meth K C0 "__iter__" f) (hb : Binds K fd ps []) (ok : FnN P w K mg base (L2.CX P w) k f fd ps sp) : Mi P w K mg base k C0 sp := ⟨f, fd, ps, M, hb, ok⟩
section
variable {X : Cx} {A1 : Around} {CX0' : CXT} {k n : Nat} {f C0 : Addr} {fd : FuncData} {ps : List Str} {sp : Nat → Sp} {E : XK} {pins : List (Addr × Obj)} {σ : Py.St} {H : Hp} {s : Shared} {Q : VK} {us : List Value} {vs : List V}
theorem run_subN (F : FnN X.prog X.w X.K X.mg X.base (L2.CX X.prog X.w) n f fd ps sp) (sb : Sub X n A1) (hb : Binds X.K fd ps []) (I : L2.Inv X pins σ H s) (r : Vals vs us) (h : sp s.heap.objs.size vs H Q (fun _ _ _ => False)) (E : Value → Shared → Prop) :
    wpAny (model X.prog X.w) A1 (call (.ref f) us) (EP X pins σ Q) E s := by
  have e := I.env0
  have e0 : Env0 X.prog X.w X.K X.mg X.base A1 X.stack s H := ⟨by rw [sb.fr]; exact e.frames, e.mod, e.bs, e.bsz, e.funs, e.frf, e.hok, e.bare⟩
  have b := hb s us I.kIn (by rw [List.append_nil, ← r.length]; exact F.len _ _ _ _ _ h)
  rw [List.append_nil] at b
  refine wpAny_call (codeAny_mono (F.run A1 X.stack s H ⟨us, []⟩ us vs Q _ sb.room e0 b r h) ?_)
  intro r s' hq
  cases r with
  | error e =>
    obtain ⟨_, _, _, _, _, _, _, _, _, _, _, _, z⟩ := hq
    exact z.elim
  | ok fl =>
    cases fl with
    | ret u => exact I.after hq
    | next => exact hq.elim
    | brk => exact hq.elim
    | cont => exact hq.elim
end
end Py

namespace Py
open PySem PySem.Spec PyProof.Rows L2
section
variable {C : Cz} {k n j : Nat} {env : Env} {L LR : List Cell} {e tg : Expr} {C0 : Addr} {r : Ent}
/-- own iteration at the machine's level: pyIter of an instance -/
theorem iter_own.{u} {X : Cx} {γ : Type u} {β : Type} [Rep β] {arg : γ → Ent} {cel : γ → List Cell} {pre : γ → Prop} {res : γ → List β} {A1 : Around} {pins : List (Addr × Obj)} {σ σ2 : Py.St} {R F H : Hp} {s : Shared} {L : List Cell} {env : Env} {a dx : Addr} {fs : List (Str × V)} {Q : Value → Shared → Prop} {Ee : Value → Shared → Prop}
    (M : Mi X.prog X.w X.K X.mg X.base n C0 (spIt X.K arg cel pre res)) (sb : Sub X n A1) (g : γ) (hp : pre g) (hL : L.Perm (cel g ++ LR)) (I : L2.Inv X pins σ H s) (st : StaK X.K R F env L σ2 H) (ha : H a = some (.ins C0 dx fs)) (rv : (arg g).rp X.K F (.ref a))
    (h : ∀ it p us F' H' s', s.heap.objs.size ≤ it → L2.Inv X pins σ H' s' → (∀ b ∈ [it], FpOk X pins H' b) → s'.heap.IsListIter it p 0 → Ex F F' → StaK X.K R F' env L σ2 H' → F' p = some (.lst us) → Pr (Rep.rp X.K F') us (res g) → (res g).length ≤ sizeLine → Q (.ref it) s') :
    wpAny (model X.prog X.w) A1 (pyIter (.ref a)) Q Ee s := by
  obtain ⟨f, fd, ps, hM, hB, FN⟩ := M.h
  obtain ⟨ox, od, J, _⟩ := inst_at I ha
  obtain ⟨m', hF⟩ := I.fr
  refine PySem.W.owit_iter hF I.ok.mod.kin J hM.at_ hM.fn ?_
  have o1 := st.ow.perm hL.symm
  have o2 := o1.call
  refine wpAny_mono (run_subN FN sb hB I (show Vals [V.ref a] [Value.ref a] from .cons rfl .nil) (Q := fun v H2 => ∃ it p us F' H', s.heap.objs.size ≤ it ∧ H' it = none ∧ v = .ref it ∧ H2 = upd H' it (ItO p it 0) ∧ Ex F F' ∧ StaK X.K R F' env L σ2 H' ∧ F' p = some (.lst us) ∧ Pr (Rep.rp X.K F') us (res g) ∧ (res g).length ≤ sizeLine) ⟨g, frame H F (cel g), F, hp, o2, .cons rv .nil, ?_⟩ Ee) (fun u s' z => ?_) fun _ _ z => z
  · intro it p us F' H' hn hit x o3 h1 h2 h3
    have o4 := o1.back o3 x
    exact ⟨it, p, us, F', H', hn, hit, rfl, rfl, x, ⟨st.sl.mono x, o4.perm hL⟩, h1, h2, h3⟩
  · obtain ⟨v, H2, I2, rv2, it, p, us, F', H', hn, hit, rfl, rfl, x, s2, h1, h2, h3⟩ := z
    cases rv2
    have eo := itO_get I2 upd_same
    have hty : s'.TypeIs (.ref it) "list_iterator" := ⟨_, eo, rfl⟩
    refine wpAny_specialOf (name := Str.ofString "__next__") hty slot_listiter_next.lookup ?_
    have dr := ItX.inv_drop I2 (φ := fun h => h.get? it = some (GNX.itObj p 0)) upd_same
    have fp := ItX.inv_fp I2 upd_same (Nat.le_trans I.sz hn)
    rw [ItX.dropH_upd hit] at dr fp
    refine h it p us F' H' s' hn dr (fun b hb => ?_) ⟨_, eo, rfl, rfl⟩ x s2 h1 h2 h3
    rw [List.mem_singleton.mp hb]
    exact fp
/-- an instance whose object is seen -/
def Seen (C : Cz) (L : List Cell) (r : Ent) (C0 : Addr) : Prop := ∀ R F H v, Own C.X.K R F H L → r.rp C.X.K F v → ∃ p dx fs, v = .ref p ∧ H p = some (.ins C0 dx fs)
theorem Seen.of (h : IsI C.X.K r C0) : Seen C L r C0 := fun _ F H v o rv => by
  obtain ⟨p, dx, fs, rfl, h1⟩ := h F v rv
  exact ⟨p, dx, fs, rfl, o.fH _ _ h1⟩
theorem Seen.obj {q dx : Addr} {fs : Fld} (h : Cell.obj q C0 dx fs ∈ L) : Seen C L ⟨(At.mk q)⟩ C0 := fun _ F H v o rv => by
  have rv : v = V.ref q := rv
  obtain ⟨vs, h1, _⟩ := o.ok _ h
  exact ⟨q, dx, vs, rv, h1⟩
theorem srv_it {X : Cx} {β : Type} [Rep β] {p : Addr} {F1 : Hp} {us : List V} {as : List β} (h2 : F1 p = some (.lst us)) (h3 : Pr (Rep.rp X.K F1) us as) : Srv X.K [] (ItX.ItlF X.K p 0) F1 as := by
  refine ⟨fun i F2 H2 hi x2 x3 => ?_, fun i F2 H2 hi x2 x3 => ?_⟩
  · have hv : i < us.length := by rw [h3.length]; exact hi
    have hz : (0 : Nat) + i = i := Nat.zero_add i
    refine ⟨⟨us, us[i], sq_of (x3.1 _ _ (x2 _ _ h2)), by rw [hz]; exact List.getElem?_eq_getElem hv⟩, fun y H3 ⟨e1, e2⟩ => ?_⟩
    subst e1
    have e3 := e2 us (sq_of (x3.1 _ _ (x2 _ _ h2)))
    rw [hz] at e3
    obtain ⟨a, h5, h6⟩ := h3.getL e3
    exact ⟨F2, Gro.rf x3.1, a, h5, Rep.mono x2 h6⟩
  · exact ⟨us, sq_of (x3.1 _ _ (x2 _ _ h2)), by rw [h3.length, Nat.zero_add]; exact hi⟩
/-- for x in o, o of an own class -/
theorem EI_own.{u} {γ : Type u} {β : Type} [Rep β] {arg : γ → Ent} {cel : γ → List Cell} {pre : γ → Prop} {res : γ → List β} (g : γ) (ok : C.Ok k) (M : Mi C.X.prog C.X.w C.X.K C.X.mg C.X.base n C0 (spIt C.X.K arg cel pre res)) (he : E C env L e (arg g)) (hp : pre g) (hL : L.Perm (cel g ++ LR)) (hs : Seen C L (arg g) C0) (hj : n ≤ k := by decide) : EI C env L tg e (res g) := by
  refine ⟨⟨fun pins s σ H Rr I ⟨F, st, q⟩ => ?_⟩⟩
  refine wpAny_mono (he.p.run pins s σ H (fun v H1 => ∃ F1, Gw F H F1 H1 ∧ Sta C F1 env L σ H1 ∧ (arg g).rp C.X.K F1 v) I ⟨F, st, fun v F1 H1 x1 s1 rv => ⟨F1, x1, s1, rv⟩⟩) (fun u s1 z => ?_) fun _ _ z => z
  obtain ⟨v, H1, I1, rv1, F1, x1, st1, rv⟩ := z
  obtain ⟨a, dx, fs, rfl, ha⟩   := hs _ F1 H1 v st1.ow rv
  cases rv1
  refine iter_own M (Sub.here ok.room hj) g hp hL I1 st1 ha rv fun it p us F2 H2 s2 hn I2 fp hi x2 st2 h1 h2 h3 => ?_
  refine ⟨it, [it], _, ItX.ItlF C.X.K p 0, H2, rfl, I2, ItX.turn_listF p it 0, hi, fp, ?_⟩
  refine q _ F2 H2 ⟨x1.f.tr x2⟩ st2 (srv_it h1 h2) h3
end
end Py

namespace Py
open PySem PySem.Spec PyProof.Rows L2
/-- a promise about cells that are lent -/
abbrev spB.{u} {γ : Type u} (K : PySem.W.Frag) (arg : γ → List Ent) (cel : γ → List Cell) (pre : γ → Prop) (res : γ → Ent) : Sp := spM K arg cel pre (fun g r L' => r = res g ∧ L' = cel g) (fun _ _ _ _ => False)
theorem not_long {n : Nat} (h : n ≤ sizeLine) : Builtin.List.listTooLong n = false := by
  unfold Builtin.List.listTooLong
  exact decide_eq_false (Nat.not_lt.mpr h)
section
variable {X : Cx} {A1 : Around} {C0 f a dx : Addr} {fd : FuncData} {ps : List Str} {sp : Sp} {ox : Obj} {od : Option Obj} {s : Shared} {n k : Nat} {pins : List (Addr × Obj)} {σ : Py.St} {H : Hp} {Qv : VK} {us : List Value} {vs : List V}
theorem run_sub0 (F : FnOk X.prog X.w X.K X.mg X.base (L2.CX X.prog X.w) n f fd ps sp) (sb : Sub X n A1) (hb : Binds X.K fd ps []) (I : L2.Inv X pins σ H s) (r : Vals vs us) (h : sp vs H Qv (fun _ _ _ => False)) (E : Value → Shared → Prop) :
    wpAny (model X.prog X.w) A1 (call (.ref f) us) (EP X pins σ Qv) E s := by
  have e := I.env0
  have e0 : Env0 X.prog X.w X.K X.mg X.base A1 X.stack s H := ⟨by rw [sb.fr]; exact e.frames, e.mod, e.bs, e.bsz, e.funs, e.frf, e.hok, e.bare⟩
  have b := hb s us I.kIn (by rw [List.append_nil, ← r.length]; exact F.len _ _ _ _ h)
  rw [List.append_nil] at b
  refine wpAny_call (codeAny_mono (F.run A1 X.stack s H ⟨us, []⟩ us vs Qv _ sb.room e0 b r h) ?_)
  intro q s' hq
  cases q with
  | error e =>
    obtain ⟨_, _, _, _, _, _, _, _, _, _, _, _, z⟩ := hq
    exact z.elim
  | ok fl =>
    cases fl with
    | ret u => exact I.after hq
    | next => exact hq.elim
    | brk => exact hq.elim
    | cont => exact hq.elim
/-- what list() asks of an own length -/
theorem hint_own {Q : Bool → Shared → Prop} {E : Value → Shared → Prop} (hK : X.K.In s.heap) (J : PySem.W.InstAt s.heap a ox C0 od) (hl : PySem.W.findIn X.K (.ref C0) "__len__" = some (some (.ref f)))
    (h : wpAny (model X.prog X.w) A1 (call (.builtin "len") [.ref a]) (fun u s' => ∃ (m : Nat) (t : Tok), u = .int m t ∧ m ≤ sizeLine ∧ ∀ b, Q b s') (fun _ _ => False) s) : wpAny (model X.prog X.w) A1 (Builtin.List.listLengthHint (.ref a)) Q E s := by
  unfold Builtin.List.listLengthHint
  refine wpAny_bind (wpAny_bind (J.type.here ((PySem.W.looks_findIn hK hl).here ?_)))
  refine PySem.W.KFB.if_not rfl ?_
  refine wpAny_ite_split (fun _ => ?_) (fun z => absurd rfl z)
  refine wpAny_bind (wpAny_rule (wpAny_bind (wpAny_attempt (wpAny_mono h ?_ fun _ _ z => z.elim))))
  rintro u s' ⟨m, t, rfl, hm, hq⟩
  refine wpAny_bind (wpAny_pure ?_)
  show wpAny _ _ (if Builtin.List.listTooLong ((m : Int)).toNat = true then _ else _) _ _ _
  rw [Int.toNat_natCast, not_long hm]
  exact wpAny_pure (hq _)
/-- a list's iterator fills the list at q -/
theorem it_loop {Rs : Result → Shared → Prop} {R F : Hp} {β : Type} {L : List Cell} {env : Env} {it p q : Addr} {ws : List V} (hh : A1.in1.handled = none) (hq : R q = none) (hz : ws.length ≤ sizeLine) (h1 : F p = some (.lst ws))
    (hd : ∀ s', L2.Inv X pins σ (upd H q (.lst ws)) s' → Rs (.ok (.ret .none)) s') : ∀ (m i : Nat) (s : Shared), m = ws.length - i → i ≤ ws.length → L2.Inv X pins σ (upd H q (.lst (ws.take i))) s → SqL X.K (upd H q (.lst (ws.take i))) p ws → p ≠ q → H it = none → it ≠ q → (∀ b ∈ [it], FpOk X pins (upd H q (.lst (ws.take i))) b) → s.heap.IsListIter it p i →
    codeAny (model X.prog X.w) A1 (.builtin "list.extend.loop" ⟨[.ref q, .ref it, .none], []⟩) Rs s := by
  intro m
  induction m with
  | zero =>
    intro i s hm hi I hS hpq hit hiq fp st
    have e : i = ws.length := by omega
    subst e
    refine codeAny_builtin PySem.F.entry_extend_loop ?_
    rw [Around.under_plainId PySem.F.plain_extend_loop _]
    show wpAny _ A1.in1 (pyNext (.ref it) >>= _) _ _ s
    obtain ⟨its, rv, pl, hz2⟩ := I.list hS
    have hl := rv.length
    obtain ⟨f0, f1, f2, f3, f4, f5⟩ := fp it (by simp)
    refine wpAny_bind (wpAny_pyNext_list_end hh st pl.isList (by simp; omega) fun h' eb => ?_)
    have I2 := I.turned (t' := s.toks) (fun b o hb e => eb b o hb e) f0 f1 f3 f4 f5
    rw [List.take_length] at I2
    exact wpAny_pure (hd _ I2)
  | succ m ih =>
    intro i s hm hi I hS hpq hit hiq fp st
    have hlt : i < ws.length := by omega
    refine codeAny_builtin PySem.F.entry_extend_loop ?_
    rw [Around.under_plainId PySem.F.plain_extend_loop _]
    show wpAny _ A1.in1 (pyNext (.ref it) >>= _) _ _ s
    obtain ⟨its, rv, pl, hz2⟩ := I.list hS
    obtain ⟨f0, f1, f2, f3, f4, f5⟩ := fp it (by simp)
    obtain ⟨u, hu, ru⟩ := rv.get (List.getElem?_eq_getElem hlt)
    refine wpAny_bind (wpAny_pyNext_list_item st pl.isList (x := u) (by simpa using hu) fun h' st' sb => ?_)
    have I1 : L2.Inv X pins σ (upd H q (.lst (ws.take i))) { s with heap := h' } := I.turned (t' := s.toks) (fun b o hb e => (sb.2 b hb).trans e) f0 f1 f3 f4 f5
    show wpAny _ A1.in1 (updateSeq q (·.push u) >>= _) _ _ _
    obtain ⟨z, is2, k2, r2, hl2, e2⟩ := I1.lstM upd_same
    have hls : is2.length = i := by rw [← hl2, List.length_take]; omega
    have sz : i < sizeLine := Nat.lt_of_lt_of_le hlt hz
    refine wpAny_bind (wpAny_updateSeq e2 rfl (wpAny_pure ⟨plainId_quiet PySem.F.plain_extend_loop _, ?_⟩) (by rw [List.size_toArray, hls]; omega) (by show (is2.toArray.push u).size ≤ sizeLine + 1; rw [Array.size_push, List.size_toArray, hls]; omega))
    have et : ws.take (i + 1) = ws.take i ++ [ws[i]] := by rw [List.take_add_one, List.getElem?_eq_getElem hlt]; rfl
    have I3 := I1.lset (its' := is2 ++ [u]) (f := (·.push u)) (t' := s.toks) upd_same e2 (by simp) (r2.append (.cons ru .nil)) (by rw [List.length_append, List.length_take, List.length_singleton]; omega)
    rw [upd_upd, ← et] at I3
    refine ih (i + 1) _ (by omega) hlt I3 ?_ hpq hit hiq (fun b hb => ?_) ?_
    · unfold SqL Rd at hS ⊢
      rw [upd_ne hpq] at hS ⊢
      exact hS
    · obtain ⟨g0, g1⟩ := fp b hb
      refine ⟨?_, g1⟩
      rw [List.mem_singleton.mp hb, upd_ne hiq]
      exact hit
    · exact st'.at fun o e => (Heap.get?_update_other _ _ (fun z => hiq z.symm)).trans e
end
section
variable {C : Cz} {k n n2 j : Nat} {env : Env} {L LR : List Cell} {e tg : Expr} {C0 : Addr} {r : Ent} {p pos : Pos}
/-- list(o), o of an own class with __len__ -/
theorem E_listO.{u, v} {γ : Type u} {δ : Type v} {β : Type} [Rep β] {arg : γ → Ent} {cel : γ → List Cell} {pre : γ → Prop} {res : γ → List β} {arg2 : δ → List Ent} {cel2 : δ → List Cell} {pre2 : δ → Prop} {res2 : δ → Int} (g : γ) (g2 : δ) (ok : C.Ok k)
    (M : Mi C.X.prog C.X.w C.X.K C.X.mg C.X.base n C0 (spIt C.X.K arg cel pre res)) (M2 : Ms C.X.prog C.X.w C.X.K C.X.mg C.X.base n2 C0 "__len__" (spB C.X.K arg2 cel2 pre2 (fun g => ⟨res2 g⟩)))
    (he : E C env L e (arg g)) (hp : pre g) (hL : L.Perm (cel g ++ LR)) (hs : Seen C L (arg g) C0) (ha2 : arg2 g2 = [arg g]) (hp2 : pre2 g2) (hc2 : cel2 g2 = cel g) (hb : 0 ≤ res2 g2 ∧ res2 g2 ≤ sizeLine) (hm : C.X.mg "list" = none) (hj : n + 2 ≤ k := by decide) (hj2 : n2 + 3 ≤ k := by decide) (hg : Gl C.X "list" := by rfl)
    (hst : starEach [e] C.X.env = (false, eval e C.X.env) :: starEach [] C.X.env := by rfl) (hpl : (backTo pos (starEach [] C.X.env)).any (·.1) = false := by rfl) : E C env L (.Call (.Name "list" p) [e] [] pos) ⟨res g⟩ := by
  obtain ⟨f2, fd2, ps2, hM2, _, hB2, FN2⟩ := M2.h
  have key : CallR C.X (.type "list") (fun xs H Q => ∃ σ F a, xs = [.ref a] ∧ Sta C F env L σ H ∧ (arg g).rp C.X.K F (.ref a) ∧ (∃ dx fs, H a = some (.ins C0 dx fs)) ∧ ∀ v F' H', Gw F H F' H' → Sta C F' env L σ H' → (⟨res g⟩ : Ent).rp C.X.K F' v → Q v H') := by
    intro pins s σ' H xs us Q I rv h
    obtain ⟨σ, F, a, rfl, st, ra, ⟨dx, fs, ha⟩, hq⟩ := h
    obtain ⟨u, rfl, ru⟩ := rv.one
    cases ru
    have sb : Sub C.X (n + 2) C.X.A := Sub.here ok.room hj
    have sb2 : Sub C.X n C.X.A.in1.in1 := Sub.in1 (Sub.in1 sb)
    have sb3 : Sub C.X n2 C.X.A.in1.in1.in1 := Sub.in1 (Sub.in1 (Sub.in1 (Sub.here ok.room hj2)))
    refine callType_codes (Q₁ := fun obj s₁ => obj = .ref s.heap.objs.size ∧ s₁ = { s with heap := s.heap.push { cls := .type "list", data := .seq #[] } }) PySem.F.called_list (PySem.F.typeCall_list_1 _) PySem.F.entry_list_init (code_list_new _ ⟨rfl, rfl⟩) fun obj s₁ h₁ => ?_
    obtain ⟨rfl, rfl⟩ := h₁
    have hS : (s.heap.push { cls := .type "list", data := .seq #[] }).get? s.heap.objs.size = some { cls := .type "list", data := .seq #[] } := Heap.get?_push_size _ rfl
    refine ⟨⟨_, hS, rfl⟩, PySem.F.args_list_init_2 _ _, ?_⟩
    have fr : H s.heap.objs.size = none := I.hok.fresh (Nat.le_refl _)
    obtain ⟨q, eq⟩ : ∃ q, q = s.heap.objs.size := ⟨_, rfl⟩
    have I1 : L2.Inv C.X pins σ' (upd H s.heap.objs.size (.lst [])) { s with heap := s.heap.push { cls := .type "list", data := .seq #[] } } := I.lnew (its := []) (t' := s.toks) .nil (Nat.zero_le _)
    show wpAny _ _ (do let old ← Builtin.List.listItems (.ref s.heap.objs.size); Builtin.List.listUpdate (.ref s.heap.objs.size) (fun _ => #[]); letGo old.toList.reverse; Builtin.List.listExtendWith (.ref s.heap.objs.size) (.ref a) .none) _ _ _
    refine wpAny_bind ?_
    unfold Builtin.List.listItems
    refine wpAny_bind (wpAny_seqItems hS rfl (wpAny_pure ?_))
    show wpAny _ _ (updateSeq s.heap.objs.size (fun _ => #[]) >>= fun _ => letGo (#[] : Array Value).toList.reverse >>= fun _ => Builtin.List.listExtendWith (.ref s.heap.objs.size) (.ref a) .none) _ _ _
    refine wpAny_bind (wpAny_updateSeq hS rfl ?_)
    have I2 := I1.lset (f := fun _ => #[]) (its := []) (its' := []) (ys := []) (t' := s.toks) upd_same hS rfl .nil (Nat.zero_le _)
    rw [upd_upd] at I2
    refine wpAny_bind (wpAny_letGo ?_)
    have hne : s.heap.objs.size ≠ a := fun z => by rw [z] at fr; rw [fr] at ha; cases ha
    have ha2' : upd H s.heap.objs.size (.lst []) a = some (.ins C0 dx fs) := by rw [upd_ne (Ne.symm hne)]; exact ha
    rw [← eq] at I2 hne ha2' fr ⊢
    obtain ⟨oR, hR, hF⟩ := st.ow.toR (u := .lst []) fr
    obtain ⟨ox, od, J, _⟩ := inst_at I2 ha2'
    unfold Builtin.List.listExtendWith
    refine wpAny_bind (J.type.here ?_)
    have h1 : Builtin.List.listSameRef (.ref q) (.ref a) = false := by simp [Builtin.List.listSameRef, hne]
    have h2 : (Value.ref C0 == Value.type "list") = false := rfl
    have h3 : (Value.ref C0 == Value.type "tuple") = false := rfl
    simp only [h1, h2, h3, Bool.or_false, Bool.false_eq_true, if_false]
    refine wpAny_bind (iter_own M sb2 g hp hL I2 (R := upd C.R q (.lst [])) ⟨st.sl, oR⟩ ha2' ra fun it l ws F2 H2 s2 hn J2 fp hi x2 st2 hl pr hz => ?_)
    have hq2 : H2 q = some (.lst []) := st2.ow.rH _ _ upd_same
    have hlq : l ≠ q := fun z => by
      have := st2.ow.fr q _ upd_same
      rw [← z, hl] at this; cases this
    obtain ⟨a2, dx2, fs2, ea, ha3⟩ := hs _ F2 H2 (.ref a) st2.ow (Ent.mono x2 ra)
    cases ea
    obtain ⟨ox2, od2, J3, _⟩ := inst_at J2 ha3
    obtain ⟨m3, hF3⟩ := J2.fr
    obtain ⟨f0, fr2⟩ := fp it (by simp)
    have K2 := J2.pinned fp fun b hb => by
      rw [List.mem_singleton.mp hb]
      obtain ⟨o, e, c, d⟩ := id hi
      exact ⟨o, e, fun v z => by rw [d] at z; cases z⟩
    have pin : ∀ o, s2.heap.get? it = some o → (it, o) ∈ pins ++ pinsAt [it] s2.heap := fun o e => List.mem_append_right _ (List.mem_filterMap.mpr ⟨it, by simp, by rw [e]; rfl⟩)
    have o1 : Own C.X.K (upd C.R q (.lst [])) F2 H2 (cel2 g2 ++ LR) := by rw [hc2]; exact st2.ow.perm hL.symm
    have iq : it ≠ q := fun z => by rw [z, hq2] at f0; cases f0
    refine wpAny_bind (wpAny_holding (hint_own J2.kIn J3 hM2.at_ (PySem.W.len_K hF3 J2.ok.mod.kin J3 hM2.at_ hM2.fn (wpAny_mono (run_sub0 FN2 sb3 hB2 K2 (show Vals [V.ref a] [Value.ref a] from .cons rfl .nil) (Qv := fun v H3 => ∃ F3, v = .int (res2 g2) ∧ Ex F2 F3 ∧ Own C.X.K (upd C.R q (.lst [])) F3 H3 L) ⟨g2, hp2, frame H2 F2 (cel2 g2), F2, o1.call, by rw [ha2]; exact .cons (Ent.mono x2 ra) .nil, ?_, fun _ _ _ _ _ z => z.elim⟩ _) (fun u s3 z => ?_) fun _ _ z => z))))
    · rintro r3 L3 v F3 H3 ⟨rfl, rfl⟩ x3 o3 rr
      have o4 := o1.back o3 x3
      rw [hc2] at o4
      exact ⟨F3, rr, x3, o4.perm hL⟩
    · obtain ⟨v, H3, I3, rv3, F3, rfl, x3, o3⟩ := z
      obtain ⟨t3, rfl⟩ := rv3
      refine ⟨⟨hb.1, by have h9 := hb.2; rw [sizeLine_eq] at h9; omega⟩, (res2 g2).toNat, _, by rw [Int.toNat_of_nonneg hb.1], by omega, fun bo => ?_⟩
      have I4 := I3.tok (s3.toks + 1)
      obtain ⟨oi, ei, ci, di⟩ := id hi
      obtain ⟨e3, n3, _⟩ := I4.pin (it, oi) (List.mem_append_right _ (pin oi ei))
      have st3 : ({ s3 with toks := s3.toks + 1 } : Shared).heap.IsListIter it l 0 := ⟨oi, e3, ci, di⟩
      have fp3 : ∀ b ∈ [it], FpOk C.X pins H3 b := fun b hb => by
        rw [List.mem_singleton.mp hb]
        exact ⟨n3, fr2⟩
      have hq3 : H3 q = some (.lst []) := o3.rH _ _ upd_same
      have hH : ∀ zs : List V, zs = [] → upd H3 q (.lst zs) = H3 := fun zs e => by
        subst e
        funext b
        by_cases hb : b = q
        · rw [hb, upd_same, hq3]
        · rw [upd_ne hb]
      have hl3 : SqL C.X.K H3 l ws := sq_of (o3.fH _ _ (x3 _ _ hl))
      have hzw : ws.length ≤ sizeLine := by rw [pr.length]; exact hz
      have fin : ∀ s', L2.Inv C.X pins σ' (upd H3 q (.lst ws)) s' → EP C.X pins σ' Q (.ref q) s' := fun s' I5 => by
        have o5 := (o3.updR (u' := .lst ws) hR)
        obtain ⟨o6, x6⟩ := o5.ofR hR
        exact ⟨.ref q, _, I5, rfl, hq (.ref q) _ _ ⟨(x2.tr x3).tr x6⟩ ⟨st2.sl.mono (x3.tr x6), o6⟩ ⟨q, ws, rfl, upd_same, pr.imp fun _ _ => Rep.mono (x3.tr x6), hz⟩⟩
      have loop := fun (s4 : Shared) (J4 : L2.Inv C.X pins σ' H3 s4) (st4 : s4.heap.IsListIter it l 0) => it_loop (A1 := C.X.A.in1) (β := β) (L := L) (env := env) (R := C.R) (H := H3) (X := C.X) (pins := pins) (σ := σ') (Rs := wants (fun r s₂ => r = .none ∧ EP C.X pins σ' Q (.ref q) s₂) C.X.xe) (F := F3) (it := it) (p := l) (q := q) (ws := ws) (I.ok.hd ok.calm) hR hzw (x3 _ _ hl) (fun s' I5 => ⟨rfl, fin s' I5⟩) ws.length 0 s4 rfl (Nat.zero_le _) (by rw [hH _ (List.take_zero)]; exact J4) (by rw [hH _ (List.take_zero)]; exact hl3) hlq n3 iq (by rw [hH _ (List.take_zero)]; exact fp3) st4
      have I5 := I4.unpinned
      refine wpAny_ite_split (fun _ => ?_) (fun _ => wpAny_pure ⟨plainId_quiet PySem.F.plain_extend_loop _, loop _ I5 st3⟩)
      refine wpAny_bind (wpAny_rule ?_)
      refine wpAny_bind ?_
      show wpAny _ _ (updateSeq q (·.push .none) >>= fun _ => updateSeq q (·.pop)) _ _ _
      obtain ⟨z, its, k1, r3, hl4, e4⟩ := I5.lstM hq3
      cases r3
      refine wpAny_bind (wpAny_updateSeq e4 rfl ?_)
      have I6 := I5.lset (f := (·.push Value.none)) (its' := [Value.none]) (ys := [.non]) (t' := s3.toks + 1) hq3 e4 (by simp) (.cons rfl .nil) (by rw [List.length_singleton, sizeLine_eq]; decide)
      obtain ⟨z4, its4, k4, r4, hl5, e5⟩ := I6.lstM upd_same
      obtain ⟨u4, rfl, ru4⟩ := r4.one
      refine wpAny_updateSeq e5 rfl ?_ (by show 1 ≤ sizeLine; rw [sizeLine_eq]; decide) (by show 0 ≤ sizeLine + 1; exact Nat.zero_le _)
      have I7 := I6.lset (f := (·.pop)) (its := [u4]) (its' := []) (ys := []) (t' := s3.toks + 1) upd_same e5 (by rfl) .nil (Nat.zero_le _)
      rw [upd_upd, hH _ rfl] at I7
      refine wpAny_pure ⟨plainId_quiet PySem.F.plain_extend_loop _, loop _ I7 ?_⟩
      refine st3.at fun o e => ?_
      exact (Heap.get?_update_other _ _ (fun z => iq z.symm)).trans ((Heap.get?_update_other _ _ (fun z => iq z.symm)).trans e)
  refine ⟨PE.imp (pe_callU key (Or.inr ⟨_, rfl⟩) hg hm boot_listx (A_cons he A_nil hst).p (by decide) (by decide) hst hpl) fun σ H Q ⟨F, s, q⟩ => ⟨F, s, fun vs F1 H1 x1 s1 rv => ?_⟩⟩
  obtain ⟨v, rfl, rv2⟩ := one_of rv
  obtain ⟨a, dx, fs, rfl, ha⟩ := hs _ F1 H1 v s1.ow rv2
  exact ⟨σ, F1, a, rfl, s1, rv2, ⟨dx, fs, ha⟩, fun v F' H' x2 s2 rr => q v F' H' (x1.tr x2) s2 rr⟩
end
end Py

namespace Py
open PySem PySem.Spec PyProof.Rows L2
section
variable {C : Cz} {k n j : Nat} {env : Env} {L LR : List Cell} {e a b o tg : Expr} {es : List Expr} {C0 : Addr} {r r1 r2 : Ent} {rs : List Ent} {p pos apos : Pos} {m x : Str} {rest : List Stmt} {Q : Po}
/-- an expression is run in a state -/
theorem E.go (he : E C env L e r) {pins : List (Addr × Obj)} {σ : Py.St} {F H : Hp} {s : Shared} {Qv : Value → Shared → Prop} (I : L2.Inv C.X pins σ H s) (st : Sta C F env L σ H)
    (h : ∀ u s1 v F1 H1, L2.Inv C.X pins σ H1 s1 → RelV v u → Ex F F1 → Sta C F1 env L σ H1 → r.rp C.X.K F1 v → Qv u s1) : wpAny (model C.X.prog C.X.w) C.X.A (eval e C.X.env) Qv C.X.xe s :=
  wpAny_mono (he.p.run pins s σ H (fun v H1 => ∃ F1, Ex F F1 ∧ Sta C F1 env L σ H1 ∧ r.rp C.X.K F1 v) I ⟨F, st, fun v F1 H1 x s1 rv => ⟨F1, x.f, s1, rv⟩⟩) (fun u s1 ⟨v, H1, I1, r1, F1, x1, st1, rv⟩ => h u s1 v F1 H1 I1 r1 x1 st1 rv) fun _ _ z => z
theorem A.go (he : A C env L es rs) {pins : List (Addr × Obj)} {σ : Py.St} {F H : Hp} {s : Shared} {Qv : List Value → Shared → Prop} (I : L2.Inv C.X pins σ H s) (st : Sta C F env L σ H)
    (h : ∀ us s1 vs F1 H1, L2.Inv C.X pins σ H1 s1 → Vals vs us → Ex F F1 → Sta C F1 env L σ H1 → Pr (fun v r => Ent.rp r C.X.K F1 v) vs rs → Qv us s1) (pos : Pos) : wpAny (model C.X.prog C.X.w) C.X.A (spliced (backTo pos (starEach es C.X.env))) Qv C.X.xe s :=
  wpAny_mono (he.p.run pos pins s σ H (fun vs H1 => ∃ F1, Ex F F1 ∧ Sta C F1 env L σ H1 ∧ Pr (fun v r => Ent.rp r C.X.K F1 v) vs rs) I ⟨F, st, fun vs F1 H1 x s1 rv => ⟨F1, x.f, s1, rv⟩⟩) (fun u s1 ⟨v, H1, I1, r1, F1, x1, st1, rv⟩ => h u s1 v F1 H1 I1 r1 x1 st1 rv) fun _ _ z => z
/-- an own method is run by its promise -/
theorem run_ctr.{u} {γ : Type u} {arg : γ → List Ent} {cel : γ → List Cell} {pre : γ → Prop} {post : γ → Ent → List Cell → Prop} {exc : γ → Value → Option Addr → List Cell → Prop} {f : Addr} {fd : FuncData} {ps : List Str} {A1 : Around} (g : γ) (ok : C.Ok k)
    (Fn : FnOk C.X.prog C.X.w C.X.K C.X.mg C.X.base (L2.CX C.X.prog C.X.w) n f fd ps (spM C.X.K arg cel pre post exc)) (sb : Sub C.X n A1) (hb : Binds C.X.K fd ps []) (hp : pre g) (hL : L.Perm (cel g ++ LR)) {pins : List (Addr × Obj)} {σ : Py.St} {F H : Hp} {s : Shared} {Qv : VK} {us : List Value} {vs : List V}
    (I : L2.Inv C.X pins σ H s) (st : Sta C F env L σ H) (rv : Vals vs us) (pr : Pr (fun v r => Ent.rp r C.X.K F v) vs (arg g)) (h1 : ∀ v r L' F' H', post g r L' → Ex F F' → Sta C F' env (L' ++ LR) σ H' → Ent.rp r C.X.K F' v → Qv v H') (h2 : ∀ cls d L' F' H', exc g cls d L' → Ex F F' → Sta C F' env (L' ++ LR) σ H' → C.W cls d σ H') :
    wpAny (model C.X.prog C.X.w) A1 (call (.ref f) us) (EP C.X pins σ Qv) C.X.xe s := run_sub Fn sb hb (passAt ok.tk σ) I rv (of_sp1 g hp hL st pr h1 h2)
/-- the shape of an own call's end -/
abbrev enM {γ : Type _} (post : γ → Ent → List Cell → Prop) (g : γ) (LR : List Cell) : Ent → List Cell → Prop := fun r L' => ∃ L1, post g r L1 ∧ L' = L1 ++ LR
abbrev enX {γ : Type _} (exc : γ → Value → Option Addr → List Cell → Prop) (g : γ) (LR : List Cell) : Value → Option Addr → List Cell → Prop := fun cls d L' => ∃ L1, exc g cls d L1 ∧ L' = L1 ++ LR
/-- a op b, a and b of one own class -/
theorem EM_binO.{u} {γ : Type u} {arg : γ → List Ent} {cel : γ → List Cell} {pre : γ → Prop} {post : γ → Ent → List Cell → Prop} {exc : γ → Value → Option Addr → List Cell → Prop} {op : Operator} (g : γ) (ok : C.Ok k) (hc : PySem.W.selfFirst C.X.K C0 = true)
    (M : Ms C.X.prog C.X.w C.X.K C.X.mg C.X.base n C0 m (spM C.X.K arg cel pre post exc)) (ha : E C env L a r1) (hb : E C env L b r2) (hg : arg g = [r1, r2]) (hp : pre g) (hL : L.Perm (cel g ++ LR)) (i1 : Seen C L r1 C0) (i2 : Seen C L r2 C0) (hm : PySem.dunder op.info.2 = m := by rfl) (hj : n ≤ k := by decide) :
    EM C env L (.BinOp a op b pos) (enM post g LR) (enX exc g LR) := by
  obtain ⟨f, fd, ps, hM, _, hB, Fn⟩ := M.h
  subst hm
  refine ⟨⟨fun pins s σ H Qv I ⟨F, st, q1, q2⟩ => wpAny_BinOp (ha.go I st fun u s1 v F1 H1 I1 ru x1 st1 rv => hb.go I1 st1 fun u2 s2 v2 F2 H2 I2 ru2 x2 st2 rv2 => ?_)⟩⟩
  have rv1 := Ent.mono x2 rv
  obtain ⟨q, dx, fs, rfl, h1⟩ := i1 _ F2 H2 v st2.ow rv1
  obtain ⟨q', dx', fs', rfl, h2⟩ := i2 _ F2 H2 v2 st2.ow rv2
  obtain rfl : u = Value.ref q := ru
  obtain rfl : u2 = Value.ref q' := ru2
  obtain ⟨ox, od, J, _⟩ := inst_at I2 h1
  obtain ⟨ox', od', J', _⟩ := inst_at I2 h2
  obtain ⟨m', hF⟩ := I2.fr
  refine PySem.W.binop_K hF I2.ok.mod.kin J J'.type hc hM.at_ hM.fn ?_
  refine wpAny_mono (run_ctr g ok Fn (Sub.here ok.room hj) hB hp hL I2 st2 (show Vals [V.ref q, V.ref q'] [Value.ref q, Value.ref q'] from .cons rfl (.cons rfl .nil)) (by rw [hg]; exact .cons rv1 (.cons rv2 .nil)) (Qv := Qv) (fun v r L' F' H' hpo x s' rr => ?_) (fun cls d L' F' H' hx x s' => ?_)) (fun _ _ z => cmpBack_of z) fun _ _ z => z
  · exact q1 v r _ F' H' ⟨L', hpo, rfl⟩ ((x1.tr x2).tr x) s' rr
  · exact q2 cls d _ F' H' ⟨L', hx, rfl⟩ ((x1.tr x2).tr x) s'
/-- a op b, an own comparison -/
theorem EM_cmpO.{u} {γ : Type u} {arg : γ → List Ent} {cel : γ → List Cell} {pre : γ → Prop} {post : γ → Ent → List Cell → Prop} {exc : γ → Value → Option Addr → List Cell → Prop} {op : CmpOp} (g : γ) (ok : C.Ok k)
    (M : Ms C.X.prog C.X.w C.X.K C.X.mg C.X.base n C0 m (spM C.X.K arg cel pre post exc)) (ha : E C env L a r1) (hb : E C env L b r2) (hg : arg g = [r1, r2]) (hp : pre g) (hL : L.Perm (cel g ++ LR)) (i1 : Seen C L r1 C0) (i2 : Seen C L r2 C0) (ho : ∀ u v, compareOp op u v = richCompare op u v := by intro _ _; rfl) (hm : (PySem.cmpInfo op).2.1 = m := by rfl) (hj : n ≤ k := by decide) (hn : behindInMarks op b = false := by first | rfl | exact nomark _) :
    EM C env L (.Compare a [op] [b] pos) (enM post g LR) (enX exc g LR) := by
  obtain ⟨f, fd, ps, hM, _, hB, Fn⟩ := M.h
  subst hm
  refine ⟨⟨fun pins s σ H Qv I ⟨F, st, q1, q2⟩ => wpAny_Compare1 (ha.go I st fun u s1 v F1 H1 I1 ru x1 st1 rv => hb.go I1 st1 fun u2 s2 v2 F2 H2 I2 ru2 x2 st2 rv2 => ?_) hn⟩⟩
  have rv1 := Ent.mono x2 rv
  obtain ⟨q, dx, fs, rfl, h1⟩ := i1 _ F2 H2 v st2.ow rv1
  obtain ⟨q', dx', fs', rfl, h2⟩ := i2 _ F2 H2 v2 st2.ow rv2
  obtain rfl : u = Value.ref q := ru
  obtain rfl : u2 = Value.ref q' := ru2
  obtain ⟨ox, od, J, _⟩ := inst_at I2 h1
  obtain ⟨ox', od', J', _⟩ := inst_at I2 h2
  obtain ⟨m', hF⟩ := I2.fr
  rw [ho]
  refine PySem.W.cmp_K (tb := .ref C0) ok.room.units0 hF I2.ok.mod.kin J J'.type (by simp [PySem.W.notFirst]) hM.at_ hM.fn ?_
  refine wpAny_mono (run_ctr g ok Fn (Sub.here ok.room hj) hB hp hL I2 st2 (show Vals [V.ref q, V.ref q'] [Value.ref q, Value.ref q'] from .cons rfl (.cons rfl .nil)) (by rw [hg]; exact .cons rv1 (.cons rv2 .nil)) (Qv := Qv) (fun v r L' F' H' hpo x s' rr => ?_) (fun cls d L' F' H' hx x s' => ?_)) (fun _ _ z => cmpBack_of z) fun _ _ z => z
  · exact q1 v r _ F' H' ⟨L', hpo, rfl⟩ ((x1.tr x2).tr x) s' rr
  · exact q2 cls d _ F' H' ⟨L', hx, rfl⟩ ((x1.tr x2).tr x) s'
/-- an own subscript -/
theorem EM_ixO.{u} {γ : Type u} {arg : γ → List Ent} {cel : γ → List Cell} {pre : γ → Prop} {post : γ → Ent → List Cell → Prop} {exc : γ → Value → Option Addr → List Cell → Prop} (g : γ) (ok : C.Ok k)
    (M : Ms C.X.prog C.X.w C.X.K C.X.mg C.X.base n C0 "__getitem__" (spM C.X.K arg cel pre post exc)) (ha : E C env L a r1) (hb : E C env L b r2) (hg : arg g = [r1, r2]) (hp : pre g) (hL : L.Perm (cel g ++ LR)) (i1 : Seen C L r1 C0) (hj : n + 1 ≤ k := by decide)
    (hs : ∀ x i, subscripted b true (.ref x) i = runValue (.builtin "lifetime.subscript" ⟨[.ref x, i], []⟩) := by intro _ _; with_unfolding_all rfl) : EM C env L (.Subscript a b pos) (enM post g LR) (enX exc g LR) := by
  obtain ⟨f, fd, ps, hM, hfn, hB, Fn⟩ := M.h
  refine ⟨⟨fun pins s σ H Qv I ⟨F, st, q1, q2⟩ => Subscript_ (ha.go I st fun u s1 v F1 H1 I1 ru x1 st1 rv => hb.go I1 st1 fun u2 s2 v2 F2 H2 I2 ru2 x2 st2 rv2 => ?_)⟩⟩
  have rv1 := Ent.mono x2 rv
  obtain ⟨q, dx, fs, rfl, h1⟩ := i1 _ F2 H2 v st2.ow rv1
  obtain rfl : u = Value.ref q := ru
  obtain ⟨ox, od, J, _⟩ := inst_at I2 h1
  obtain ⟨m', hF⟩ := I2.fr
  refine PySem.W.sub_K hF I2.ok.mod.kin J hM.at_ hfn hM.fn ?_ (hs q u2)
  refine wpAny_mono (run_ctr g ok Fn (Sub.in1 (Sub.here ok.room hj)) hB hp hL I2 st2 (show Vals [V.ref q, v2] [Value.ref q, u2] from .cons rfl (.cons ru2 .nil)) (by rw [hg]; exact .cons rv1 (.cons rv2 .nil)) (Qv := Qv) (fun v r L' F' H' hpo x s' rr => ?_) (fun cls d L' F' H' hx x s' => ?_)) (fun _ _ z => z) fun _ _ z => z
  · exact q1 v r _ F' H' ⟨L', hpo, rfl⟩ ((x1.tr x2).tr x) s' rr
  · exact q2 cls d _ F' H' ⟨L', hx, rfl⟩ ((x1.tr x2).tr x) s'
/-- EM that gives one datum and changes nothing -/
theorem EM.toE (h : EM C env L e (fun r' L' => r' = r ∧ L' = L) (fun _ _ _ => False)) : E C env L e r := ⟨PE.imp h.p fun σ H Qv ⟨F, s, q⟩ => ⟨F, s, fun v r' L' F' H' ⟨e1, e2⟩ x s' rv => by subst e1 e2; exact q v F' H' ⟨x⟩ s' rv, fun _ _ _ _ _ z => z.elim⟩⟩
/-- the cells of L in another order -/
theorem E.of_perm {L' : List Cell} (h : E C env L' e r) (p : L'.Perm L) : E C env L e r := ⟨PE.imp h.p fun σ H Qv ⟨F, s, q⟩ => ⟨F, ⟨s.sl, s.ow.perm p⟩, fun v F' H' x s' rv => q v F' H' x ⟨s'.sl, s'.ow.perm p.symm⟩ rv⟩⟩
/-- a lent call leaves the cells -/
theorem EM.lent {γ : Type _} {cel : γ → List Cell} {res : γ → Ent} {g : γ} (hL : L.Perm (cel g ++ LR)) (h : EM C env L e (enM (fun g r L' => r = res g ∧ L' = cel g) g LR) (enX (fun (_ : γ) _ _ _ => False) g LR)) : E C env L e (res g) :=
  ⟨PE.imp h.p fun σ H Qv ⟨F, s, q⟩ => ⟨F, s, fun v r' L' F' H' ⟨L1, ⟨e1, e2⟩, e3⟩ x s' rv => by subst e1 e3 e2; exact q v F' H' ⟨x⟩ ⟨s'.sl, s'.ow.perm hL⟩ rv, fun _ _ _ _ _ ⟨_, z, _⟩ => z.elim⟩⟩
end
/-- isinstance(e, X), X an own class -/
theorem E_isEg {C : Cz} {env : Env} {L : List Cell} {a : Expr} {p p2 pos : Pos} {x : Str} {a0 D0 D1 : Addr} {oe : Obj} {pn : List (Addr × Obj)} {bo : Bool} (T : ExcC C.X.K D0) (hz : Zc (.ref D0) none oe) (hf : ∃ vs, oe.data = .fields vs) (hk : PySem.W.kitOne C.X.K (.ref D0) (.ref D1) = some bo) (he : E (C.suite a0 oe pn) env L a ⟨(Exn.mk a0)⟩)
    (hx : C.X.mg x = some (.ref D1)) (hm : C.X.mg "isinstance" = none) (hgx : Gl (C.suite a0 oe pn).X x := by rfl) (hdx : (x == ("__debug__" : Str)) = false := by decide) (hg : Gl (C.suite a0 oe pn).X "isinstance" := by rfl) (hst : starEach [a, .Name x p2] (C.suite a0 oe pn).X.env = (false, eval a (C.suite a0 oe pn).X.env) :: starEach [.Name x p2] (C.suite a0 oe pn).X.env := by rfl) (hpl : (backTo pos (starEach [.Name x p2] (C.suite a0 oe pn).X.env)).any (·.1) = false := by rfl) :
    E (C.suite a0 oe pn) env L (.Call (.Name "isinstance" p) [a, .Name x p2] [] pos) ⟨bo⟩ := E_isE T hz hf hk he (pe_glob (v := V.ref D1) hgx hx rfl hdx) (fun _ z => z) hm hg hst rfl hpl
/-- isinstance(e, X), X a built-in class -/
theorem E_isEb {C : Cz} {env : Env} {L : List Cell} {a : Expr} {p p2 pos : Pos} {x : Str} {a0 D0 : Addr} {Y : String} {oe : Obj} {pn : List (Addr × Obj)} {bo : Bool} (T : ExcC C.X.K D0) (hz : Zc (.ref D0) none oe) (hf : ∃ vs, oe.data = .fields vs) (hk : PySem.W.kitOne C.X.K (.ref D0) (.type Y) = some bo) (he : E (C.suite a0 oe pn) env L a ⟨(Exn.mk a0)⟩)
    (hx : C.X.mg x = none) (hv : bootBuiltins x = some (.type Y)) (hm : C.X.mg "isinstance" = none) (hn : x ≠ "__name__" := by decide) (hgx : Gl (C.suite a0 oe pn).X x := by rfl) (hdx : (x == ("__debug__" : Str)) = false := by decide) (hg : Gl (C.suite a0 oe pn).X "isinstance" := by rfl) (hst : starEach [a, .Name x p2] (C.suite a0 oe pn).X.env = (false, eval a (C.suite a0 oe pn).X.env) :: starEach [.Name x p2] (C.suite a0 oe pn).X.env := by rfl) (hpl : (backTo pos (starEach [.Name x p2] (C.suite a0 oe pn).X.env)).any (·.1) = false := by rfl) :
    E (C.suite a0 oe pn) env L (.Call (.Name "isinstance" p) [a, .Name x p2] [] pos) ⟨bo⟩ := E_isE (y := V.ty Y) T hz hf hk he (pe_bltn (v := .ty Y) hgx hx hv rfl hn hdx) (fun _ z => z) hm hg hst rfl hpl
/-! ### more facts of the head -/
def excCB (x : Str) (K : PySem.W.Frag) : Bool := He.eqO (PySem.W.findIn K (.ref (He.ga K x)) "__getattribute__") (some (some (.builtin "BaseException.__getattribute__"))) && (He.eqO (PySem.W.findIn K (.ref (He.ga K x)) "__getattr__") (some none) && (decide (PySem.W.subIn K (.ref (He.ga K x)) (.type "BaseException") = some true) && (PySem.W.hasDictIn K (He.ga K x) &&
  (He.eqO (PySem.W.findIn K (.ref (He.ga K x)) "__class__") (some (some (.builtin "object.__class__"))) && (He.eqO (PySem.W.specialIn K (.builtin "object.__class__") "__get__") (some (some (.builtin "getset_descriptor.__get__"))) && (decide (PySem.W.takesIn K (.builtin "object.__class__") = some true) && decide (PySem.W.mroIn K (He.ga K x) (.type "object") = some true)))))))
theorem excCB_ok {x : Str} {K : PySem.W.Frag} (c : excCB x K = true) : ExcC K (He.ga K x) := by
  obtain ⟨c1, c⟩ := He.ba c
  obtain ⟨c2, c⟩ := He.ba c
  obtain ⟨c3, c⟩ := He.ba c
  obtain ⟨c4, c⟩ := He.ba c
  obtain ⟨c5, c⟩ := He.ba c
  obtain ⟨c6, c⟩ := He.ba c
  obtain ⟨c7, c8⟩ := He.ba c
  exact ⟨He.eqO_ok c1, He.eqO_ok c2, of_decide_eq_true c3, c4, He.eqO_ok c5, He.eqO_ok c6, of_decide_eq_true c7, of_decide_eq_true c8⟩
def kitOB (x y : Str) (b : Bool) (K : PySem.W.Frag) : Bool := decide (PySem.W.kitOne K (.ref (He.ga K x)) (.ref (He.ga K y)) = some b)
theorem kitOB_ok {x y : Str} {b : Bool} {K : PySem.W.Frag} (c : kitOB x y b K = true) : PySem.W.kitOne K (.ref (He.ga K x)) (.ref (He.ga K y)) = some b := of_decide_eq_true c
def kitTB (x : Str) (y : String) (b : Bool) (K : PySem.W.Frag) : Bool := decide (PySem.W.kitOne K (.ref (He.ga K x)) (.type y) = some b)
theorem kitTB_ok {x : Str} {y : String} {b : Bool} {K : PySem.W.Frag} (c : kitTB x y b K = true) : PySem.W.kitOne K (.ref (He.ga K x)) (.type y) = some b := of_decide_eq_true c
end Py

namespace Py
open PySem PySem.Spec PyProof.Rows L2
theorem boot_intx : bootBuiltins "int" = some (.type "int") := by decide +kernel
theorem boot_strx : bootBuiltins "str" = some (.type "str") := by decide +kernel
section
variable {C : Cz} {k : Nat} {env : Env} {L : List Cell} {a b : Expr} {es : List Expr} {p pos : Pos}
/-- (a, b, ..), of one kind -/
theorem E_tupL {α : Type} [Rep α] (as : List α) {kt} (h : A C env L es (EntsOf as)) (hz : as.length ≤ sizeLine := by decide) : E C env L (.Tuple es kt pos) ⟨(Tup.mk as)⟩ := ⟨PE.imp (pe_tup h.p) fun σ H Q ⟨F, s, q⟩ => ⟨F, s, fun vs F1 H1 x1 s1 rv => by
  have rv := Pr.ofEnts rv
  exact ⟨by rw [rv.length]; exact hz, fun l hn => q _ _ _ (x1.tr (Gro.new s1.ow.fH hn).w) (s1.gro (Gro.new s1.ow.fH hn)) ⟨l, vs, rfl, Or.inl (Or.inl upd_same), rv.imp fun _ _ => Rep.mono (Ex.new (Ex.free s1.ow.fH hn)), hz⟩⟩⟩⟩
def rIsET (K : PySem.W.Frag) (D a : Addr) : List V → Hp → VK → Prop := fun xs H Q => ∃ (tp : Addr) (cs : List Addr) (b : Bool), xs = [.ref a, .ref tp] ∧ SqT K H tp (cs.map V.ref) ∧ PySem.W.kitAny K (.ref D) (cs.map Value.ref) = some b ∧ Q (.bl b) H
theorem vals_refs : ∀ {cs : List Addr} {us : List Value}, Vals (cs.map V.ref) us → us = cs.map Value.ref
  | [], _, .nil => rfl
  | c :: cs, u :: us, .cons h t => by
    have h : u = Value.ref c := h
    rw [h, vals_refs t]; rfl
theorem call_isET {X : Cx} {a D : Addr} {oe : Obj} {pn : List (Addr × Obj)} (T : ExcC X.K D) (hz : Zc (.ref D) none oe) (hf : ∃ vs, oe.data = .fields vs) : CallR (X.suite a ((a, oe) :: pn)) (.builtin "isinstance") (rIsET X.K D a) := by
  intro pins s σ H xs us Q I r h
  obtain ⟨tp, cs, b, rfl, hT, e, q⟩ := h
  obtain ⟨u1, u2, rfl, r1, r2⟩ := vals2 r
  cases (show u2 = Value.ref tp from r2)
  cases (show u1 = Value.ref a from r1)
  obtain ⟨hget, _⟩ := I.pin (a, oe) (List.mem_append.mpr (.inl List.mem_cons_self))
  obtain ⟨vs, hv⟩ := hf
  have J : PySem.W.InstAt s.heap a oe D none := by
    obtain ⟨oc, od, oda, osl⟩ := oe
    obtain ⟨h1, h2⟩ := hz
    dsimp only at h1 h2 hv
    subst h1 h2 hv
    exact ⟨hget, rfl, rfl, trivial⟩
  obtain ⟨its, rv, ⟨o, ho, hc, n, hd⟩, _⟩ := I.tuple hT
  rw [← vals_refs rv] at e
  obtain ⟨oc, od, dt, sl⟩ := o
  simp only at hc hd
  subst hc hd
  exact PySem.W.kia_tup (PySem.W.handS_kitx_exc T.hg T.hk T.hs T.hd T.ha T.hn T.ht T.hm) I.kIn J ho e (fun z => nomatch z) fun tk => ⟨.bl b, H, I.kept (t' := tk) fun _ _ z => z, rfl, q⟩
theorem Pr.ats {K F} : ∀ {vs : List V} {as : List At}, Pr (Rep.rp K F) vs as → vs = (as.map At.p).map V.ref
  | _, _, .nil => rfl
  | _, _, .cons h t => by rw [show _ = V.ref _ from h, Pr.ats t]; rfl
/-- isinstance(e, (X, Y, ..)) in a suite -/
theorem E_isET {a0 D0 : Addr} {oe : Obj} {pn : List (Addr × Obj)} {cs : List At} {bo : Bool} (T : ExcC C.X.K D0) (hz : Zc (.ref D0) none oe) (hf : ∃ vs, oe.data = .fields vs) (hk : PySem.W.kitAny C.X.K (.ref D0) ((cs.map At.p).map Value.ref) = some bo) (he : E (C.suite a0 oe pn) env L a ⟨(Exn.mk a0)⟩)
    (hc : E (C.suite a0 oe pn) env L b ⟨(Tup.mk cs)⟩) (hm : C.X.mg "isinstance" = none) (hg : Gl (C.suite a0 oe pn).X "isinstance" := by rfl) (hst : starEach [a, b] (C.suite a0 oe pn).X.env = (false, eval a (C.suite a0 oe pn).X.env) :: starEach [b] (C.suite a0 oe pn).X.env := by rfl) (hst2 : starEach [b] (C.suite a0 oe pn).X.env = (false, eval b (C.suite a0 oe pn).X.env) :: starEach [] (C.suite a0 oe pn).X.env := by rfl) (hpl : (backTo pos (starEach [b] (C.suite a0 oe pn).X.env)).any (·.1) = false := by rfl) :
    E (C.suite a0 oe pn) env L (.Call (.Name "isinstance" p) [a, b] [] pos) ⟨bo⟩ := by
  have h := call_isET (X := C.X) (a := a0) (pn := pn) T hz hf
  refine ⟨PE.imp (pe_callB (X := (C.suite a0 oe pn).X) h hg hm boot_isinst (A_cons he (A_cons hc A_nil hst2) hst).p (by decide) (by decide) hst hpl) fun σ H Q ⟨F, s, q⟩ => ⟨F, s, fun vs F1 H1 x1 s1 rv => ?_⟩⟩
  obtain ⟨v, w, rfl, h1, h2⟩ := two_arg rv
  have h1 : v = V.ref a0 := h1
  obtain ⟨tp, ws, rfl, g1, g2, _⟩ := h2
  rw [Pr.ats g2] at g1
  subst h1
  exact ⟨tp, _, bo, rfl, ex_t s1.ow.fH g1, hk, q _ F1 H1 x1 s1 rfl⟩
end
def kitAB (x : Str) (ys : List Str) (b : Bool) (K : PySem.W.Frag) : Bool := decide (PySem.W.kitAny K (.ref (He.ga K x)) (ys.map fun y => Value.ref (He.ga K y)) = some b)
theorem kitAB_ok {x : Str} {ys : List Str} {b : Bool} {K : PySem.W.Frag} (c : kitAB x ys b K = true) : PySem.W.kitAny K (.ref (He.ga K x)) (ys.map fun y => Value.ref (He.ga K y)) = some b := of_decide_eq_true c
end Py

namespace Py
open PySem PySem.Spec PyProof.Rows L2
/-! ### for, in a generator -/
section
variable {M : Model} {A : Around} {R : GenEnd} {Y : Protocol} {n : Nat} {s₀ : Shared} {c : Code} {fs : List Frame} {s : Shared} {env : PySem.Env}
theorem seg_bw {α β : Type} {m : Sem α} {f : α → Sem β} {K : β → Sem PySem.Fin} {J : Value → Sem PySem.Fin} {gd : Bool → Bool} {lv : List Value → List Value}
    (h : wpAny M (A.over c fs) m (fun v s' => Seg M A R Y n s₀ c ((f v).wrap K J gd lv) fs s') (fun x s' => Seg M A R Y n s₀ c (J x) fs s') s) : Seg M A R Y n s₀ c ((m >>= f).wrap K J gd lv) fs s := by
  rw [Sem.bind_eq_wrap', Sem.wrap_wrap]
  exact seg_wrap (wpAny_mono h (fun _ _ z => z) fun _ _ z => z)
/-- a loop's errors -/
abbrev NH (env : PySem.Env) : Value → Sem PySem.Fin := fun e => (do noteFrame e env; theTreesLotGoes e : Sem Unit).wrap (fun _ => .raise e) .raise id id
theorem seg_For {target iter : Expr} {body orelse : List Stmt} {pos : Pos} {K : Flow → Sem PySem.Fin} {J : Value → Sem PySem.Fin} {gd : Bool → Bool} {lv : List Value → List Value}
    (h : wpAny M (A.over c fs) (eval iter env) (fun v s1 => wpAny M (A.over c fs) (pyIter v) (fun it s2 => ∀ p, Seg M A R Y n s₀ (.forLoop target it body orelse env) (M.den (.forLoop target it body orelse env))
      (.ret (fun r => ((match r with | .ok f => (.pure f : Sem Flow) | .error e => .raise e).onRaise (cameBack env)).wrap K J gd lv) none (gd false) (lv []) c p [] :: fs) s2) (fun x s' => Seg M A R Y n s₀ c (J x) fs s') s1) (fun x s' => Seg M A R Y n s₀ c (J x) fs s') s)
    (hs : ∀ x, foldedSetIterable iter env x = pure x) : Seg M A R Y n s₀ c ((exec (.For target iter body orelse pos) env).wrap K J gd lv) fs s := by
  rw [exec_For]
  refine seg_bw (wpAny_standAt ?_)
  refine seg_bw (wpAny_mono h (fun v s1 h1 => ?_) fun _ _ z => z)
  refine seg_bw (wpAny_of_eq (hs v) ?_)
  refine seg_bw (wpAny_standAt ?_)
  refine seg_bw (wpAny_holding (wpAny_mono h1 (fun it s2 h2 => ?_) fun _ _ z => z))
  exact seg_call h2
end
section
variable {prog : Program} {w : World} {A : Around} {R : GenEnd} {Y : Protocol} {n : Nat} {s₀ : Shared} {fs : List Frame} {s : Shared} {env : PySem.Env}
theorem seg_noted {α : Type} {m : Sem α} {f : α → PySem.Fin} {c : Code} (h : Seg (model prog w) A R Y n s₀ c (m.wrap (fun v => .pure (f v)) (NH env) id id) fs s) :
    Seg (model prog w) A R Y n s₀ c ((m.onRaise (fun x => do noteFrame x env; theTreesLotGoes x)) >>= fun v => pure (f v)) fs s := by
  rw [Sem.onRaise_eq_wrap, Sem.bind_eq_wrap', Sem.wrap_wrap]
  refine Eq.mp (congrArg (fun t => Seg (model prog w) A R Y n s₀ c t fs s) (Eq.symm ?_)) h
  exact Sem.wrap_congr m id id (fun _ => rfl) (fun e => by rw [Sem.bind_eq_wrap, Sem.wrap_wrap]; rfl)
theorem seg_block {body : List Stmt} (h : Seg (model prog w) A R Y n s₀ (.block body env) ((execs body env).wrap (fun f => .pure (.done f)) (NH env) id id) fs s) :
    Seg (model prog w) A R Y n s₀ (.block body env) ((model prog w).den (.block body env)) fs s := by
  show Seg _ A R Y n s₀ _ (((execs body env).onRaise (fun x => do noteFrame x env; theTreesLotGoes x)) >>= fun f => pure (PySem.Fin.done f)) fs s
  exact seg_noted h
theorem seg_forLoop {target : Expr} {it : Value} {body orelse : List Stmt}
    (h : wpAny (model prog w) (A.over (.forLoop target it body orelse env) fs) (pyNext it) (fun r s1 => match r with
        | none => Seg (model prog w) A R Y n s₀ (.forLoop target it body orelse env) (.pure (.again (.block orelse env))) fs s1
        | some v => wpAny (model prog w) (A.over (.forLoop target it body orelse env) fs) (letOwnedTupleGo target it v) (fun _ s1' => wpAny (model prog w) (A.over (.forLoop target it body orelse env) fs) (assign target env v) (fun _ s2 =>
          Seg (model prog w) A R Y n s₀ (.forLoop target it body orelse env) ((execs body env).wrap (fun f => match f with
            | .next | .cont => .pure (.again (.forLoop target it body orelse env))
            | .brk => .pure (.done .next)
            | .ret v => .pure (.done (.ret v))) (NH env) id id) fs s2) (fun x s' => Seg (model prog w) A R Y n s₀ (.forLoop target it body orelse env) (NH env x) fs s') s1') (fun x s' => Seg (model prog w) A R Y n s₀ (.forLoop target it body orelse env) (NH env x) fs s') s1)
      (fun x s' => Seg (model prog w) A R Y n s₀ (.forLoop target it body orelse env) (NH env x) fs s') s) :
    Seg (model prog w) A R Y n s₀ (.forLoop target it body orelse env) ((model prog w).den (.forLoop target it body orelse env)) fs s := by
  show Seg _ A R Y n s₀ _ ((forTurn target it body orelse env).onRaise (fun x => do noteFrame x env; theTreesLotGoes x)) fs s
  rw [Sem.onRaise_eq_wrap]
  rw [Sem.wrap_congr (forTurn target it body orelse env) _ _ (K' := fun v => (.pure v : Sem PySem.Fin)) (H' := NH env) (fun _ => rfl) (fun e => by first | rfl | exact Sem.bind_eq_wrap _ _)]
  unfold forTurn
  refine seg_bw (wpAny_standAt ?_)
  refine seg_bw (wpAny_onRaise (wpAny_mono h (fun r s1 h1 => ?_) fun _ _ z => wpAny_standAt z))
  cases r with
  | none => exact h1
  | some v =>
    refine seg_bw (wpAny_mono h1 (fun _ s1' h2 => ?_) fun _ _ z => z)
    refine seg_bw (wpAny_mono h2 (fun _ s2 h3 => ?_) fun _ _ z => z)
    rw [Sem.bind_eq_wrap', Sem.wrap_wrap]
    rw [Sem.wrap_congr (execs body env) _ _ (K' := fun f => match f with
            | .next | .cont => .pure (.again (.forLoop target it body orelse env))
            | .brk => .pure (.done .next)
            | .ret v => .pure (.done (.ret v))) (H' := NH env) (fun f => by cases f <;> rfl) (fun e => by first | rfl | exact Sem.bind_eq_wrap _ _)]
    exact h3
end
section
variable {X : Cx}
def tGFor (wi : TI) (g : TG) (tb : TGn) : TGn := fun D ys σ H => wi σ H fun J H1 => ∃ W : Nat → Nat → List V → L2.St → Hp → Prop, (∃ m, W 0 m ys σ H1) ∧ ∀ i m ys σ H, W i m ys σ H →
  (J.stop i H ∧ D.nx ys σ H) ∨ (J.go i H ∧ ∃ N : List V → L2.St → Hp → Prop, (∀ ys' σ' H', N ys' σ' H' → ∃ m', m' < m ∧ W (i + 1) m' ys' σ' H') ∧ ∀ x H', J.yld i H x H' → g x σ H' fun σ2 H2 => tb { D with nx := N, ct := N, bk := D.nx } ys σ2 H2)
theorem gs_for {target iter : Expr} {body : List Stmt} {pos : Pos} {wi : TI} {g : TG} {tb : TGn} (hp : PassesOwn (model X.prog X.w) X.A X.env X.xe) (hc : X.calm = true) (hi : PI X target iter wi) (hg : PG X target g) (hb : GSs X body tb) (hs : ∀ x, foldedSetIterable iter X.env x = pure x) : GS X (.For target iter body [] pos) (tGFor wi g tb) := by
  refine ⟨fun A S ip R n ys s₀ c fs K J gd lv s σ H D gc hn k hI ht => ?_⟩
  obtain ⟨acc, cc, r, I⟩ := hI
  refine seg_For ?_ hs
  rw [gc.over]
  refine wpAny_mono (hi.run _ s σ H _ I ht) (fun v s1 h1 => wpAny_mono h1 (fun itv s2 h2 => ?_) fun x s' hx => k.exc n s₀ x s' hx) fun x s' hx => k.exc n s₀ x s' hx
  obtain ⟨it, fp, tn, Jt, H2, rfl, I2, T, st2, f2, W, ⟨m0, w0⟩, turn⟩ := h2
  intro p
  have gl := fun (kk : Result → Sem PySem.Fin) => gc_loop (k := kk) (c' := .forLoop target (.ref it) body [] X.env) (l := lv []) (kp := []) (p := p) gc rfl rfl
  have hS : ∀ b ∈ fp, b ≠ S := fun b hb z => (f2 b hb).2.2.2.2.2 (S, lstObj acc cc) (List.mem_append_right _ List.mem_cons_self) z.symm
  have stat : ∀ {H' : Hp} {o : Obj}, (∀ b ∈ fp, H' b = none) → ∀ b ∈ fp, FpOk X ((S, o) :: ip) H' b := fun hn b hb => by
    obtain ⟨_, g1, g2, g3, g4, g5⟩ := f2 b hb
    refine ⟨hn b hb, g1, g2, g3, g4, fun q hq => ?_⟩
    rcases List.mem_append.mp hq with hq | hq
    · exact g5 q (List.mem_append_left _ hq)
    · rcases List.mem_cons.mp hq with rfl | hq
      · exact fun z => hS b hb z.symm
      · exact g5 q (List.mem_append_right _ (List.mem_cons_of_mem _ hq))
  have loop : ∀ (m i n : Nat) (ys : List V) (s₀ s : Shared) (σ : L2.St) (H : Hp), n + ys.length = sizeLine → W i m ys σ H → GI X S ip ys σ H s → tn i s.heap → (∀ b ∈ fp, H b = none) →
      Seg (model X.prog X.w) A R (GY X S) n s₀ (.forLoop target (.ref it) body [] X.env) ((model X.prog X.w).den (.forLoop target (.ref it) body [] X.env))
        (.ret (fun r => ((match r with | .ok f => (.pure f : Sem Flow) | .error e => .raise e).onRaise (cameBack X.env)).wrap K J gd lv) none (gd false) (lv []) c p [] :: fs) s := by
    intro m
    induction m using Nat.strongRecOn with
    | ind m ih =>
      intro i n ys s₀ s σ H hn w hI st fr
      have ee : ∀ (n : Nat) (s₀ : Shared) (x : Value) (s' : Shared), X.xe x s' → Seg (model X.prog X.w) A R (GY X S) n s₀ (.forLoop target (.ref it) body [] X.env) (NH X.env x)
          (.ret (fun r => ((match r with | .ok f => (.pure f : Sem Flow) | .error e => .raise e).onRaise (cameBack X.env)).wrap K J gd lv) none (gd false) (lv []) c p [] :: fs) s' := fun n s₀ x s' hx => by
        refine seg_wrap ?_
        rw [(gl _).over]
        refine wpAny_bind (wpAny_mono (hp x s' hx) (fun _ s'' hcb => wpAny_theTreesLotGoes ?_) fun y s'' hcb => ?_)
        · exact seg_leaf (.error x) (seg_cameBack gc k hcb)
        · exact seg_leaf (.error y) (seg_cameBack gc k hcb)
      refine seg_forLoop ?_
      rw [(gl _).over]
      obtain ⟨acc, cc, r, I⟩ := hI
      rcases turn i m ys σ H w with ⟨stop, qn⟩ | ⟨go, N, hN, step⟩
      · refine wpAny_mono (T.done X rfl rfl rfl hc i _ s σ H X.xe I (stat fr) st stop) (fun q s4 ⟨hr, I4⟩ => ?_) fun x s' hx => ee n s₀ x s' hx
        subst hr
        exact seg_again rfl (seg_block (seg_execs_nil (seg_leaf (.ok .next) (k.ok n ys s₀ s4 .next hn ⟨σ, H, ⟨acc, cc, r, I4⟩, qn⟩))))
      · refine wpAny_mono (T.item X rfl rfl rfl hc i _ s σ H X.xe I (stat fr) st go) (fun q s4 ⟨u, hr, h4⟩ => ?_) fun x s' hx => ee n s₀ x s' hx
        subst hr
        refine wpAny_mono h4 (fun _ s5 ⟨x, H5, I5, r5, y5, st5, fr5⟩ => ?_) fun x s' hx => ee n s₀ x s' hx
        have I5' : L2.Inv X ((S, lstObj acc cc) :: (ip ++ pinsAt fp s5.heap)) σ H5 s5 := I5.pinned (stat fr5) (T.obj _ _ st5)
        refine wpAny_mono (hg.run _ s5 σ H5 x u _ I5' r5 (step x H5 y5)) (fun _ s6 ⟨σ6, H6, I6, q6⟩ => ?_) fun x s' hx => ee n s₀ x s' hx
        have gc2 : GC X S (ip ++ pinsAt fp s5.heap) A (.forLoop target (.ref it) body [] X.env) (.ret (fun r => ((match r with | .ok f => (.pure f : Sem Flow) | .error e => .raise e).onRaise (cameBack X.env)).wrap K J gd lv) none (gd false) (lv []) c p [] :: fs) id := by
          have g0 := gl (fun r => ((match r with | .ok f => (.pure f : Sem Flow) | .error e => .raise e).onRaise (cameBack X.env)).wrap K J gd lv)
          refine ⟨g0.pn, fun q hq => ?_, g0.apart, g0.over, g0.split, g0.guard, g0.gd⟩
          rcases List.mem_append.mp hq with hq | hq
          · exact g0.ip q hq
          · exact hS q.1 (of_pinsAt hq).1
        refine hb.run A S (ip ++ pinsAt fp s5.heap) R n ys s₀ _ _ _ _ id id s6 σ6 H6 { D with nx := N, ct := N, bk := D.nx } gc2 hn ⟨fun n' ys' s₀' s7 f hn' hs => ?_, fun n' s₀' x s3 hx => ee n' s₀' x s3 hx⟩ ⟨acc, cc, r, I6⟩ q6
        have un : ∀ {ys7 : List V} {σ7 : L2.St} {H7 : Hp}, GI X S (ip ++ pinsAt fp s5.heap) ys7 σ7 H7 s7 → GI X S ip ys7 σ7 H7 s7 ∧ tn (i + 1) s7.heap ∧ ∀ b ∈ fp, H7 b = none := fun {ys7 σ7 H7} ⟨acc7, cc7, r7, I7⟩ => by
          have I8 : L2.Inv X (((S, lstObj acc7 cc7) :: ip) ++ pinsAt fp s5.heap) σ7 H7 s7 := I7
          refine ⟨⟨acc7, cc7, r7, I8.unpinned⟩, T.keep _ _ _ st5 fun b hb o e => (I8.pin (b, o) (List.mem_append_right _ (List.mem_append_right _ (mem_pinsAt hb e)))).1, fun b hb => ?_⟩
          obtain ⟨o, e, d⟩ := T.obj _ _ st5 b hb
          exact (I8.pin (b, o) (List.mem_append_right _ (List.mem_append_right _ (mem_pinsAt hb e)))).2.1
        cases f with
        | next =>
          obtain ⟨σ3, H3, G3, n3⟩ := hs
          obtain ⟨m', hm, w3⟩ := hN ys' σ3 H3 n3
          obtain ⟨g1, g2, g3⟩ := un G3
          exact seg_again rfl (ih m' hm (i + 1) n' ys' s₀' s7 σ3 H3 hn' w3 g1 g2 g3)
        | cont =>
          obtain ⟨σ3, H3, G3, n3⟩ := hs
          obtain ⟨m', hm, w3⟩ := hN ys' σ3 H3 n3
          obtain ⟨g1, g2, g3⟩ := un G3
          exact seg_again rfl (ih m' hm (i + 1) n' ys' s₀' s7 σ3 H3 hn' w3 g1 g2 g3)
        | brk =>
          obtain ⟨σ3, H3, G3, n3⟩ := hs
          exact seg_leaf (.ok .next) (k.ok n' ys' s₀' s7 .next hn' ⟨σ3, H3, (un G3).1, n3⟩)
        | ret v =>
          obtain ⟨x7, σ3, H3, G3, rv3, n3⟩ := hs
          exact seg_leaf (.ok (.ret v)) (k.ok n' ys' s₀' s7 (.ret v) hn' ⟨x7, σ3, H3, (un G3).1, rv3, n3⟩)
  exact loop m0 0 n ys s₀ s2 σ H2 hn w0 ⟨acc, cc, r, I2⟩ st2 fun b hb => (f2 b hb).1
end
end Py

namespace Py
open PySem PySem.Spec PyProof.Rows L2
/-! ### generators, typed -/
theorem GSs.imp {X : Cx} {e : List Stmt} {t t' : TGn} (h : GSs X e t) (i : ∀ D ys σ H, t' D ys σ H → t D ys σ H) : GSs X e t' := ⟨fun A S ip R n ys s₀ c fs K J gd lv s σ H D g hn k hI ht => h.run A S ip R n ys s₀ c fs K J gd lv s σ H D g hn k hI (i D ys σ H ht)⟩
theorem GS.imp {X : Cx} {e : Stmt} {t t' : TGn} (h : GS X e t) (i : ∀ D ys σ H, t' D ys σ H → t D ys σ H) : GS X e t' := ⟨fun A S ip R n ys s₀ c fs K J gd lv s σ H D g hn k hI ht => h.run A S ip R n ys s₀ c fs K J gd lv s σ H D g hn k hI (i D ys σ H ht)⟩
theorem GSs.ex {X : Cx} {e : List Stmt} {ι : Type 1} {p : ι → Prop} {t : ι → TGn} (h : ∀ i, p i → GSs X e (t i)) : GSs X e (fun D ys σ H => ∃ i, p i ∧ t i D ys σ H) := ⟨fun A S ip R n ys s₀ c fs K J gd lv s σ H D g hn k hI ⟨i, hp, ht⟩ => (h i hp).run A S ip R n ys s₀ c fs K J gd lv s σ H D g hn k hI ht⟩
theorem gs_if {X : Cx} {test : Expr} {b1 b2 : List Stmt} {pos : Pos} {tc : TT} {t1 t2 : TGn} (hc : PT X test tc) (h1 : GSs X b1 t1) (h2 : GSs X b2 t2) : GS X (.If test b1 b2 pos) (fun D ys σ H => tc σ H fun b H' => if b = true then t1 D ys σ H' else t2 D ys σ H') := by
  refine ⟨fun A S ip R n ys s₀ c fs K J gd lv s σ H D g hn k hI ht => ?_⟩
  obtain ⟨acc, cc, r, I⟩ := hI
  show Seg _ _ _ _ _ _ _ ((standAt pos >>= fun _ => isTrue test X.env (eval test X.env) >>= fun b => if b = true then execs b1 X.env else execs b2 X.env).wrap K J gd lv) fs s
  refine seg_bw (wpAny_standAt ?_)
  refine seg_bw ?_
  rw [g.over]
  refine wpAny_mono (hc.run _ s σ H _ I ht) (fun b s' ⟨H2, I2, q2⟩ => ?_) fun x s' hx => k.exc n s₀ x s' hx
  cases b with
  | true =>
    rw [if_pos rfl] at q2 ⊢
    exact h1.run A S ip R n ys s₀ c fs K J gd lv s' σ H2 D g hn k ⟨acc, cc, r, I2⟩ q2
  | false =>
    rw [if_neg Bool.false_ne_true] at q2 ⊢
    exact h2.run A S ip R n ys s₀ c fs K J gd lv s' σ H2 D g hn k ⟨acc, cc, r, I2⟩ q2
abbrev GQ (β : Type) := List β → Env → List Cell → Prop
def sG {β : Type} [Rep β] (C : Cz) (env : Env) (L : List Cell) (zs : List β) (Q : GQ β) : TGn := fun D ys σ H => ∃ F, Sta C F env L σ H ∧ Pr (Rep.rp C.X.K F) ys zs ∧ ∀ zs' env' L' ys' σ' F' H', Q zs' env' L' → Ex F F' → Sta C F' env' L' σ' H' → Pr (Rep.rp C.X.K F') ys' zs' → D.nx ys' σ' H'
structure SG1 {β : Type} [Rep β] (C : Cz) (env : Env) (L : List Cell) (zs : List β) (st : Stmt) (Q : GQ β) : Prop where
  p : GS C.X st (sG C env L zs Q)
structure SG {β : Type} [Rep β] (C : Cz) (env : Env) (L : List Cell) (zs : List β) (sts : List Stmt) (Q : GQ β) : Prop where
  p : GSs C.X sts (sG C env L zs Q)
section
variable {β : Type} [Rep β] {C : Cz} {k : Nat} {env env' : Env} {L : List Cell} {zs : List β} {e c tg iter : Expr} {pos yp : Pos} {Q : GQ β} {st : Stmt} {rest body : List Stmt}
theorem SG_nil (h : Q zs env L) : SG C env L zs [] Q := ⟨GSs.imp gss_nil fun D ys σ H ⟨F, s, pr, n⟩ => n zs env L ys σ F H h (Ex.rf F) s pr⟩
theorem SG_cons (h : SG1 C env L zs st (fun zs' env' L' => SG C env' L' zs' rest Q)) : SG C env L zs (st :: rest) Q :=
  ⟨GSs.imp (gss_cons h.p (GSs.ex (ι := ULift.{1} (List β) × Env × List Cell) (p := fun z => SG C z.2.1 z.2.2 z.1.down rest Q) (t := fun z => sG C z.2.1 z.2.2 z.1.down Q) fun z hz => hz.p)) fun D ys σ H ⟨F, s, pr, n⟩ =>
    ⟨F, s, pr, fun zs' env' L' ys' σ' F' H' hq x s' pr' => ⟨(⟨zs'⟩, env', L'), hq, F', s', pr', fun zs2 env2 L2 ys2 σ2 F2 H2 hq2 x2 s2 pr2 => n zs2 env2 L2 ys2 σ2 F2 H2 hq2 (x.tr x2) s2 pr2⟩⟩⟩
theorem SG_yield {y : β} (he : E C env L e ⟨y⟩) (hz : zs.length < sizeLine) (h : Q (zs ++ [y]) env L) (hco : C.X.env.scope.isCoroutine = false := by rfl) (hi : interactive C.X.env = false := by rfl) : SG1 C env L zs (.Expr (.Yield (some e) yp) pos) Q :=
  ⟨GS.imp (gs_yield he.p hco hi) fun D ys σ H ⟨F, s, pr, n⟩ => ⟨by rw [pr.length]; exact hz, F, s, fun v F' H' x s' rv => n (zs ++ [y]) env L (ys ++ [v]) σ F' H' h x.f s' ((pr.imp fun _ _ => Rep.mono x.f).append (.cons rv .nil))⟩⟩
theorem SG_if {bo : Bool} {as bs : List Stmt} (hc : T C env L c bo) (h1 : bo = true → SG C env L zs as Q) (h2 : bo = false → SG C env L zs bs Q) : SG1 C env L zs (.If c as bs pos) Q := by
  cases bo with
  | true => exact ⟨GS.imp (gs_if hc.p (h1 rfl).p (GSs.ex (ι := PUnit) (p := fun _ => False) (t := fun _ => tG0) fun _ z => z.elim)) fun D ys σ H ⟨F, s, pr, n⟩ => ⟨F, s, fun F' H' x s' => by
      show (if true = true then _ else _)
      rw [if_pos rfl]
      exact ⟨F', s', pr.imp fun _ _ => Rep.mono x.f, fun zs2 env2 L2 ys2 σ2 F2 H2 hq2 x2 s2 pr2 => n zs2 env2 L2 ys2 σ2 F2 H2 hq2 (x.f.tr x2) s2 pr2⟩⟩⟩
  | false => exact ⟨GS.imp (gs_if hc.p (GSs.ex (ι := PUnit) (p := fun _ => False) (t := fun _ => tG0) fun _ z => z.elim) (h2 rfl).p) fun D ys σ H ⟨F, s, pr, n⟩ => ⟨F, s, fun F' H' x s' => by
      show (if false = true then _ else _)
      rw [if_neg Bool.false_ne_true]
      exact ⟨F', s', pr.imp fun _ _ => Rep.mono x.f, fun zs2 env2 L2 ys2 σ2 F2 H2 hq2 x2 s2 pr2 => n zs2 env2 L2 ys2 σ2 F2 H2 hq2 (x.f.tr x2) s2 pr2⟩⟩⟩
theorem PGx {X : Cx} {e : Expr} {ι : Type 1} {p : ι → Prop} {t : ι → TG} (h : ∀ i, p i → PG X e (t i)) : PG X e (fun v σ H Q => ∃ i, p i ∧ t i v σ H Q) := PG.ex h
theorem SG_for {α : Type} [Rep α] {as : List α} {L0 : List Cell} (ok : C.Ok k) (Inv : Nat → GQ β) (hi : EIO C env L L0 tg iter as) (h0 : Inv 0 zs env L)
    (hs : ∀ i a zs' env' L', as[i]? = some a → Inv i zs' env' L' → ∃ env2 js, G C env' L' tg ⟨a⟩ env2 js ∧ SG C env2 L' zs' body (Inv (i + 1)))
    (hd : ∀ zs' env' L', Inv as.length zs' env' L' → Q zs' env' L') (hf : ∀ x, foldedSetIterable iter C.X.env x = pure x := by intro _; rfl) (hh : ∀ i zs' env' L', Inv i zs' env' L' → ∀ c ∈ L0, c ∈ L' := by intro _ _ _ _ _ c hc; cases hc) : SG1 C env L zs (.For tg iter body [] pos) Q := by
  refine ⟨GS.imp (gs_for ok.po ok.calm hi.p
    (PG.ex (ι := ULift.{1} (Nat × α × List Nat × List β) × Env × List Cell × Env) (p := fun z => as[z.1.down.1]? = some z.1.down.2.1 ∧ Inv z.1.down.1 z.1.down.2.2.2 z.2.1 z.2.2.1 ∧ G C z.2.1 z.2.2.1 tg ⟨z.1.down.2.1⟩ z.2.2.2 z.1.down.2.2.1) (t := fun z => gS C z.2.1 z.2.2.1 ⟨z.1.down.2.1⟩ z.2.2.2 z.1.down.2.2.1) fun z h => h.2.2.p)
    (GSs.ex (ι := ULift.{1} (Nat × List β) × Env × List Cell) (p := fun z => SG C z.2.1 z.2.2 z.1.down.2 body (Inv (z.1.down.1 + 1))) (t := fun z => sG C z.2.1 z.2.2 z.1.down.2 (Inv (z.1.down.1 + 1))) fun z h => h.p) hf) ?_⟩
  intro D ys σ H ⟨F, s, pr, n⟩
  refine ⟨F, s, fun J F1 H1 x1 s1 sv hz => ⟨fun i m ys σ H => m = as.length - i ∧ i ≤ as.length ∧ ∃ zs' env' L' F', Inv i zs' env' L' ∧ Ex F1 F' ∧ Sta C F' env' L' σ H ∧ Pr (Rep.rp C.X.K F') ys zs', ⟨as.length, by simp, Nat.zero_le _, zs, env, L, F1, h0, Ex.rf F1, s1, pr.imp fun _ _ => Rep.mono x1.f⟩, ?_⟩⟩
  rintro i m ys σ H ⟨rfl, hi, zs', env', L', F', inv, x, s', pr'⟩
  by_cases hlt : i < as.length
  · obtain ⟨go, yl⟩ := sv.go i F' H hlt x ⟨s'.ow.fH, _, L', s'.ow, hh _ _ _ _ inv⟩
    refine .inr ⟨go, fun ys' σ' H' => ∃ zs2 env2 L2 F2, Inv (i + 1) zs2 env2 L2 ∧ Ex F1 F2 ∧ Sta C F2 env2 L2 σ' H' ∧ Pr (Rep.rp C.X.K F2) ys' zs2, fun ys' σ' H' ⟨zs2, env2, L2, F2, z1, z2, z3, z4⟩ => ⟨as.length - (i + 1), by omega, rfl, hlt, zs2, env2, L2, F2, z1, z2, z3, z4⟩, fun v H2 y => ?_⟩
    obtain ⟨F2, g, a, ha, rv⟩ := yl v H2 y
    obtain ⟨env2, js, hG, hB⟩ := hs i a zs' env' L' ha inv
    refine ⟨(⟨(i, a, js, zs')⟩, env', L', env2), ⟨ha, inv, hG⟩, F2, s'.gro g, rv, fun σ3 F3 H3 x3 s3 _ => ⟨(⟨(i, zs')⟩, env2, L'), hB, F3, s3, pr'.imp fun _ _ => Rep.mono (g.f.tr x3.f), ?_⟩⟩
    intro zs4 env4 L4 ys4 σ4 F4 H4 q x4 s4 pr4
    exact ⟨zs4, env4, L4, F4, q, ((x.tr g.f).tr x3.f).tr x4, s4, pr4⟩
  · have e : i = as.length := by omega
    subst e
    exact .inl ⟨sv.stop _ F' H (Nat.le_refl _) x ⟨s'.ow.fH, _, L', s'.ow, hh _ _ _ _ inv⟩, n zs' env' L' ys σ F' H (hd zs' env' L' inv) (x1.f.tr x) s' pr'⟩
end
/-- a generator def's promise -/
def spGen.{u} {γ : Type u} {β : Type} [Rep β] (K : PySem.W.Frag) (arg : γ → List Ent) (cel : γ → List Cell) (pre : γ → Prop) (res : γ → List β) : SpG := fun vs H Q _ => ∃ g R F, pre g ∧ Own K R F H (cel g) ∧ Pr (fun v r => Ent.rp r K F v) vs (arg g) ∧
  ∀ ys F' H', Ex F F' → Own K R F' H' (cel g) → Pr (Rep.rp K F') ys (res g) → Q ys H'
theorem fn_gen.{u} {γ : Type u} {β : Type} [Rep β] {P : Program} {w : World} {K : PySem.W.Frag} {mg : Str → Option Value} {base : Heap} {x qual : Str} {params : Arguments} {body : List Stmt} {scope : Scope} {dvs : List V} {kws : List (Str × V)} {f : Addr} {fd : FuncData} {N ps : List Str} {k : Nat} {arg : γ → List Ent} {cel : γ → List Cell} {pre : γ → Prop} {res : γ → List β}
    (F : FunD K x qual params body scope dvs kws f fd) (Sc : GScope N ps scope) (hnd : N.Nodup) (hlen : ∀ g, (arg g).length = ps.length)
    (h : ∀ g, pre g → ∀ cdv A outer s H E0 pn R, let C : Cz := ⟨gcxOf P w K mg base N qual scope f cdv A outer s H E0 pn, R, fun cls d _ H => E0 cls d H⟩
      C.Ok k → SG C (startE N (arg g)) (cel g) ([] : List β) body (fun zs _ L' => zs = res g ∧ L' = cel g)) : GFn P w K mg base (k + 1) f fd ps (spGen K arg cel pre res) := by
  obtain ⟨oc, od, dV, kV, doc, pm, an, cdv, ct, osl, rfl, look, hcode, _, _⟩ := F.ex
  refine gfn_of look hcode Sc (fun vs H Q E ⟨g, R, F0, _, _, rv, _⟩ => by rw [rv.length]; exact hlen g) fun A outer s H vs Q E pn hr ⟨g, R, F0, hp, o, rv, q⟩ => ?_
  refine ⟨_, (h g hp cdv A outer s H E pn R ⟨takes_gcx, owns_gcx, rfl, hnd, hr⟩).p, F0, ⟨start_slots rv, o⟩, .nil, ?_⟩
  rintro zs' env' L' ys' σ' F' H' ⟨rfl, rfl⟩ x2 s' pr
  exact q ys' F' H' x2 s'.ow pr
end Py

namespace Py
open PySem PySem.Spec PyProof.Rows L2
/-! ### dicts -/
class KR (κ : Type) [Rep κ] [DecidableEq κ] where
  k : κ → L2.Key
  rp : ∀ K F v (a : κ), Rep.rp K F v a → v = kV (k a)
  inj : ∀ a b, k a = k b → a = b
instance : KR Int := ⟨.inl, fun _ _ _ _ h => h, fun a b h => by injection h⟩
instance : KR Str := ⟨.inr, fun _ _ _ _ h => h.1, fun a b h => by injection h⟩
section
variable {κ α : Type} [DecidableEq κ]
def lkp (m : List (κ × α)) (k : κ) : Option α := (m.find? fun p => decide (p.1 = k)).map (·.2)
def putA (m : List (κ × α)) (k : κ) (y : α) : List (κ × α) := if (lkp m k).isSome then m.map (fun p => if p.1 = k then (p.1, y) else p) else m ++ [(k, y)]
def dropA (m : List (κ × α)) (k : κ) : List (κ × α) := m.filter fun p => decide (p.1 ≠ k)
theorem lkp_nil {k : κ} : lkp ([] : List (κ × α)) k = none := rfl
theorem lkp_cons {p : κ × α} {m : List (κ × α)} {k : κ} : lkp (p :: m) k = if p.1 = k then some p.2 else lkp m k := by
  unfold lkp
  rw [List.find?_cons]
  by_cases h : p.1 = k
  · rw [if_pos h, decide_eq_true h]; rfl
  · rw [if_neg h, decide_eq_false h]
theorem lkp_append {m n : List (κ × α)} {k : κ} : lkp (m ++ n) k = (lkp m k).or (lkp n k) := by
  induction m with
  | nil => rfl
  | cons p m ih =>
    rw [List.cons_append, lkp_cons, lkp_cons, ih]
    split <;> rfl
theorem lkp_map {m : List (κ × α)} {k j : κ} {y : α} : lkp (m.map fun p => if p.1 = k then (p.1, y) else p) j = if j = k then (lkp m j).map (fun _ => y) else lkp m j := by
  induction m with
  | nil => simp [lkp]
  | cons p m ih =>
    rw [List.map_cons, lkp_cons, lkp_cons, ih]
    by_cases h1 : p.1 = k
    · rw [if_pos h1]
      by_cases h2 : p.1 = j
      · rw [if_pos h2, if_pos h2, if_pos (h2.symm.trans h1)]; rfl
      · rw [if_neg h2, if_neg h2]
    · rw [if_neg h1]
      by_cases h2 : p.1 = j
      · rw [if_pos h2, if_pos h2, if_neg (fun z => h1 (h2.trans z))]
      · rw [if_neg h2, if_neg h2]
theorem lkp_put {m : List (κ × α)} {k j : κ} {y : α} : lkp (putA m k y) j = if j = k then some y else lkp m j := by
  unfold putA
  cases q : lkp m k with
  | some x =>
    rw [if_pos (show (some x).isSome = true from rfl), lkp_map]
    by_cases h : j = k
    · rw [if_pos h, if_pos h, h, q]; rfl
    · rw [if_neg h, if_neg h]
  | none =>
    rw [if_neg (show ¬ (none : Option α).isSome = true from fun z => by cases z), lkp_append, lkp_cons, lkp_nil]
    by_cases h : j = k
    · rw [if_pos h, if_pos h.symm, h, q]; rfl
    · rw [if_neg h, if_neg (fun z => h z.symm), Option.or_none]
theorem lkp_drop {m : List (κ × α)} {k j : κ} : lkp (dropA m k) j = if j = k then none else lkp m j := by
  induction m with
  | nil => simp [lkp, dropA]
  | cons p m ih =>
    unfold dropA at ih ⊢
    rw [List.filter_cons]
    by_cases h : p.1 = k
    · rw [if_neg (by simp [h]), ih, lkp_cons]
      by_cases h2 : j = k
      · rw [if_pos h2, if_pos h2]
      · rw [if_neg h2, if_neg h2, if_neg (fun z => h2 (z.symm.trans h))]
    · rw [if_pos (by simp [h]), lkp_cons, ih, lkp_cons]
      by_cases h2 : j = k
      · rw [if_pos h2, if_pos h2, if_neg (fun z => h (z.trans h2))]
      · rw [if_neg h2, if_neg h2]
theorem putA_len (m : List (κ × α)) (k : κ) (y : α) : (putA m k y).length ≤ m.length + 1 := by
  unfold putA
  split
  · rw [List.length_map]; omega
  · rw [List.length_append, List.length_cons, List.length_nil]; omega
theorem putA_keys {m : List (κ × α)} {k : κ} {y : α} : (putA m k y).map (·.1) = if (lkp m k).isSome then m.map (·.1) else m.map (·.1) ++ [k] := by
  unfold putA
  split
  · rw [List.map_map]
    refine List.map_congr_left fun p _ => ?_
    show (if p.1 = k then (p.1, y) else p).1 = p.1
    split <;> rfl
  · rw [List.map_append]; rfl
theorem lkp_some {m : List (κ × α)} {k : κ} : (lkp m k).isSome = decide (k ∈ m.map (·.1)) := by
  induction m with
  | nil => simp [lkp]
  | cons p m ih =>
    rw [lkp_cons, List.map_cons]
    by_cases h : p.1 = k
    · rw [if_pos h]; simp [h]
    · rw [if_neg h, ih]
      have : k ≠ p.1 := fun z => h z.symm
      simp [this]
end
section
variable {κ α : Type} [Rep κ] [DecidableEq κ] [KR κ] [Rep α]
def DOk (K : PySem.W.Frag) (F : Hp) (kv : L2.Key × V) (p : κ × α) : Prop := kv.1 = KR.k p.1 ∧ Rep.rp K F kv.2 p.2
theorem DOk.mono {K F F'} {a : L2.Key × V} {b : κ × α} (x : Ex F F') (h : DOk K F a b) : DOk K F' a b := ⟨h.1, Rep.mono x h.2⟩
/-- a dict of one's own -/
def Cell.dic (d : Addr) (m : List (κ × α)) : Cell := ⟨[d], fun K F H => (∃ kvs, H d = some (.dK kvs) ∧ Pr (DOk K F) kvs m) ∧ m.length ≤ sizeLine, fun x h ⟨⟨vs, h1, h2⟩, h3⟩ => ⟨⟨vs, by rw [h d List.mem_cons_self]; exact h1, h2.imp fun _ _ => DOk.mono x⟩, h3⟩,
  fun ⟨⟨vs, h1, _⟩, _⟩ a ha => by rw [List.mem_singleton.mp ha]; exact ⟨_, h1⟩⟩
/-- a frozen dict -/
structure Dic (κ α : Type) where
  l : List (κ × α)
instance : Rep (Dic κ α) := ⟨fun K F v a => ∃ d kvs, v = .ref d ∧ F d = some (.dK kvs) ∧ Pr (DOk K F) kvs a.l ∧ a.l.length ≤ sizeLine, fun e ⟨d, kvs, h1, h2, h3, h4⟩ => ⟨d, kvs, h1, e _ _ h2, h3.imp fun _ _ => DOk.mono e, h4⟩⟩
theorem pr_lkp {K F} {kvs : List (L2.Key × V)} {m : List (κ × α)} (h : Pr (DOk K F) kvs m) (k : κ) : (∀ y, lkp m k = some y → ∃ v, valV kvs (KR.k k) = some v ∧ Rep.rp K F v y) ∧ (lkp m k = none → valV kvs (KR.k k) = none) := by
  induction h with
  | nil => exact ⟨fun y z => (by cases z), fun _ => rfl⟩
  | @cons a b as bs h t ih =>
    obtain ⟨h1, h2⟩ := h
    rw [lkp_cons]
    by_cases e : b.1 = k
    · rw [if_pos e]
      refine ⟨fun y z => ?_, fun z => by cases z⟩
      cases z
      exact ⟨a.2, valV_pos (by rw [h1, e]), h2⟩
    · rw [if_neg e, valV_neg (fun z => e (KR.inj _ _ (h1.symm.trans z)))]
      exact ih
theorem pr_put {K F} {kvs : List (L2.Key × V)} {m : List (κ × α)} (h : Pr (DOk K F) kvs m) {k : κ} {y : α} {v : V} (hv : Rep.rp K F v y) : Pr (DOk K F) (putK kvs (KR.k k) v) (putA m k y) := by
  unfold putK putA
  rw [valV_any]
  obtain ⟨h1, h2⟩ := pr_lkp h k
  cases q : lkp m k with
  | some x =>
    obtain ⟨w, h3, _⟩ := h1 x q
    rw [h3]
    show Pr (DOk K F) (if true = true then _ else _) (if true = true then _ else _)
    rw [if_pos rfl, if_pos rfl]
    clear h1 h2 q h3
    induction h with
    | nil => exact .nil
    | @cons a b as bs h t ih =>
      rw [List.map_cons, List.map_cons]
      refine .cons ?_ ih
      obtain ⟨g1, g2⟩ := h
      by_cases e : b.1 = k
      · rw [if_pos e, if_pos (by rw [g1, e])]
        exact ⟨g1, hv⟩
      · rw [if_neg e, if_neg (fun z => e (KR.inj _ _ (g1.symm.trans z)))]
        exact ⟨g1, g2⟩
  | none =>
    rw [h2 q]
    show Pr (DOk K F) (if false = true then _ else _) (if false = true then _ else _)
    rw [if_neg (by decide), if_neg (by decide)]
    exact h.append (.cons ⟨rfl, hv⟩ .nil)
theorem pr_drop {K F} {kvs : List (L2.Key × V)} {m : List (κ × α)} (h : Pr (DOk K F) kvs m) {k : κ} : Pr (DOk K F) (dropK kvs (KR.k k)) (dropA m k) := by
  unfold dropK dropA
  induction h with
  | nil => exact .nil
  | @cons a b as bs h t ih =>
    rw [List.filter_cons, List.filter_cons]
    obtain ⟨g1, g2⟩ := h
    by_cases e : b.1 = k
    · rw [if_neg (show ¬ decide (a.1 ≠ KR.k k) = true by simp [g1, e]), if_neg (show ¬ decide (b.1 ≠ k) = true by simp [e])]
      exact ih
    · have : ¬ a.1 = KR.k k := fun z => e (KR.inj _ _ (g1.symm.trans z))
      rw [if_pos (show decide (a.1 ≠ KR.k k) = true by simp [this]), if_pos (show decide (b.1 ≠ k) = true by simp [e])]
      exact .cons ⟨g1, g2⟩ ih
/-- at p a dict that bears m, whatever is frozen besides -/
def Rdd (K : PySem.W.Frag) (R : Hp) (L : List Cell) (p : Addr) (m : List (κ × α)) (F : Hp) : Prop := ∀ F2 H2, Ex F F2 → Own K R F2 H2 L → ∃ kvs, H2 p = some (.dK kvs) ∧ Pr (DOk K F2) kvs m
def eD (C : Cz) (env : Env) (L : List Cell) (m : List (κ × α)) : TE := fun σ H Q => ∃ F, Sta C F env L σ H ∧ ∀ p F' H', Gw F H F' H' → Sta C F' env L σ H' → Rdd C.X.K C.R L p m F' → m.length ≤ sizeLine → Q (.ref p) H'
structure ED (C : Cz) (env : Env) (L : List Cell) (e : Expr) (m : List (κ × α)) : Prop where
  p : PE C.X e (eD C env L m)
end
section
variable {κ α : Type} [Rep κ] [DecidableEq κ] [KR κ] [Rep α] {C : Cz} {k : Nat} {env : Env} {L : List Cell} {a b o e : Expr} {pos p : Pos} {m : List (κ × α)} {d : Addr} {x : κ} {y : α} {Q : Po} {rest : List Stmt} {C0 : Addr} {f : Str} {r : Ent} {P : Ent → List Cell → Prop} {PX : Value → Option Addr → List Cell → Prop}
theorem ED.own (h : E C env L a ⟨(At.mk d)⟩) (hL : Cell.dic d m ∈ L) : ED C env L a m := ⟨PE.imp h.p fun σ H Q ⟨F, s, q⟩ => ⟨F, s, fun v F1 H1 x1 s1 rv => by
  have rv : v = V.ref d := rv
  subst rv
  exact q d F1 H1 x1 s1 (fun F2 H2 x2 o2 => by
    obtain ⟨⟨vs, h1, h2⟩, h3⟩ := o2.ok _ hL
    exact ⟨vs, h1, h2⟩) (s1.ow.ok _ hL).2⟩⟩
theorem ED.imm (h : E C env L a ⟨(Dic.mk m)⟩) : ED C env L a m := ⟨PE.imp h.p fun σ H Q ⟨F, s, q⟩ => ⟨F, s, fun v F1 H1 x1 s1 rv => by
  obtain ⟨p, kvs, rfl, h1, h2, h3⟩ := rv
  exact q p F1 H1 x1 s1 (fun F2 H2 x2 o2 => ⟨kvs, o2.fH _ _ (x2 _ _ h1), h2.imp fun _ _ => DOk.mono x2⟩) h3⟩⟩
/-- d[k] -/
theorem E_dget (ok : C.Ok k) (ha : ED C env L a m) (hb : E C env L b ⟨x⟩) (h : lkp m x = some y) (hs : NoSl b := by exact fun _ _ => rfl) : E C env L (.Subscript a b pos) ⟨y⟩ :=
  ⟨PE.imp (pe_dget (by have := ok.room.units; omega) ha.p hb.p hs) fun σ H Q ⟨F, s, q⟩ => ⟨F, s, fun p F1 H1 x1 s1 hr hz => ⟨F1, s1, fun w F2 H2 x2 s2 rw' => by
    obtain ⟨kvs, h1, h2⟩ := hr F2 H2 x2.f s2.ow
    obtain ⟨v, h3, h4⟩ := (pr_lkp h2 x).1 y h
    rw [KR.rp _ _ _ _ rw']
    exact ⟨p, v, rfl, Or.inl ⟨kvs, _, Or.inl h1, rfl, h3.symm⟩, q v F2 H2 (x1.tr x2) s2 h4⟩⟩⟩⟩
theorem din_aux {kvs : List (L2.Key × V)} {K F} (h2 : Pr (DOk K F) kvs m) : (valV kvs (KR.k x)).isSome = (lkp m x).isSome := by
  obtain ⟨g1, g2⟩ := pr_lkp h2 x
  cases q : lkp m x with
  | some y => obtain ⟨v, h3, _⟩ := g1 y q; rw [h3]; rfl
  | none => rw [g2 q]; rfl
/-- k in d -/
theorem E_din (ok : C.Ok k) (hb : E C env L b ⟨x⟩) (ha : ED C env L a m) (hm : behindInMarks .In a = false := by rfl) : E C env L (.Compare b [.In] [a] pos) ⟨(lkp m x).isSome⟩ :=
  ⟨PE.imp (pe_cmp (pc_din (by have := ok.room.units; omega) hb.p ha.p) hm) fun σ H Q ⟨F, s, q⟩ => ⟨F, s, fun w F1 H1 x1 s1 rw' => ⟨F1, s1, fun p F2 H2 x2 s2 hr hz => by
    obtain ⟨kvs, h1, h2⟩ := hr F2 H2 (Ex.rf F2) s2.ow
    refine ⟨p, valV kvs (KR.k x), rfl, Or.inl ⟨kvs, _, Or.inl h1, KR.rp _ _ _ _ rw', rfl⟩, ?_⟩
    rw [din_aux h2]
    exact q _ F2 H2 (x1.tr x2) s2 rfl⟩⟩⟩
theorem E_dnin (ok : C.Ok k) (hb : E C env L b ⟨x⟩) (ha : ED C env L a m) (hm : behindInMarks .NotIn a = false := by rfl) : E C env L (.Compare b [.NotIn] [a] pos) ⟨!(lkp m x).isSome⟩ :=
  ⟨PE.imp (pe_cmp (pc_dnotin (by have := ok.room.units; omega) hb.p ha.p) hm) fun σ H Q ⟨F, s, q⟩ => ⟨F, s, fun w F1 H1 x1 s1 rw' => ⟨F1, s1, fun p F2 H2 x2 s2 hr hz => by
    obtain ⟨kvs, h1, h2⟩ := hr F2 H2 (Ex.rf F2) s2.ow
    refine ⟨p, valV kvs (KR.k x), rfl, Or.inl ⟨kvs, _, Or.inl h1, KR.rp _ _ _ _ rw', rfl⟩, ?_⟩
    rw [din_aux h2]
    exact q _ F2 H2 (x1.tr x2) s2 rfl⟩⟩⟩
theorem T_din (ok : C.Ok k) (hb : E C env L b ⟨x⟩) (ha : ED C env L a m) (hm : behindInMarks .In a = false := by rfl) : T C env L (.Compare b [.In] [a] pos) (lkp m x).isSome :=
  ⟨PT.imp (pt_cmp (pc_din (by have := ok.room.units; omega) hb.p ha.p) hm) fun σ H Q ⟨F, s, q⟩ => ⟨F, s, fun w F1 H1 x1 s1 rw' => ⟨F1, s1, fun p F2 H2 x2 s2 hr hz => by
    obtain ⟨kvs, h1, h2⟩ := hr F2 H2 (Ex.rf F2) s2.ow
    refine ⟨p, valV kvs (KR.k x), rfl, Or.inl ⟨kvs, _, Or.inl h1, KR.rp _ _ _ _ rw', rfl⟩, (lkp m x).isSome, by rw [din_aux h2], q F2 H2 (x1.tr x2) s2⟩⟩⟩⟩
theorem T_dnin (ok : C.Ok k) (hb : E C env L b ⟨x⟩) (ha : ED C env L a m) (hm : behindInMarks .NotIn a = false := by rfl) : T C env L (.Compare b [.NotIn] [a] pos) (!(lkp m x).isSome) :=
  ⟨PT.imp (pt_cmp (pc_dnotin (by have := ok.room.units; omega) hb.p ha.p) hm) fun σ H Q ⟨F, s, q⟩ => ⟨F, s, fun w F1 H1 x1 s1 rw' => ⟨F1, s1, fun p F2 H2 x2 s2 hr hz => by
    obtain ⟨kvs, h1, h2⟩ := hr F2 H2 (Ex.rf F2) s2.ow
    refine ⟨p, valV kvs (KR.k x), rfl, Or.inl ⟨kvs, _, Or.inl h1, KR.rp _ _ _ _ rw', rfl⟩, !(lkp m x).isSome, by rw [din_aux h2], q F2 H2 (x1.tr x2) s2⟩⟩⟩⟩
/-- d[k] = e -/
theorem S_dput {pos' : Pos} (kk : Nat) (ok : C.Ok k) (he : E C env L e ⟨y⟩) (ho : E C env L o ⟨(At.mk d)⟩) (hb : E C env L b ⟨x⟩) (hL : L[kk]? = some (Cell.dic d m)) (hz : m.length < sizeLine) (hk : S C env (L.set kk (Cell.dic d (putA m x y))) rest Q)
    (hs : swapsWith e (some (.Subscript o b pos')) pos.line C.X.env = pure false := by rfl) : S C env L (.Assign [.Subscript o b pos'] e pos :: rest) Q :=
  S_cons ⟨PS.imp (ps_dput (by have := ok.room.units; omega) ho.p hb.p he.p hs) fun D σ H ⟨F, s, n⟩ => ⟨F, s, fun v F1 H1 x1 s1 rv => ⟨F1, s1, fun w F2 H2 x2 s2 rw' => ⟨F2, s2, fun w3 F3 H3 x3 s3 rw3 => by
    have rw' : w = V.ref d := rw'
    subst rw'
    obtain ⟨⟨kvs, h1, h2⟩, h3⟩ := s3.ow.ok _ (List.mem_of_getElem? hL)
    refine ⟨d, _, rfl, Or.inl ⟨kvs, KR.k x, h1, KR.rp _ _ _ _ rw3, by rw [h2.length]; exact hz, rfl⟩, ?_⟩
    refine n.nx env _ σ F3 _ hk ((x1.f.tr x2.f).tr x3.f) ⟨s3.sl, s3.ow.put hL rfl (fun b hb => upd_ne fun z => hb (by rw [z]; exact List.mem_cons_self)) ⟨⟨_, upd_same, pr_put h2 (Rep.mono (x2.f.tr x3.f) rv)⟩, ?_⟩⟩
    have := putA_len m x y
    omega⟩⟩⟩⟩
/-- del d[k] -/
theorem S_ddel {tpos : Pos} (kk : Nat) (ho : E C env L o ⟨(At.mk d)⟩) (hb : E C env L b ⟨x⟩) (hL : L[kk]? = some (Cell.dic d m)) (hin : (lkp m x).isSome = true) (hk : S C env (L.set kk (Cell.dic d (dropA m x))) rest Q) : S C env L (.Delete [.Subscript o b tpos] pos :: rest) Q :=
  S_cons ⟨PS.imp (ps_ddel ho.p hb.p) fun D σ H ⟨F, s, n⟩ => ⟨F, s, fun w F2 H2 x2 s2 rw' => ⟨F2, s2, fun w3 F3 H3 x3 s3 rw3 => by
    have rw' : w = V.ref d := rw'
    subst rw'
    obtain ⟨⟨kvs, h1, h2⟩, h3⟩ := s3.ow.ok _ (List.mem_of_getElem? hL)
    refine ⟨d, kvs, KR.k x, rfl, h1, KR.rp _ _ _ _ rw3, by rw [din_aux h2]; exact hin, ?_⟩
    refine n.nx env _ σ F3 _ hk (x2.f.tr x3.f) ⟨s3.sl, s3.ow.put hL rfl (fun b hb => upd_ne fun z => hb (by rw [z]; exact List.mem_cons_self)) ⟨⟨_, upd_same, pr_drop h2⟩, Nat.le_trans (List.length_filter_le _ _) h3⟩⟩⟩⟩⟩
/-- {} -/
theorem EM_dnew (κ α : Type) [Rep κ] [DecidableEq κ] [KR κ] [Rep α] : EM C env L (.Dict [] [] pos) (fun r L' => ∃ d, r = ⟨(At.mk d)⟩ ∧ L' = Cell.dic d ([] : List (κ × α)) :: L) (fun _ _ _ => False) :=
  ⟨PE.imp pe_dnewK fun σ H Q ⟨F, s, q, _⟩ => fun p hn => q (.ref p) _ _ F _ ⟨p, rfl, rfl⟩ (Ex.rf F) ⟨s.sl, s.ow.cell hn rfl ⟨⟨[], upd_same, .nil⟩, Nat.zero_le _⟩⟩ rfl⟩
/-- o.f = e, e makes cells -/
theorem S_fldM (cl : Cls C.X.K C0) (na : NoAttr C.X.K C0 f) (he : EM C env L e P PX) (hx : ∀ cls d L', PX cls d L' → Q.ex cls d env L') (hk : ∀ r L', P r L' → ∃ (q dx : Addr) (fs : Fld) (kk : Nat), E C env L' o ⟨(At.mk q)⟩ ∧ L'[kk]? = some (Cell.obj q C0 dx fs) ∧ fs.length < 1000 ∧ S C env (L'.set kk (Cell.obj q C0 dx (putE f r fs))) rest Q)
    (hs : swapsWith e (some (.Attribute o f p)) pos.line C.X.env = pure false := by rfl) : S C env L (.Assign [.Attribute o f p] e pos :: rest) Q :=
  S_cons ⟨PS.imp (ps_fld (PE.ex (ι := ULift.{1} Addr × List Cell) (p := fun z => E C env z.2 o ⟨(At.mk z.1.down)⟩) (t := fun z => eE C env z.2 ⟨(At.mk z.1.down)⟩) fun z h => h.p) he.p hs) fun D σ H ⟨F, s, n⟩ => ⟨F, s, fun v r L' F1 H1 hp x1 s1 rv => by
    obtain ⟨q, dx, fs, kk, ho, hL, hz, hk'⟩ := hk r L' hp
    refine ⟨(⟨q⟩, L'), ho, F1, s1, fun w F2 H2 x2 s2 rw' => ?_⟩
    have rw' : w = V.ref q := rw'
    subst rw'
    obtain ⟨vs, h1, h2, h3⟩ := s2.ow.ok _ (List.mem_of_getElem? hL)
    have hne : dx ≠ q := fun e => by
      subst e
      rw [h1] at h2; cases h2
    exact ⟨q, C0, dx, vs, rfl, h1, cl, na, by rw [h3.length]; exact hz, n.nx env _ σ F2 _ hk' (x1.tr x2.f) ⟨s2.sl, s2.ow.put hL rfl (fun b hb => upd_ne fun z => hb (by rw [z]; exact List.mem_cons_self)) ⟨_, upd_same, by rw [upd_ne hne]; exact h2, fld_put h3 (Ent.mono x2.f rv)⟩⟩⟩, fun cls d L' F1 H1 hp x1 s1 => n.ex cls d env L' σ F1 H1 (hx cls d L' hp) x1 s1⟩⟩
end
end Py

namespace Py
open PySem PySem.Spec PyProof.Rows L2
/-! ### texts: x * n -/
def mulS (x : Str) (n : Nat) : Str := ⟨(List.replicate n x.cps).foldl (· ++ ·) #[]⟩
theorem mulS_cps (x : Str) (n : Nat) : (mulS x n).cps.toList = (List.replicate n x.cps.toList).flatten := by
  unfold mulS
  show ((List.replicate n x.cps).foldl (· ++ ·) #[]).toList = _
  have key : ∀ (n : Nat) (a : Array Nat), ((List.replicate n x.cps).foldl (· ++ ·) a).toList = a.toList ++ (List.replicate n x.cps.toList).flatten := by
    intro n
    induction n with
    | zero => intro a; simp
    | succ n ih =>
      intro a
      rw [List.replicate_succ, List.foldl_cons, ih, List.replicate_succ, List.flatten_cons]
      simp
  rw [key]
  rfl
theorem mulS_len (x : Str) (n : Nat) : (mulS x n).length = n * x.length := by
  rw [str_len, mulS_cps, str_len]
  induction n with
  | zero => simp
  | succ n ih => rw [List.replicate_succ, List.flatten_cons, List.length_append, ih, Nat.succ_mul, Nat.add_comm]
theorem mulS_ok {x : Str} {n : Nat} (h : SOk x) (hz : n * x.length ≤ sizeLine) : SOk (mulS x n) := ⟨by rw [mulS_len]; exact hz, by
  rw [mulS_cps]
  refine List.all_eq_true.mpr fun c hc => ?_
  obtain ⟨l, hl, hc⟩ := List.mem_flatten.mp hc
  rw [(List.mem_replicate.mp hl).2] at hc
  exact List.all_eq_true.mp h.ok c hc⟩
theorem op_mulS {X : Cx} : OpR X (binaryOp .Mult) (fun x y H Q => ∃ (i : Str) (n : Int), x = .str i ∧ y = .int n ∧ n ≤ 4096 ∧ -4096 ≤ n ∧ i.length ≤ 4096 ∧ Q (.str (mulS i n.toNat)) H) := by
  intro pins s σ H x y v u Q I rx ry h
  obtain ⟨i, n, rfl, rfl, h1, h2, h3, q⟩ := h
  obtain ⟨t, rfl⟩ := rx
  obtain ⟨t', rfl⟩ := ry
  have fin : ∀ (z : Str) (tk : Tok) (s' : Shared), L2.Inv X pins σ H s' → z = mulS i n.toNat → EP X pins σ Q (.str z tk) s' := fun z tk s' I' e => ⟨.str (mulS i n.toNat), H, I', ⟨tk, by rw [e]⟩, q⟩
  refine PySem.P.mul_str (by rw [decide_eq_false (by omega), decide_eq_false (by omega)]; rfl) (fun h4 _ h5 => ?_) (fun h4 h5 => ?_) ?_
  · have h6 : (2 ^ 63 - 1) / n ≥ (2 ^ 63 - 1) / 4096 := by
      refine Int.le_ediv_of_mul_le (by omega) ?_
      have : ((2 ^ 63 - 1) / 4096 : Int) * n ≤ ((2 ^ 63 - 1) / 4096 : Int) * 4096 := Int.mul_le_mul_of_nonneg_left h1 (by decide)
      omega
    omega
  · have h7 : i.length * n.toNat ≤ 4096 * 4096 := Nat.mul_le_mul h3 (by omega)
    refine decide_eq_false ?_
    have := sizeLine_eq
    omega
  · split
    · rename_i hn
      refine ⟨by decide, fin _ _ _ (I.tok _) ?_⟩
      rw [Int.toNat_of_nonpos (by omega)]; rfl
    · split
      · rename_i hn hq
        refine fin _ _ _ I (str_ext ?_)
        rw [mulS_cps]
        rcases Bool.or_eq_true_iff.mp hq with hq | hq
        · have : n = 1 := by simpa using hq
          subst this
          simp
        · have : i.length = 0 := by simpa using hq
          have : i.cps.toList = [] := List.eq_nil_of_length_eq_zero (by rw [← str_len]; exact this)
          rw [this]; simp
      · refine ⟨?_, fin _ _ _ (I.tok _) rfl⟩
        show (mulS i n.toNat).length ≤ sizeLine
        rw [mulS_len, sizeLine_eq]
        have : n.toNat * i.length ≤ 4096 * 4096 := Nat.mul_le_mul (by omega) h3
        omega
theorem bin_mulS {X : Cx} {i : Str} {n : Int} (h1 : n ≤ 4096) (h2 : -4096 ≤ n) (h3 : i.length ≤ 4096) : Bin X .Mult ⟨i⟩ ⟨n⟩ ⟨mulS i n.toNat⟩ := ⟨⟨_, op_mulS, fun F H v1 v2 Q e g1 g2 q => ⟨i, n, g1.1, g2, h1, h2, h3, q _ F H (Gro.rf e) ⟨rfl, mulS_ok g1.2 (by
  have : n.toNat * i.length ≤ 4096 * 4096 := Nat.mul_le_mul (by omega) h3
  rw [sizeLine_eq]; omega)⟩⟩⟩⟩
/-! ### flat lists -/
class FL (α : Type) [Rep α] [DecidableEq α] : Prop where
  fl : ∀ K F vs (as : List α), Pr (Rep.rp K F) vs as → vs.all flatV = true ∧ ∀ v a, Rep.rp K F v a → flatV v = true ∧ inV v vs = decide (a ∈ as)
instance : FL Int := ⟨fun K F vs as h => by
  rw [Pr.ints h]
  exact ⟨all_flatI _, fun v a hv => by rw [show v = V.int a from hv]; exact ⟨rfl, inV_int a as⟩⟩⟩
instance : FL Str := ⟨fun K F vs as h => by
  rw [Pr.strs h]
  exact ⟨all_flatS _, fun v a hv => by rw [show v = V.str a from hv.1]; exact ⟨rfl, inV_str a as⟩⟩⟩
section
variable {α : Type} [Rep α] [DecidableEq α] [FL α] {C : Cz} {k : Nat} {env : Env} {L : List Cell} {a b o e : Expr} {es : List Expr} {pos p : Pos} {as : List α} {x : α} {l : Addr} {Q : Po} {rest : List Stmt} {rs : List Ent}
/-- x in a list -/
theorem E_inL (hb : E C env L b ⟨x⟩) (ha : ER C env L a as) (hm : behindInMarks .In a = false := by rfl) : E C env L (.Compare b [.In] [a] pos) ⟨decide (x ∈ as)⟩ :=
  ⟨PE.imp (pe_cmpR op_in_seq hb.p ha.p hm) fun σ H Q ⟨F, s, q⟩ => ⟨F, s, fun w F1 H1 x1 s1 rw' => ⟨F1, s1, fun p F2 H2 x2 s2 hr hz => by
    obtain ⟨vs, h1, h2⟩ := hr F2 H2 (Ex.rf F2) s2.ow
    obtain ⟨g1, g2⟩ := FL.fl _ _ _ _ h2
    obtain ⟨g3, g4⟩ := g2 w x (Rep.mono x2.f rw')
    refine ⟨p, vs, rfl, Or.inl h1, g3, g1, ?_⟩
    show Q (.bl (inV w vs)) H2
    rw [g4]
    exact q _ F2 H2 (x1.tr x2) s2 rfl⟩⟩⟩
theorem E_ninL (hb : E C env L b ⟨x⟩) (ha : ER C env L a as) (hm : behindInMarks .NotIn a = false := by rfl) : E C env L (.Compare b [.NotIn] [a] pos) ⟨!decide (x ∈ as)⟩ :=
  ⟨PE.imp (pe_cmpR op_notIn_seq hb.p ha.p hm) fun σ H Q ⟨F, s, q⟩ => ⟨F, s, fun w F1 H1 x1 s1 rw' => ⟨F1, s1, fun p F2 H2 x2 s2 hr hz => by
    obtain ⟨vs, h1, h2⟩ := hr F2 H2 (Ex.rf F2) s2.ow
    obtain ⟨g1, g2⟩ := FL.fl _ _ _ _ h2
    obtain ⟨g3, g4⟩ := g2 w x (Rep.mono x2.f rw')
    refine ⟨p, vs, rfl, Or.inl h1, g3, g1, ?_⟩
    show Q (.bl (!inV w vs)) H2
    rw [g4]
    exact q _ F2 H2 (x1.tr x2) s2 rfl⟩⟩⟩
end
section
variable {α : Type} [Rep α] {C : Cz} {k : Nat} {env : Env} {L : List Cell} {a b c o e : Expr} {es : List Expr} {pos p : Pos} {as : List α} {x : α} {l : Addr} {Q : Po} {rest : List Stmt} {rs : List Ent} {bo : Bool}
theorem pt_of_cmp {op : CmpOp} {t : TE} {r : R2} {ta tb : TE} {a b : Expr} {X : Cx} (ho : OpR X (compareOp op) r) (ha : PE X a ta) (hb : PE X b tb) (hm : behindInMarks op b = false) : PT X (.Compare a [op] [b] pos) (tTest (tOp r ta tb)) := pt_cmpR ho ha hb hm
theorem T_inL [DecidableEq α] [FL α] (hb : E C env L b ⟨x⟩) (ha : ER C env L a as) (hm : behindInMarks .In a = false := by rfl) : T C env L (.Compare b [.In] [a] pos) (decide (x ∈ as)) :=
  ⟨PT.imp (pt_cmpR op_in_seq hb.p ha.p hm) fun σ H Q ⟨F, s, q⟩ => ⟨F, s, fun w F1 H1 x1 s1 rw' => ⟨F1, s1, fun p F2 H2 x2 s2 hr hz => by
    obtain ⟨vs, h1, h2⟩ := hr F2 H2 (Ex.rf F2) s2.ow
    obtain ⟨g1, g2⟩ := FL.fl _ _ _ _ h2
    obtain ⟨g3, g4⟩ := g2 w x (Rep.mono x2.f rw')
    exact ⟨p, vs, rfl, Or.inl h1, g3, g1, _, by show V.bl (inV w vs) = _; rw [g4], q F2 H2 (x1.tr x2) s2⟩⟩⟩⟩
theorem T_ninL [DecidableEq α] [FL α] (hb : E C env L b ⟨x⟩) (ha : ER C env L a as) (hm : behindInMarks .NotIn a = false := by rfl) : T C env L (.Compare b [.NotIn] [a] pos) (!decide (x ∈ as)) :=
  ⟨PT.imp (pt_cmpR op_notIn_seq hb.p ha.p hm) fun σ H Q ⟨F, s, q⟩ => ⟨F, s, fun w F1 H1 x1 s1 rw' => ⟨F1, s1, fun p F2 H2 x2 s2 hr hz => by
    obtain ⟨vs, h1, h2⟩ := hr F2 H2 (Ex.rf F2) s2.ow
    obtain ⟨g1, g2⟩ := FL.fl _ _ _ _ h2
    obtain ⟨g3, g4⟩ := g2 w x (Rep.mono x2.f rw')
    exact ⟨p, vs, rfl, Or.inl h1, g3, g1, _, by show V.bl (!inV w vs) = _; rw [g4], q F2 H2 (x1.tr x2) s2⟩⟩⟩⟩
theorem Pr.toEnts {K F} {α : Type} [Rep α] {as : List α} {vs : List V} (h : Pr (Rep.rp K F) vs as) : Pr (fun v r => Ent.rp r K F v) vs (EntsOf as) := by
  induction h with
  | nil => exact .nil
  | cons h _ ih => exact .cons h ih
/-- [*xs, ..] -/
theorem A_star (he : ER C env L e as) (hr : A C env L es rs) (hs : starEach (.Starred e p :: es) C.X.env = (true, eval e C.X.env) :: starEach es C.X.env := by rfl) : A C env L (.Starred e p :: es) (EntsOf as ++ rs) := ⟨PA.imp (StX.pa_star he.p hr.p hs) fun σ H Q ⟨F, s, q⟩ => ⟨F, s, fun l F1 H1 x1 s1 hr hz => by
  obtain ⟨vs, h1, h2⟩ := hr F1 H1 (Ex.rf F1) s1.ow
  exact ⟨l, vs, rfl, Or.inr h1, F1, s1, fun us F2 H2 x2 s2 rr => q _ F2 H2 (x1.tr x2) s2 (Pr.append (Pr.toEnts (h2.imp fun _ _ => Rep.mono x2.f)) rr)⟩⟩⟩
/-- xs[i] = e, xs one's own -/
theorem S_lput {pos' : Pos} {i : Int} {n : Nat} (kk : Nat) (he : E C env L e ⟨x⟩) (ho : E C env L o ⟨(At.mk l)⟩) (hb : E C env L b ⟨i⟩) (hL : L[kk]? = some (Cell.lst l as)) (hi : ixN as.length i = some n) (hk : S C env (L.set kk (Cell.lst l (as.set n x))) rest Q)
    (hs : swapsWithSole [.Subscript o b pos'] e pos.line C.X.env = pure false := by rfl) (hw : swappedStores [.Subscript o b pos'] e C.X.env = pure none := by rfl) (h1 : (assignEach [.Subscript o b pos'] C.X.env).map (·.2) = [assign (.Subscript o b pos') C.X.env] := by rfl)
    (ha : ∀ v, assign (.Subscript o b pos') C.X.env v = (do
      let ov ← holding [v] (eval o C.X.env)
      let iv ← holding [v, ov] (eval b C.X.env)
      standAt pos'
      holding [v, ov, iv] (setItem ov iv v)
      release [v, ov, iv] []) := by intro _; rfl) : S C env L (.Assign [.Subscript o b pos'] e pos :: rest) Q :=
  S_cons ⟨PS.imp (ps_asg he.p (pg_sub ho.p hb.p set_list ha) hs hw h1) fun D σ H ⟨F, s, n'⟩ => ⟨F, s, fun v F1 H1 x1 s1 rv => ⟨F1, s1, fun w F2 H2 x2 s2 rw' => ⟨F2, s2, fun w3 F3 H3 x3 s3 rw3 => by
    have rw' : w = V.ref l := rw'
    have rw3 : w3 = V.int i := rw3
    subst rw' rw3
    obtain ⟨⟨vs, g1, g2⟩, g3⟩ := s3.ow.ok _ (List.mem_of_getElem? hL)
    refine ⟨l, vs, i, n, rfl, rfl, g1, by rw [g2.length]; exact hi, ?_⟩
    exact n'.nx env _ σ F3 _ hk ((x1.f.tr x2.f).tr x3.f) ⟨s3.sl, s3.ow.put hL rfl (fun b hb => upd_ne fun z => hb (by rw [z]; exact List.mem_cons_self)) ⟨⟨_, upd_same, g2.set (Rep.mono (x2.f.tr x3.f) rv) n⟩, by rw [List.length_set]; exact g3⟩⟩⟩⟩⟩⟩
end
end Py

namespace Py
open PySem PySem.Spec PyProof.Rows L2
/-! ### methods -/
/-- an instance, its attribute m not its own -/
def SeenM (C : Cz) (L : List Cell) (r : Ent) (C0 : Addr) (m : Str) : Prop := ∀ R F H v, Own C.X.K R F H L → r.rp C.X.K F v → ∃ p dx fs, v = .ref p ∧ H p = some (.ins C0 dx fs) ∧ fs.lookup m = none
section
variable {C : Cz} {k n j : Nat} {env : Env} {L LR : List Cell} {e a b o tg : Expr} {es : List Expr} {C0 : Addr} {r r1 r2 : Ent} {rs : List Ent} {p pos apos : Pos} {m x : Str} {rest : List Stmt} {Q : Po}
theorem SeenM.obj {q dx : Addr} {fs : Fld} (h : Cell.obj q C0 dx fs ∈ L) (hm : fs.lookup m = none := by rfl) : SeenM C L ⟨(At.mk q)⟩ C0 m := fun R F H v o rv => by
  have rv : v = V.ref q := rv
  obtain ⟨vs, h1, _, h3⟩ := o.ok _ h
  exact ⟨q, dx, vs, rv, h1, fld_none h3 hm⟩
/-- o.m(e, ..) -/
theorem EM_meth.{u} {γ : Type u} {arg : γ → List Ent} {cel : γ → List Cell} {pre : γ → Prop} {post : γ → Ent → List Cell → Prop} {exc : γ → Value → Option Addr → List Cell → Prop} {pl : Sem Bool} (g : γ) (ok : C.Ok k) (cl : Cls C.X.K C0)
    (M : Ms C.X.prog C.X.w C.X.K C.X.mg C.X.base n C0 m (spM C.X.K arg cel pre post exc)) (ho : E C env L o r1) (ha : A C env L (e :: es) rs) (hg : arg g = r1 :: rs) (hp : pre g) (hL : L.Perm (cel g ++ LR)) (i1 : SeenM C L r1 C0 m) (hj : n ≤ k := by decide)
    (hst : starEach (e :: es) C.X.env = (false, eval e C.X.env) :: starEach es C.X.env := by rfl) (hpl : (backTo pos (starEach es C.X.env)).any (·.1) = false := by rfl)
    (ht : eval (.Call (.Attribute o m apos) (e :: es) [] pos) C.X.env = (do
      let ov ← eval o C.X.env
      standAt apos.atName
      let (f, first) ← holding [ov] (getMethod ov m pl)
      callWith pos f first (backTo pos (starEach (e :: es) C.X.env)) (backToKw pos (keywordEach [] C.X.env))) := by rfl) :
    EM C env L (.Call (.Attribute o m apos) (e :: es) [] pos) (enM post g LR) (enX exc g LR) := by
  obtain ⟨f, fd, ps, hM, _, hB, Fn⟩ := M.h
  refine ⟨⟨fun pins s σ H Qv I ⟨F, st, q1, q2⟩ => PySem.W.methodCall_KW (pl := pl) (ho.go I st fun u s1 v F1 H1 I1 ru x1 st1 rv => ?_) ht⟩⟩
  obtain ⟨q, dx, fs, rfl, h1, h2⟩ := i1 _ F1 H1 v st1.ow rv
  obtain rfl : u = Value.ref q := ru
  refine getmeth_ok I1 h1 cl hM h2 ?_
  refine PySem.W.callWith_K (first := [.ref q]) (h₀ := C.X.base) I1.ok.mod.kin hM.kp (ha.go I1 st1 (fun us s2 vs F2 H2 I2 rus x2 st2 rvs => ⟨I2.kIn, ?_⟩) pos) hst hpl
  refine wpAny_mono (run_ctr g ok Fn (Sub.here ok.room hj) hB hp hL I2 st2 (show Vals (V.ref q :: vs) (Value.ref q :: us) from .cons rfl rus) (by rw [hg]; exact .cons (Ent.mono x2 rv) rvs) (Qv := Qv) (fun v r L' F' H' hpo x s' rr => ?_) (fun cls d L' F' H' hx x s' => ?_)) (fun _ _ z => z) fun _ _ z => z
  · exact q1 v r _ F' H' ⟨L', hpo, rfl⟩ ((x1.tr x2).tr x) s' rr
  · exact q2 cls d _ F' H' ⟨L', hx, rfl⟩ ((x1.tr x2).tr x) s'
/-- o.m() -/
theorem EM_meth0.{u} {γ : Type u} {arg : γ → List Ent} {cel : γ → List Cell} {pre : γ → Prop} {post : γ → Ent → List Cell → Prop} {exc : γ → Value → Option Addr → List Cell → Prop} {pl : Sem Bool} (g : γ) (ok : C.Ok k) (cl : Cls C.X.K C0)
    (M : Ms C.X.prog C.X.w C.X.K C.X.mg C.X.base n C0 m (spM C.X.K arg cel pre post exc)) (ho : E C env L o r1) (hg : arg g = [r1]) (hp : pre g) (hL : L.Perm (cel g ++ LR)) (i1 : SeenM C L r1 C0 m) (hj : n ≤ k := by decide)
    (ht : eval (.Call (.Attribute o m apos) [] [] pos) C.X.env = (do
      let ov ← eval o C.X.env
      standAt apos.atName
      let (f, first) ← holding [ov] (getMethod ov m pl)
      callWith pos f first (backTo pos (starEach [] C.X.env)) (backToKw pos (keywordEach [] C.X.env))) := by rfl) :
    EM C env L (.Call (.Attribute o m apos) [] [] pos) (enM post g LR) (enX exc g LR) := by
  obtain ⟨f, fd, ps, hM, _, hB, Fn⟩ := M.h
  refine ⟨⟨fun pins s σ H Qv I ⟨F, st, q1, q2⟩ => PySem.W.methodCall_KW (pl := pl) (ho.go I st fun u s1 v F1 H1 I1 ru x1 st1 rv => ?_) ht⟩⟩
  obtain ⟨q, dx, fs, rfl, h1, h2⟩ := i1 _ F1 H1 v st1.ow rv
  obtain rfl : u = Value.ref q := ru
  refine getmeth_ok I1 h1 cl hM h2 ?_
  refine PySem.W.callWith_K0 (first := [.ref q]) I1.kIn hM.kp ?_
  refine wpAny_mono (run_ctr g ok Fn (Sub.here ok.room hj) hB hp hL I1 st1 (show Vals [V.ref q] [Value.ref q] from .cons rfl .nil) (by rw [hg]; exact .cons rv .nil) (Qv := Qv) (fun v r L' F' H' hpo x s' rr => ?_) (fun cls d L' F' H' hx x s' => ?_)) (fun _ _ z => z) fun _ _ z => z
  · exact q1 v r _ F' H' ⟨L', hpo, rfl⟩ (x1.tr x) s' rr
  · exact q2 cls d _ F' H' ⟨L', hx, rfl⟩ (x1.tr x) s'
/-- a class's generator method -/
structure Mg (P : Program) (w : World) (K : PySem.W.Frag) (mg : Str → Option Value) (base : Heap) (k : Nat) (C0 : Addr) (m : Str) (sp : SpG) : Prop where
  h : ∃ f fd ps, Meth K C0 m f ∧ Binds K fd ps [] ∧ GFn P w K mg base k f fd ps sp
/-- list(o.m()), m a generator -/
theorem E_listG.{u} {γ : Type u} {β : Type} [Rep β] {arg : γ → List Ent} {cel : γ → List Cell} {pre : γ → Prop} {res : γ → List β} {pl : Sem Bool} (g : γ) (ok : C.Ok k) (cl : Cls C.X.K C0)
    (M : Mg C.X.prog C.X.w C.X.K C.X.mg C.X.base n C0 m (spGen C.X.K arg cel pre res)) (ho : E C env L o r1) (hg : arg g = [r1]) (hp : pre g) (hL : L.Perm (cel g ++ LR)) (i1 : SeenM C L r1 C0 m) (hz : (res g).length ≤ sizeLine) (hm : C.X.mg "list" = none) (hj : n + 3 ≤ k := by decide) (hgl : Gl C.X "list" := by rfl)
    (ht : eval (.Call (.Attribute o m apos) [] [] pos) C.X.env = (do
      let ov ← eval o C.X.env
      standAt apos.atName
      let (f, first) ← holding [ov] (getMethod ov m pl)
      callWith pos f first (backTo pos (starEach [] C.X.env)) (backToKw pos (keywordEach [] C.X.env))) := by rfl)
    {p2 pos2 : Pos} (he : starEach [.Call (.Attribute o m apos) [] [] pos] C.X.env = (false, eval (.Call (.Attribute o m apos) [] [] pos) C.X.env) :: starEach [] C.X.env := by rfl) :
    E C env L (.Call (.Name "list" p2) [.Call (.Attribute o m apos) [] [] pos] [] pos2) ⟨res g⟩ := by
  obtain ⟨f, fd, ps, hM, hB, Fn⟩ := M.h
  refine ⟨PE.imp (pe_listG (E := fun _ _ _ => False) (pgen_meth0 (pl := pl) ho.p cl hM Fn (ok.room.mono (by omega)) hB .nil ht) (fun pins σ H s e s' I ⟨_, _, _, _, _, _, _, _, _, _, _, _, z⟩ => z.elim) (fun _ _ _ z => z.elim) (ok.room.mono hj) hgl hm boot_listx (by decide) (by decide) he) fun σ H Qv ⟨F, s, q⟩ => ⟨F, s, fun v F1 H1 x1 s1 rv => ?_⟩⟩
  obtain ⟨t, dx, fs, rfl, h1, h2⟩ := i1 _ F1 H1 v s1.ow rv
  refine ⟨t, dx, fs, rfl, h1, h2, g, frame H1 F1 (cel g), F1, hp, (s1.ow.perm hL.symm).call, by rw [hg]; exact .cons rv .nil, fun ys F2 H2 x2 o2 pr => ?_⟩
  intro l hn
  have o3 := ((s1.ow.perm hL.symm).back o2 x2).perm hL
  have s2 : Sta C F2 env L σ H2 := ⟨s1.sl.mono x2, o3⟩
  have gr := Gro.new (o := .lst ys) s2.ow.fH hn
  exact q _ _ _ ⟨(x1.f.tr x2).tr gr.f⟩ (s2.gro gr) ⟨l, ys, rfl, upd_same, pr.imp fun _ _ => Rep.mono gr.f, hz⟩
/-- lent, by the machine -/
theorem sp_lent.{u} {K : PySem.W.Frag} {γ : Type u} {arg : γ → List Ent} {cel : γ → List Cell} {pre : γ → Prop} {res : γ → Ent} {R F H : Hp} {vs : List V} {Qv : VK} (g : γ) (hp : pre g) (hL : L.Perm (cel g ++ LR)) (o : Own K R F H L) (pr : Pr (fun v r => Ent.rp r K F v) vs (arg g))
    (h : ∀ v F' H', Ex F F' → Own K R F' H' L → (res g).rp K F' v → Qv v H') : spB K arg cel pre res vs H Qv (fun _ _ _ => False) := by
  have o1 := o.perm hL.symm
  refine ⟨g, hp, frame H F (cel g), F, o1.call, pr, ?_, fun _ _ _ _ _ z => z.elim⟩
  rintro r L' v F' H' ⟨rfl, rfl⟩ x o' rr
  exact h v F' H' x ((o1.back o' x).perm hL) rr
/-- len(o), lent -/
theorem E_lenB.{u} {γ : Type u} {arg : γ → List Ent} {cel : γ → List Cell} {pre : γ → Prop} {res : γ → Int} (g : γ) (ok : C.Ok k) (M : Ms C.X.prog C.X.w C.X.K C.X.mg C.X.base n C0 "__len__" (spB C.X.K arg cel pre (fun g => ⟨res g⟩)))
    (he : E C env L e r1) (hg : arg g = [r1]) (hp : pre g) (hL : L.Perm (cel g ++ LR)) (hs : Seen C L r1 C0) (hb : 0 ≤ res g ∧ res g < 2 ^ 63) (hm : C.X.mg "len" = none) (hj : n + 1 ≤ k := by decide) (hgl : Gl C.X "len" := by rfl)
    (hst : starEach [e] C.X.env = (false, eval e C.X.env) :: starEach [] C.X.env := by rfl) (hpl : (backTo pos (starEach [] C.X.env)).any (·.1) = false := by rfl) : E C env L (.Call (.Name "len" p) [e] [] pos) ⟨res g⟩ := by
  obtain ⟨f, fd, ps, hM, _, hB, Fn⟩ := M.h
  have key : CallR C.X (.builtin "len") (fun xs H Qv => ∃ (R F : Hp) (q : Addr), xs = [.ref q] ∧ Own C.X.K R F H L ∧ r1.rp C.X.K F (.ref q) ∧ (∃ dx fs, H q = some (.ins C0 dx fs)) ∧ ∀ F' H', Ex F F' → Own C.X.K R F' H' L → Qv (.int (res g)) H') := by
    intro pins s σ H xs us Qv I rv h
    obtain ⟨R, F, q, rfl, ow, rq, ⟨dx, fs, hq⟩, h⟩ := h
    obtain ⟨u, rfl, ru⟩ := rv.one
    cases ru
    obtain ⟨ox, od, J, _⟩ := inst_at I hq
    obtain ⟨m', hF⟩ := I.fr
    refine PySem.W.len_K hF I.ok.mod.kin J hM.at_ hM.fn (wpAny_mono (run_sub0 Fn (Sub.in1 (Sub.here ok.room hj)) hB I (show Vals [V.ref q] [Value.ref q] from .cons rfl .nil) (Qv := fun v H' => v = .int (res g) ∧ Qv (.int (res g)) H') (sp_lent g hp hL ow (by rw [hg]; exact .cons rq .nil) fun v F' H' x o' rr => ⟨rr, h F' H' x o'⟩) _) (fun u s' z => ?_) fun _ _ z => z)
    obtain ⟨v, H', I', rv, rfl, z⟩ := z
    obtain ⟨t, rfl⟩ := rv
    exact ⟨hb, .int (res g), H', I'.tok _, ⟨_, rfl⟩, z⟩
  refine ⟨PE.imp (pe_callU key (Or.inl ⟨_, rfl⟩) hgl hm boot_len (A_cons he A_nil hst).p (by decide) (by decide) hst hpl) fun σ H Qv ⟨F, s, q⟩ => ⟨F, s, fun vs F1 H1 x1 s1 rv => ?_⟩⟩
  obtain ⟨v, rfl, rv2⟩ := one_of rv
  obtain ⟨t, dx, fs, rfl, ht⟩ := hs _ F1 H1 v s1.ow rv2
  exact ⟨_, F1, t, rfl, s1.ow, rv2, ⟨dx, fs, ht⟩, fun F' H' x2 o2 => q (.int (res g)) F' H' (x1.tr ⟨x2⟩) ⟨s1.sl.mono x2, o2⟩ rfl⟩
/-- x in o, lent -/
theorem pc_inO.{u} {γ : Type u} {arg : γ → List Ent} {cel : γ → List Cell} {pre : γ → Prop} {res : γ → Bool} (g : γ) (ok : C.Ok k) (M : Ms C.X.prog C.X.w C.X.K C.X.mg C.X.base n C0 "__contains__" (spB C.X.K arg cel pre (fun g => ⟨res g⟩)))
    (hb : E C env L b r2) (he : E C env L e r1) (hg : arg g = [r1, r2]) (hp : pre g) (hL : L.Perm (cel g ++ LR)) (hs : Seen C L r1 C0) (hj : n ≤ k := by decide) : PC C.X .In b e (eE C env L ⟨res g⟩) := by
  obtain ⟨f, fd, ps, hM, _, hB, Fn⟩ := M.h
  refine ⟨fun pins s σ H Qv I ⟨F, st, q⟩ => hb.go I st fun u s1 v F1 H1 I1 ru x1 st1 rv => he.go I1 st1 fun u2 s2 v2 F2 H2 I2 ru2 x2 st2 rv2 => ?_⟩
  obtain ⟨t, dx, fs, rfl, ht⟩ := hs _ F2 H2 v2 st2.ow rv2
  obtain rfl : u2 = Value.ref t := ru2
  obtain ⟨ox, od, J, _⟩ := inst_at I2 ht
  obtain ⟨m', hF⟩ := I2.fr
  refine PySem.W.in_K hF I2.ok.mod.kin J hM.at_ hM.fn (wpAny_mono (run_sub0 Fn (Sub.here ok.room hj) hB I2 (show Vals [V.ref t, v] [Value.ref t, u] from .cons rfl (.cons ru .nil)) (Qv := fun v H' => v = .bl (res g) ∧ Qv (.bl (res g)) H') (sp_lent g hp hL st2.ow (by rw [hg]; exact .cons rv2 (.cons (Ent.mono x2 rv) .nil)) fun v F' H' x o' rr => ⟨rr, q _ F' H' ⟨(x1.tr x2).tr x⟩ ⟨(st2.sl.mono x), o'⟩ rfl⟩) _) (fun u s' z => ?_) fun _ _ z => z)
  obtain ⟨v, H', I', rv, rfl, z⟩ := z
  cases rv
  exact wpAny_truthy_bool ⟨.bl (res g), H', I', rfl, z⟩
theorem E_inO.{u} {γ : Type u} {arg : γ → List Ent} {cel : γ → List Cell} {pre : γ → Prop} {res : γ → Bool} (g : γ) (ok : C.Ok k) (M : Ms C.X.prog C.X.w C.X.K C.X.mg C.X.base n C0 "__contains__" (spB C.X.K arg cel pre (fun g => ⟨res g⟩)))
    (hb : E C env L b r2) (he : E C env L e r1) (hg : arg g = [r1, r2]) (hp : pre g) (hL : L.Perm (cel g ++ LR)) (hs : Seen C L r1 C0) (hj : n ≤ k := by decide) (hm : behindInMarks .In e = false := by rfl) : E C env L (.Compare b [.In] [e] pos) ⟨res g⟩ := ⟨pe_cmp (pc_inO g ok M hb he hg hp hL hs hj) hm⟩
/-- o[i] = e, an own __setitem__ -/
theorem S_setO.{u} {γ : Type u} {arg : γ → List Ent} {cel : γ → List Cell} {pre : γ → Prop} {post : γ → Ent → List Cell → Prop} {exc : γ → Value → Option Addr → List Cell → Prop} {r3 : Ent} {pos' : Pos} (g : γ) (ok : C.Ok k) (nq : PySem.W.noSeq C.X.K C0 = true)
    (M : Ms C.X.prog C.X.w C.X.K C.X.mg C.X.base n C0 "__setitem__" (spM C.X.K arg cel pre post exc)) (he : E C env L e r3) (ho : E C env L o r1) (hb : E C env L b r2) (hg : arg g = [r1, r2, r3]) (hp : pre g) (hL : L.Perm (cel g ++ LR)) (i1 : Seen C L r1 C0)
    (hk : ∀ r L1, post g r L1 → S C env (L1 ++ LR) rest Q) (hx : ∀ cls d L1, exc g cls d L1 → Q.ex cls d env (L1 ++ LR)) (hj : n ≤ k := by decide) (hs : swapsWith e (some (.Subscript o b pos')) pos.line C.X.env = pure false := by rfl) : S C env L (.Assign [.Subscript o b pos'] e pos :: rest) Q := by
  obtain ⟨f, fd, ps, hM, _, hB, Fn⟩ := M.h
  refine S_cons ⟨⟨fun pins s σ H D I ⟨F, st, nn⟩ => wpAny_Assign_Subscript (he.go I st fun u s1 v F1 H1 I1 ru x1 st1 rv => ho.go I1 st1 fun u2 s2 v2 F2 H2 I2 ru2 x2 st2 rv2 => hb.go I2 st2 fun u3 s3 v3 F3 H3 I3 ru3 x3 st3 rv3 => ?_) hs⟩⟩
  obtain ⟨t, dx, fs, rfl, ht⟩ := i1 _ F3 H3 v2 st3.ow (Ent.mono x3 rv2)
  obtain rfl : u2 = Value.ref t := ru2
  obtain ⟨ox, od, J, _⟩ := inst_at I3 ht
  obtain ⟨m', hF⟩ := I3.fr
  refine PySem.W.ksp_setItem hF I3.ok.mod.kin J nq hM.at_ hM.fn ?_
  refine wpAny_mono (run_ctr g ok Fn (Sub.here ok.room hj) hB hp hL I3 st3 (show Vals [V.ref t, v3, v] [Value.ref t, u3, u] from .cons rfl (.cons ru3 (.cons ru .nil))) (by rw [hg]; exact .cons (Ent.mono x3 rv2) (.cons rv3 (.cons (Ent.mono (x2.tr x3) rv) .nil))) (Qv := fun _ H' => D.nx σ H') (fun v r L' F' H' hpo x s' rr => ?_) (fun cls d L' F' H' hx' x s' => ?_)) (fun u4 s4 z => ?_) fun _ _ z => z
  · exact nn.nx env (L' ++ LR) σ F' H' (hk r L' hpo) (((x1.tr x2).tr x3).tr x) s'
  · exact nn.ex cls d env (L' ++ LR) σ F' H' (hx cls d L' hx') (((x1.tr x2).tr x3).tr x) s'
  · obtain ⟨v4, H4, I4, _, z⟩ := z
    exact ⟨σ, H4, I4, z⟩
/-- xs.index(e), ints -/
theorem E_index {ns : List Int} {x : Int} {jx : Nat} {cpos : Pos} (ho : ER C env L a ns) (he : E C env L e ⟨x⟩) (h1 : ns[jx]? = some x) (h2 : ∀ m, m < jx → ns[m]? ≠ some x)
    (hbase : attributeBase a "index" C.X.env (eval a C.X.env) = eval a C.X.env := by rfl)
    (hfew : ((backTo cpos (starEach (e :: []) C.X.env)).all (fun x => !x.1) && (backToKw cpos (keywordEach [] C.X.env)).all (fun x => x.1.isSome) && decide ((e :: []).length + ([] : List Keyword).length + (if ([] : List Keyword).isEmpty then 0 else 1) < 30)) = true := by rfl)
    (hst : starEach [e] C.X.env = (false, eval e C.X.env) :: starEach [] C.X.env := by rfl) (hline : (apos.endLine == cpos.line) = true := by rfl) : E C env L (.Call (.Attribute a "index" apos) [e] [] cpos) ⟨(jx : Int)⟩ :=
  ⟨PE.imp (pe_bm PySem.F.plainAttrs_list PySem.F.slot_list_index PySem.F.type_list_index mt_index ho.p (pa_cons he.p pa_nil hst) hbase hfew hline hst rfl) fun σ H Qv ⟨F, s, q⟩ => ⟨F, s, fun p F1 H1 x1 s1 hr hz => by
    obtain ⟨vs0, g0, _⟩ := hr F1 H1 (Ex.rf F1) s1.ow
    refine ⟨Or.inl ⟨rfl, vs0, g0⟩, F1, s1, fun w F2 H2 x2 s2 rw' => ?_⟩
    obtain ⟨vs, g1, g2⟩ := hr F2 H2 x2.f s2.ow
    have rw' : w = V.int x := rw'
    subst rw'
    have e1 := Pr.ints g2
    subst e1
    refine ⟨p, _, _, jx, V.int x, rfl, rfl, g1, rfl, all_flatI ns, by rw [List.getElem?_map, h1]; rfl, ?_, fun m z' hm hz' => ?_, q _ F2 H2 (x1.tr x2) s2 rfl⟩
    · simp [eqV]
    · rw [List.getElem?_map] at hz'
      cases qm : ns[m]? with
      | none => rw [qm] at hz'; cases hz'
      | some y =>
        rw [qm] at hz'
        cases hz'
        have : y ≠ x := fun z => h2 m hm (by rw [qm, z])
        simp [eqV, this]⟩⟩
/-- return e, the cells are forgotten -/
theorem S_retD (he : E C env L e r) (h : Q.rt r []) : S C env L (.Return (some e) pos :: rest) Q :=
  S_retM (EM.dropP (P' := fun r' L' => r' = r ∧ L' = []) he.m fun r' L' ⟨h1, h2⟩ => ⟨L, [], by rw [h2, List.append_nil], h1, rfl⟩) (fun r' L' z => by obtain ⟨rfl, rfl⟩ := z; exact h) (fun _ _ _ z => z.elim)
theorem S_conv {L' : List Cell} {sts : List Stmt} (e : L = L') (h : S C env L' sts Q) : S C env L sts Q := e ▸ h
theorem S_perm {L' : List Cell} {sts : List Stmt} (h : S C env L' sts Q) (p : L'.Perm L) : S C env L sts Q := ⟨PSs.imp h.p fun D σ H ⟨F, s, n⟩ => ⟨F, ⟨s.sl, s.ow.perm p⟩, n⟩⟩
end
end Py

namespace Py
open PySem PySem.Spec PyProof.Rows L2
/-! ### dicts whose keys are nested tuples -/
class NI (α : Type) [Rep α] where
  ni : α → NestedKey
  n : Nat
  dn : ∀ a, (ni a).depth ≤ n
  inj : ∀ a b, ni a = ni b → a = b
  is : ∀ {X : Cx} {pins : List (Addr × Obj)} {σ : Py.St} {H F : Hp} {s : Shared} {v : V} {u : Value} {a : α}, L2.Inv X pins σ H s → Ex F H → Rep.rp X.K F v a → RelV v u → NestedIs s.heap (ni a) u
instance : NI Int := ⟨.num, 0, fun _ => Nat.le_refl _, fun a b h => by injection h, fun {X pins σ H F s v u a} I e h r => by
  rw [show v = V.int a from h] at r
  obtain ⟨t, rfl⟩ := r
  exact .int a t⟩
instance : NI Str := ⟨.text, 0, fun _ => Nat.le_refl _, fun a b h => by injection h, fun {X pins σ H F s v u a} I e h r => by
  rw [show v = V.str a from h.1] at r
  obtain ⟨t, rfl⟩ := r
  exact .text a t⟩
theorem ni_all {α : Type} [Rep α] [NI α] {X : Cx} {pins : List (Addr × Obj)} {σ : Py.St} {H F : Hp} {s : Shared} (I : L2.Inv X pins σ H s) (e : Ex F H) : ∀ {vs : List V} {as : List α} {us : List Value}, Pr (Rep.rp X.K F) vs as → Vals vs us → NestedAll s.heap (as.map NI.ni) us
  | _, _, _, .nil, .nil => .nil
  | _, _, _, .cons h t, .cons r rs => .cons (NI.is I e h r) (ni_all I e t rs)
theorem ni_depth {α : Type} [Rep α] [NI α] : ∀ as : List α, NestedKey.depthAll (as.map NI.ni) ≤ NI.n α
  | [] => by simp [NestedKey.depthAll]
  | a :: as => by
    rw [List.map_cons, NestedKey.depthAll]
    exact Nat.max_le.mpr ⟨NI.dn a, ni_depth as⟩
theorem ni_mapinj {α : Type} [Rep α] [NI α] : ∀ {as bs : List α}, as.map NI.ni = bs.map NI.ni → as = bs
  | [], [], _ => rfl
  | [], _ :: _, h => by cases h
  | _ :: _, [], h => by cases h
  | a :: as, b :: bs, h => by
    rw [List.map_cons, List.map_cons] at h
    injection h with h1 h2
    rw [NI.inj _ _ h1, ni_mapinj h2]
instance {α : Type} [Rep α] [NI α] : NI (Tup α) := ⟨fun t => .tup (t.l.map NI.ni), NI.n α + 1, fun t => by
  rw [NestedKey.depth]
  exact Nat.succ_le_succ (ni_depth t.l), fun a b h => by
  injection h with h
  have h := ni_mapinj h
  cases a; cases b
  cases h
  rfl, fun {X pins σ H F s v u a} I e h r => by
  obtain ⟨p, vs, rfl, h1, h2, _⟩ := h
  obtain rfl : u = Value.ref p := r
  obtain ⟨its, rv, ⟨o, ho, hc, n, hd⟩, _⟩ := I.tuple (ex_t e h1)
  exact .tup ho hc hd (ni_all I e h2 (by simpa using rv))⟩
instance {α β : Type} [Rep α] [Rep β] [NI α] [NI β] : NI (P2 α β) := ⟨fun t => .tup [NI.ni t.a, NI.ni t.b], max (NI.n α) (NI.n β) + 1, fun t => by
  simp only [NestedKey.depth, NestedKey.depthAll]
  have := NI.dn t.a
  have := NI.dn t.b
  omega, fun a b h => by
  injection h with h
  injection h with h1 h2
  injection h2 with h2 _
  have e1 := NI.inj _ _ h1
  have e2 := NI.inj _ _ h2
  cases a; cases b
  cases e1; cases e2
  rfl, fun {X pins σ H F s v u a} I e h r => by
  obtain ⟨p, x, y, rfl, h1, h2, h3⟩ := h
  obtain rfl : u = Value.ref p := r
  obtain ⟨its, rv, ⟨o, ho, hc, n, hd⟩, _⟩ := I.tuple (ex_t e h1)
  obtain ⟨u1, u2, rfl, r1, r2⟩ := vals2 rv
  exact .tup ho hc hd (.cons (NI.is I e h2 r1) (.cons (NI.is I e h3 r2) .nil))⟩
/-- at d a dict with these entries -/
def DkO (P : Program) (w : World) (d : Addr) (xs : List (NestedKey × Addr × Value)) : HO := .ext fun h => ∃ o es ep, h.get? d = some o ∧ o.ExactDict ∧ o.data = .dict es ep ∧ es.toList = xs.map (entryOfKey (nestedKind P w)) ∧ (d == sysModules) = false ∧ (xs.map (·.1)).Nodup
theorem dkO_ok {P : Program} {w : World} {d : Addr} {xs : List (NestedKey × Addr × Value)} {H : Hp} {h : Heap} (e : ∃ o es ep, h.get? d = some o ∧ o.ExactDict ∧ o.data = .dict es ep ∧ es.toList = xs.map (entryOfKey (nestedKind P w)) ∧ (d == sysModules) = false ∧ (xs.map (·.1)).Nodup) : ObjOk P w H h d (DkO P w d xs) :=
  ⟨e, let ⟨o, _, _, z, _⟩ := e; ⟨o, z⟩, fun h1 h2 ⟨o, es, ep, z, q⟩ k => ⟨o, es, ep, k o z, q⟩⟩
section
variable {κ α : Type} [Rep κ] [DecidableEq κ] [NI κ] [Rep α]
def NOk (K : PySem.W.Frag) (F : Hp) (x : NestedKey × Addr × Value) (p : κ × α) : Prop := x.1 = NI.ni p.1 ∧ Rep.rp K F (V.ref x.2.1) p.1 ∧ ∃ v, RelV v x.2.2 ∧ Rep.rp K F v p.2
theorem NOk.mono {K F F'} {a : NestedKey × Addr × Value} {b : κ × α} (x : Ex F F') (h : NOk K F a b) : NOk K F' a b := ⟨h.1, Rep.mono x h.2.1, let ⟨v, h1, h2⟩ := h.2.2; ⟨v, h1, Rep.mono x h2⟩⟩
/-- a dict of one's own, nested keys -/
def Cell.dkn (P : Program) (w : World) (d : Addr) (m : List (κ × α)) : Cell := ⟨[d], fun K F H => (∃ xs, H d = some (DkO P w d xs) ∧ Pr (NOk K F) xs m) ∧ m.length ≤ sizeLine, fun x h ⟨⟨vs, h1, h2⟩, h3⟩ => ⟨⟨vs, by rw [h d List.mem_cons_self]; exact h1, h2.imp fun _ _ => NOk.mono x⟩, h3⟩,
  fun ⟨⟨vs, h1, _⟩, _⟩ a ha => by rw [List.mem_singleton.mp ha]; exact ⟨_, h1⟩⟩
theorem dkn_at {X : Cx} {pins : List (Addr × Obj)} {σ : Py.St} {H F : Hp} {s : Shared} {d : Addr} {xs : List (NestedKey × Addr × Value)} {m : List (κ × α)} (hn : NI.n κ ≤ 8) (I : L2.Inv X pins σ H s) (e : Ex F H) (hd : H d = some (DkO X.prog X.w d xs)) (pr : Pr (NOk X.K F) xs m) :
    s.heap.DictOfH (nestedKind X.prog X.w) d xs ∧ (d == sysModules) = false := by
  obtain ⟨⟨o, es, ep, h1, h2, h3, h4, h5, h6⟩, _⟩ := I.hok d _ hd
  refine ⟨⟨o, es, ep, h1, h2, h3, h4, ?_, h6⟩, h5⟩
  intro x hx
  obtain ⟨i, hi⟩ := List.mem_iff_getElem?.mp hx
  obtain ⟨p, hp, z1, z2, _⟩ := pr.getL hi
  refine ⟨?_, ?_⟩
  · rw [z1]
    exact NI.is I e z2 (show RelV (V.ref x.2.1) (Value.ref x.2.1) from rfl)
  · rw [z1]
    exact Nat.le_trans (NI.dn p.1) hn
theorem pr_atKey {K F} {xs : List (NestedKey × Addr × Value)} {m : List (κ × α)} (h : Pr (NOk K F) xs m) (k : κ) : (∀ y, lkp m k = some y → ∃ a u v, atKey xs (NI.ni k) = some (a, u) ∧ RelV v u ∧ Rep.rp K F v y) ∧ (lkp m k = none → atKey xs (NI.ni k) = none) := by
  induction h with
  | nil => exact ⟨fun y z => (by cases z), fun _ => rfl⟩
  | @cons a b as bs h t ih =>
    obtain ⟨h1, h2, v, h3, h4⟩ := h
    have e1 : atKey (a :: as) (NI.ni k) = if a.1 = NI.ni k then some a.2 else atKey as (NI.ni k) := by
      unfold atKey
      rw [List.find?_cons]
      by_cases q : a.1 = NI.ni k
      · rw [if_pos q, decide_eq_true q]; rfl
      · rw [if_neg q, decide_eq_false q]
    rw [lkp_cons, e1]
    by_cases e : b.1 = k
    · rw [if_pos e, if_pos (by rw [h1, e])]
      refine ⟨fun y z => ?_, fun z => by cases z⟩
      cases z
      exact ⟨a.2.1, a.2.2, v, rfl, h3, h4⟩
    · rw [if_neg e, if_neg (fun z => e (NI.inj _ _ (h1.symm.trans z)))]
      exact ih
theorem pr_stored {K F} {xs : List (NestedKey × Addr × Value)} {m : List (κ × α)} (h : Pr (NOk K F) xs m) {k : κ} {y : α} {a : Addr} {v : V} {u : Value} (hk : Rep.rp K F (V.ref a) k) (hv : Rep.rp K F v y) (r : RelV v u) : Pr (NOk K F) (storedH xs (NI.ni k) a u) (putA m k y) := by
  unfold storedH putA
  obtain ⟨h1, h2⟩ := pr_atKey h k
  cases q : lkp m k with
  | some x =>
    obtain ⟨a0, u0, v0, h3, _⟩ := h1 x q
    rw [h3, if_pos (show (some (a0, u0)).isSome = true from rfl), if_pos (show (some x).isSome = true from rfl)]
    clear h1 h2 q h3
    induction h with
    | nil => exact .nil
    | @cons a b as bs h t ih =>
      rw [List.map_cons, List.map_cons]
      refine .cons ?_ ih
      obtain ⟨g1, g2, g3⟩ := h
      unfold putAt
      by_cases e : b.1 = k
      · rw [if_pos e, if_pos (by rw [g1, e])]
        exact ⟨g1, g2, v, r, hv⟩
      · rw [if_neg e, if_neg (fun z => e (NI.inj _ _ (g1.symm.trans z)))]
        exact ⟨g1, g2, g3⟩
  | none =>
    rw [h2 q, if_neg (show ¬ (none : Option (Addr × Value)).isSome = true from fun z => by cases z), if_neg (show ¬ (none : Option α).isSome = true from fun z => by cases z)]
    exact h.append (.cons ⟨rfl, hk, v, r, hv⟩ .nil)
end
/-! raw rules -/
def KIs (X : Cx) (H : Hp) (a : Addr) (k : NestedKey) : Prop := ∀ {pins : List (Addr × Obj)} {σ : Py.St} {s : Shared}, L2.Inv X pins σ H s → (nestedKind X.prog X.w).is s.heap k a
def KD (X : Cx) (H : Hp) (d : Addr) (xs : List (NestedKey × Addr × Value)) : Prop := ∀ {pins : List (Addr × Obj)} {σ : Py.St} {s : Shared}, L2.Inv X pins σ H s → s.heap.DictOfH (nestedKind X.prog X.w) d xs ∧ (d == sysModules) = false
def tKGet (X : Cx) (td ty : TE) : TE := fun σ H Q => td σ H fun x H1 => ty σ H1 fun y H2 => ∃ d xs k p v a, x = .ref d ∧ y = .ref a ∧ KD X H2 d xs ∧ KIs X H2 a k ∧ atKey xs k = some p ∧ RelV v p.2 ∧ Q v H2
def tKIn (X : Cx) (ng : Bool) (ty td : TE) : TE := fun σ H Q => ty σ H fun y H1 => td σ H1 fun x H2 => ∃ d xs k a, x = .ref d ∧ y = .ref a ∧ KD X H2 d xs ∧ KIs X H2 a k ∧ Q (.bl (ng ^^ (atKey xs k).isSome)) H2
def sKPut (X : Cx) (td ty tv : TE) : TS := fun D σ H => tv σ H fun v H1 => td σ H1 fun x H2 => ty σ H2 fun y H3 => ∃ d xs k a, x = .ref d ∧ y = .ref a ∧ H3 d = some (DkO X.prog X.w d xs) ∧ KD X H3 d xs ∧ KIs X H3 a k ∧ xs.length ≤ sizeLine ∧ ∀ r, RelV v r → D.nx σ (upd H3 d (DkO X.prog X.w d (storedH xs k a r)))
section
variable {X : Cx} {o i e value : Expr} {pos pos' : Pos} {td ty tv : TE}
theorem pe_kget (hu : X.A.units + 9 < cLine) (ho : PE X o td) (hi : PE X i ty) (hs : NoSl i) : PE X (.Subscript o i pos) (tKGet X td ty) := by
  refine ⟨fun pins s σ H Q I h => ?_⟩
  refine subD_of PySem.F.slot_dict_getitem.lookup hs (thn (ho.run pins s σ H _ I h) fun u s1 ⟨x, H1, I1, rx, q1⟩ => thn (hi.run pins s1 σ H1 _ I1 q1) fun iv s2 ⟨y, H2, I2, ry, d, xs, k, p, v, a, ex, ey, kd, ki, hp, rv, q2⟩ => ?_)
  subst ex ey
  obtain rfl : u = Value.ref d := rx
  obtain rfl : iv = Value.ref a := ry
  have hk := ki I2
  obtain ⟨dd, _⟩ := kd I2
  exact ⟨dd.typeIs, wpAny_getItem_heap (show X.A.units + 1 + 8 < cLine by omega) hk dd hp ⟨v, H2, I2.tok _, rv, q2⟩⟩
theorem pc_kin (hu : X.A.units + 9 < cLine) (hi : PE X i ty) (ho : PE X o td) : PC X .In i o (tKIn X false ty td) := by
  refine ⟨fun pins s σ H Q I h => ?_⟩
  refine thn (hi.run pins s σ H _ I h) fun iv s1 ⟨y, H1, I1, ry, q1⟩ => thn (ho.run pins s1 σ H1 _ I1 q1) fun u s2 ⟨x, H2, I2, rx, d, xs, k, a, ex, ey, kd, ki, q2⟩ => ?_
  subst ex ey
  obtain rfl : u = Value.ref d := rx
  obtain rfl : iv = Value.ref a := ry
  have hk := ki I2
  obtain ⟨dd, hd⟩ := kd I2
  rw [Bool.false_xor] at q2
  exact wpAny_in_heap (show X.A.units + 1 + 8 < cLine by omega) hk hd dd ⟨.bl (atKey xs k).isSome, H2, I2.tok _, rfl, q2⟩
theorem pc_knin (hu : X.A.units + 9 < cLine) (hi : PE X i ty) (ho : PE X o td) : PC X .NotIn i o (tKIn X true ty td) := by
  refine ⟨fun pins s σ H Q I h => ?_⟩
  refine thn (hi.run pins s σ H _ I h) fun iv s1 ⟨y, H1, I1, ry, q1⟩ => thn (ho.run pins s1 σ H1 _ I1 q1) fun u s2 ⟨x, H2, I2, rx, d, xs, k, a, ex, ey, kd, ki, q2⟩ => ?_
  subst ex ey
  obtain rfl : u = Value.ref d := rx
  obtain rfl : iv = Value.ref a := ry
  have hk := ki I2
  obtain ⟨dd, hd⟩ := kd I2
  rw [Bool.true_xor] at q2
  exact wpAny_notIn_heap (show X.A.units + 1 + 8 < cLine by omega) hk hd dd ⟨.bl (!(atKey xs k).isSome), H2, I2.tok _, rfl, q2⟩
theorem ps_kput (hu : X.A.units + 9 < cLine) (ho : PE X o td) (hi : PE X i ty) (hv : PE X value tv) (hs : swapsWith value (some (.Subscript o i pos')) pos.line X.env = pure false) :
    PS X (.Assign [.Subscript o i pos'] value pos) (sKPut X td ty tv) := by
  refine ⟨fun pins s σ H D I h => ?_⟩
  refine wpAny_Assign_Subscript (thn (hv.run pins s σ H _ I h) fun r s1 ⟨v, H1, I1, rv, q1⟩ => thn (ho.run pins s1 σ H1 _ I1 q1) fun u s2 ⟨x, H2, I2, rx, q2⟩ => thn (hi.run pins s2 σ H2 _ I2 q2) fun iv s3 ⟨y, H3, I3, ry, d, xs, k, a, ex, ey, hd, kd, ki, hz, q3⟩ => ?_) hs
  subst ex ey
  obtain rfl : u = Value.ref d := rx
  obtain rfl : iv = Value.ref a := ry
  have hk := ki I3
  obtain ⟨dd, hds⟩ := kd I3
  refine wpAny_setItem_heap (hsz := hz) (show X.A.units + 1 + 8 < cLine by omega) hk dd fun h' dd' hs' => ?_
  obtain ⟨ob, es, ep, g1, g2, g3, g4, g5, g6⟩ := dd'
  exact ⟨σ, _, d_write I3 (by rw [hd]; exact True.intro) hs' ⟨ob, g1⟩ (dkO_ok ⟨ob, es, ep, g1, g2, g3, g4, hds, g6⟩), q3 r rv⟩
theorem pe_knew : PE X (.Dict [] [] pos) (fun _ H Q => ∀ p, H p = none → Q (.ref p) (upd H p (DkO X.prog X.w p []))) := ⟨fun pins s σ H Q I h =>
  wpAny_Dict_empty ⟨.ref s.heap.objs.size, _, I.laid (a := s.heap.objs.size) (o := DkO X.prog X.w s.heap.objs.size []) (t' := s.toks) (fun _ _ q => Heap.get?_push_of_some _ q) (Nat.le_refl _)
    (dkO_ok ⟨_, #[], 0, Heap.get?_push_size _ rfl, ⟨rfl, rfl, rfl⟩, rfl, rfl, beq_eq_false_iff_ne.mpr (Ne.symm (Nat.ne_of_lt I.big)), List.nodup_nil⟩), rfl, h _ (I.hok.fresh (Nat.le_refl _))⟩⟩
end
section
variable {κ α : Type} [Rep κ] [DecidableEq κ] [NI κ] [Rep α] {C : Cz} {k : Nat} {env : Env} {L : List Cell} {a b o e : Expr} {pos p : Pos} {m : List (κ × α)} {d : Addr} {x : κ} {y : α} {Q : Po} {rest : List Stmt}
/-- a key that is an object -/
class NR (κ : Type) [Rep κ] : Prop where
  ref : ∀ {K F v} {a : κ}, Rep.rp K F v a → ∃ p, v = .ref p
instance {α : Type} [Rep α] : NR (Tup α) := ⟨fun ⟨p, _, h, _⟩ => ⟨p, h⟩⟩
instance {α β : Type} [Rep α] [Rep β] : NR (P2 α β) := ⟨fun ⟨p, _, _, h, _⟩ => ⟨p, h⟩⟩
/-- a frozen dict, nested keys -/
structure Dkn (κ α : Type) where
  P : Program
  w : World
  l : List (κ × α)
instance : Rep (Dkn κ α) := ⟨fun K F v a => ∃ d xs, v = .ref d ∧ F d = some (DkO a.P a.w d xs) ∧ Pr (NOk K F) xs a.l ∧ a.l.length ≤ sizeLine, fun e ⟨d, kvs, h1, h2, h3, h4⟩ => ⟨d, kvs, h1, e _ _ h2, h3.imp fun _ _ => NOk.mono e, h4⟩⟩
def Rkd (C : Cz) (L : List Cell) (p : Addr) (m : List (κ × α)) (F : Hp) : Prop := ∀ F2 H2, Ex F F2 → Own C.X.K C.R F2 H2 L → ∃ xs, H2 p = some (DkO C.X.prog C.X.w p xs) ∧ Pr (NOk C.X.K F2) xs m
def eK (C : Cz) (env : Env) (L : List Cell) (m : List (κ × α)) : TE := fun σ H Q => ∃ F, Sta C F env L σ H ∧ ∀ p F' H', Gw F H F' H' → Sta C F' env L σ H' → Rkd C L p m F' → m.length ≤ sizeLine → Q (.ref p) H'
structure EK (C : Cz) (env : Env) (L : List Cell) (e : Expr) (m : List (κ × α)) : Prop where
  p : PE C.X e (eK C env L m)
theorem EK.own (h : E C env L a ⟨(At.mk d)⟩) (hL : Cell.dkn C.X.prog C.X.w d m ∈ L) : EK C env L a m := ⟨PE.imp h.p fun σ H Q ⟨F, s, q⟩ => ⟨F, s, fun v F1 H1 x1 s1 rv => by
  have rv : v = V.ref d := rv
  subst rv
  exact q d F1 H1 x1 s1 (fun F2 H2 x2 o2 => by
    obtain ⟨⟨vs, h1, h2⟩, h3⟩ := o2.ok _ hL
    exact ⟨vs, h1, h2⟩) (s1.ow.ok _ hL).2⟩⟩
theorem EK.imm (h : E C env L a ⟨(Dkn.mk C.X.prog C.X.w m)⟩) : EK C env L a m := ⟨PE.imp h.p fun σ H Q ⟨F, s, q⟩ => ⟨F, s, fun v F1 H1 x1 s1 rv => by
  obtain ⟨p, kvs, rfl, h1, h2, h3⟩ := rv
  exact q p F1 H1 x1 s1 (fun F2 H2 x2 o2 => ⟨kvs, o2.fH _ _ (x2 _ _ h1), h2.imp fun _ _ => NOk.mono x2⟩) h3⟩⟩
theorem kis_of {X : Cx} {F H : Hp} {q : Addr} (hn : NI.n κ ≤ 8) (e : Ex F H) (h : Rep.rp X.K F (V.ref q) x) : KIs X H q (NI.ni x) := fun I => ⟨NI.is I e h (show RelV (V.ref q) (Value.ref q) from rfl), Nat.le_trans (NI.dn x) hn⟩
variable [NR κ]
/-- d[k] -/
theorem E_kget (ok : C.Ok k) (ha : EK C env L a m) (hb : E C env L b ⟨x⟩) (h : lkp m x = some y) (hn : NI.n κ ≤ 8 := by decide) (hs : NoSl b := by exact fun _ _ => rfl) : E C env L (.Subscript a b pos) ⟨y⟩ :=
  ⟨PE.imp (pe_kget (by have := ok.room.un; omega) ha.p hb.p hs) fun σ H Q ⟨F, s, q⟩ => ⟨F, s, fun p F1 H1 x1 s1 hr hz => ⟨F1, s1, fun w F2 H2 x2 s2 rw' => by
    obtain ⟨xs, h1, h2⟩ := hr F2 H2 x2.f s2.ow
    obtain ⟨a', u, v, h3, h4, h5⟩ := (pr_atKey h2 x).1 y h
    obtain ⟨pk, rfl⟩ := NR.ref rw'
    exact ⟨p, xs, NI.ni x, (a', u), v, pk, rfl, rfl, fun I => dkn_at hn I s2.ow.fH h1 h2, kis_of hn s2.ow.fH rw', h3, h4, q v F2 H2 (x1.tr x2) s2 h5⟩⟩⟩⟩
theorem kin_aux {K F} {xs : List (NestedKey × Addr × Value)} (h2 : Pr (NOk K F) xs m) : (atKey xs (NI.ni x)).isSome = (lkp m x).isSome := by
  obtain ⟨g1, g2⟩ := pr_atKey h2 x
  cases q : lkp m x with
  | some y => obtain ⟨a, u, v, h3, _⟩ := g1 y q; rw [h3]; rfl
  | none => rw [g2 q]; rfl
/-- k in d -/
theorem E_kin (ok : C.Ok k) (hb : E C env L b ⟨x⟩) (ha : EK C env L a m) (hn : NI.n κ ≤ 8 := by decide) (hm : behindInMarks .In a = false := by rfl) : E C env L (.Compare b [.In] [a] pos) ⟨(lkp m x).isSome⟩ :=
  ⟨PE.imp (pe_cmp (pc_kin (by have := ok.room.un; omega) hb.p ha.p) hm) fun σ H Q ⟨F, s, q⟩ => ⟨F, s, fun w F1 H1 x1 s1 rw' => ⟨F1, s1, fun p F2 H2 x2 s2 hr hz => by
    obtain ⟨xs, h1, h2⟩ := hr F2 H2 (Ex.rf F2) s2.ow
    obtain ⟨pk, rfl⟩ := NR.ref rw'
    refine ⟨p, xs, NI.ni x, pk, rfl, rfl, fun I => dkn_at hn I s2.ow.fH h1 h2, kis_of hn s2.ow.fH (Rep.mono x2.f rw'), ?_⟩
    rw [kin_aux h2, Bool.false_xor]
    exact q _ F2 H2 (x1.tr x2) s2 rfl⟩⟩⟩
theorem E_knin (ok : C.Ok k) (hb : E C env L b ⟨x⟩) (ha : EK C env L a m) (hn : NI.n κ ≤ 8 := by decide) (hm : behindInMarks .NotIn a = false := by rfl) : E C env L (.Compare b [.NotIn] [a] pos) ⟨!(lkp m x).isSome⟩ :=
  ⟨PE.imp (pe_cmp (pc_knin (by have := ok.room.un; omega) hb.p ha.p) hm) fun σ H Q ⟨F, s, q⟩ => ⟨F, s, fun w F1 H1 x1 s1 rw' => ⟨F1, s1, fun p F2 H2 x2 s2 hr hz => by
    obtain ⟨xs, h1, h2⟩ := hr F2 H2 (Ex.rf F2) s2.ow
    obtain ⟨pk, rfl⟩ := NR.ref rw'
    refine ⟨p, xs, NI.ni x, pk, rfl, rfl, fun I => dkn_at hn I s2.ow.fH h1 h2, kis_of hn s2.ow.fH (Rep.mono x2.f rw'), ?_⟩
    rw [kin_aux h2, Bool.true_xor]
    exact q _ F2 H2 (x1.tr x2) s2 rfl⟩⟩⟩
theorem T_kin (ok : C.Ok k) (hb : E C env L b ⟨x⟩) (ha : EK C env L a m) (hn : NI.n κ ≤ 8 := by decide) (hm : behindInMarks .In a = false := by rfl) : T C env L (.Compare b [.In] [a] pos) (lkp m x).isSome :=
  ⟨PT.imp (pt_cmp (pc_kin (by have := ok.room.un; omega) hb.p ha.p) hm) fun σ H Q ⟨F, s, q⟩ => ⟨F, s, fun w F1 H1 x1 s1 rw' => ⟨F1, s1, fun p F2 H2 x2 s2 hr hz => by
    obtain ⟨xs, h1, h2⟩ := hr F2 H2 (Ex.rf F2) s2.ow
    obtain ⟨pk, rfl⟩ := NR.ref rw'
    exact ⟨p, xs, NI.ni x, pk, rfl, rfl, fun I => dkn_at hn I s2.ow.fH h1 h2, kis_of hn s2.ow.fH (Rep.mono x2.f rw'), (lkp m x).isSome, by rw [kin_aux h2, Bool.false_xor], q F2 H2 (x1.tr x2) s2⟩⟩⟩⟩
theorem T_knin (ok : C.Ok k) (hb : E C env L b ⟨x⟩) (ha : EK C env L a m) (hn : NI.n κ ≤ 8 := by decide) (hm : behindInMarks .NotIn a = false := by rfl) : T C env L (.Compare b [.NotIn] [a] pos) (!(lkp m x).isSome) :=
  ⟨PT.imp (pt_cmp (pc_knin (by have := ok.room.un; omega) hb.p ha.p) hm) fun σ H Q ⟨F, s, q⟩ => ⟨F, s, fun w F1 H1 x1 s1 rw' => ⟨F1, s1, fun p F2 H2 x2 s2 hr hz => by
    obtain ⟨xs, h1, h2⟩ := hr F2 H2 (Ex.rf F2) s2.ow
    obtain ⟨pk, rfl⟩ := NR.ref rw'
    exact ⟨p, xs, NI.ni x, pk, rfl, rfl, fun I => dkn_at hn I s2.ow.fH h1 h2, kis_of hn s2.ow.fH (Rep.mono x2.f rw'), !(lkp m x).isSome, by rw [kin_aux h2, Bool.true_xor], q F2 H2 (x1.tr x2) s2⟩⟩⟩⟩
/-- d[k] = e -/
theorem S_kput {pos' : Pos} (kk : Nat) (ok : C.Ok k) (he : E C env L e ⟨y⟩) (ho : E C env L o ⟨(At.mk d)⟩) (hb : E C env L b ⟨x⟩) (hL : L[kk]? = some (Cell.dkn C.X.prog C.X.w d m)) (hz : m.length < sizeLine) (hk : S C env (L.set kk (Cell.dkn C.X.prog C.X.w d (putA m x y))) rest Q)
    (hn : NI.n κ ≤ 8 := by decide) (hs : swapsWith e (some (.Subscript o b pos')) pos.line C.X.env = pure false := by rfl) : S C env L (.Assign [.Subscript o b pos'] e pos :: rest) Q :=
  S_cons ⟨PS.imp (ps_kput (by have := ok.room.un; omega) ho.p hb.p he.p hs) fun D σ H ⟨F, s, n⟩ => ⟨F, s, fun v F1 H1 x1 s1 rv => ⟨F1, s1, fun w F2 H2 x2 s2 rw' => ⟨F2, s2, fun w3 F3 H3 x3 s3 rw3 => by
    have rw' : w = V.ref d := rw'
    subst rw'
    obtain ⟨⟨xs, h1, h2⟩, h3⟩ := s3.ow.ok _ (List.mem_of_getElem? hL)
    obtain ⟨pk, rfl⟩ := NR.ref rw3
    refine ⟨d, xs, NI.ni x, pk, rfl, rfl, h1, fun I => dkn_at hn I s3.ow.fH h1 h2, kis_of hn s3.ow.fH rw3, by rw [h2.length]; exact h3, fun r rr => ?_⟩
    refine n.nx env _ σ F3 _ hk ((x1.f.tr x2.f).tr x3.f) ⟨s3.sl, s3.ow.put hL rfl (fun b hb => upd_ne fun z => hb (by rw [z]; exact List.mem_cons_self)) ⟨⟨_, upd_same, pr_stored h2 rw3 (Rep.mono (x2.f.tr x3.f) rv) rr⟩, ?_⟩⟩
    have := putA_len m x y
    omega⟩⟩⟩⟩
omit [NR κ] in
/-- {} -/
theorem EM_knew (κ α : Type) [Rep κ] [DecidableEq κ] [NI κ] [Rep α] : EM C env L (.Dict [] [] pos) (fun r L' => ∃ d, r = ⟨(At.mk d)⟩ ∧ L' = Cell.dkn C.X.prog C.X.w d ([] : List (κ × α)) :: L) (fun _ _ _ => False) :=
  ⟨PE.imp pe_knew fun σ H Q ⟨F, s, q, _⟩ => fun p hn => q (.ref p) _ _ F _ ⟨p, rfl, rfl⟩ (Ex.rf F) ⟨s.sl, s.ow.cell hn rfl ⟨⟨[], upd_same, .nil⟩, Nat.zero_le _⟩⟩ rfl⟩
end
end Py

set_option maxHeartbeats 3200000
namespace Py
open PySem PySem.Spec PyProof.Rows L2
/-! ### set([..]) of ints, sorted -/
section
variable {P : Program} {w : World} {A : Around} {E : Value → Shared → Prop} {s : Shared}
/-- the empty set's object -/
abbrev set0 (w : World) : Obj := { cls := .type "set", dict := none, data := .set #[] 0 (.fresh 0 0 (!w.params.followText "set-order")) }
theorem call_set_lstI {l : Addr} {items : Array Value} (ns : List Int) {Q : Value → Shared → Prop} (hh : A.handled = none) (hl : s.heap.IsList l items) (hit : IntsAre items.toList ns) (hb : ns.length + 1 < scanBound)
    (h : ∀ (h' : Heap) (tk c : Nat), SetR w h' s.heap.objs.size (fun j => decide (j ∈ ns)) c → c ≤ ns.length → (∀ b o, s.heap.get? b = some o → h'.get? b = some o) → Q (.ref s.heap.objs.size) { s with heap := h', toks := tk }) :
    wpAny (model P w) A (call (.type "set") [.ref l]) Q E s := by
  have hisz : items.size = ns.length := (Array.length_toList).symm.trans (IntsAre.length hit)
  obtain ⟨c, tl, hmro⟩ := F.called_set.mro
  have hmade := F.called_set.made
  have hsub := F.called_set.sub
  have h1 := F.called_set.notType
  have h2 := F.called_set.canCreate
  have hct := F.typeCall_set_1 (.ref l)
  refine wpAny_call (codeAny_of_tree ?_)
  show wpAny _ _ (callAny (.type "set") _) _ _ _
  refine wpAny_pure ⟨Code.quiet_builtin _ (by decide +kernel), codeAny_builtin F.entry_type_call ?_⟩
  rw [Around.under_plain (weight_type_call_type "set" [.ref l] []) rfl]
  repeat (any_goals (first | assumption | wp_step))
  refine codeAny_mono (code_set_led1 (.ref l) (E := E) (Q₁ := fun obj s₁ => obj = .ref s.heap.objs.size ∧ s₁ = { s with heap := s.heap.push (set0 w) }) ⟨rfl, rfl⟩) fun r s₁ hr => ?_
  cases r with
  | error e => exact hr
  | ok fl =>
    cases fl with
    | ret obj =>
      obtain ⟨rfl, rfl⟩ := hr
      have hS : (s.heap.push (set0 w)).get? s.heap.objs.size = some (set0 w) := Heap.get?_push_size _ rfl
      have hT : Shared.TypeIs { s with heap := s.heap.push (set0 w) } (.ref s.heap.objs.size) "set" := ⟨_, hS, rfl⟩
      have hli := F.called_set.init.lookup
      have hbi := F.called_set.init.bind (.ref s.heap.objs.size)
      repeat (any_goals (first | assumption | wp_step))
      refine codeAny_mono (codeAny_call_builtin (R := wants (fun r s₂ => r = .none ∧ ∃ h' tk c, s₂ = { s with heap := h', toks := tk } ∧ SetR w h' s.heap.objs.size (fun j => decide (j ∈ ns)) c ∧ c ≤ ns.length ∧
          (∀ b o, s.heap.get? b = some o → h'.get? b = some o)) E) F.called_set.init.plain F.entry_set_init (check_set_init_1 hT ?_)) fun r₂ s₂ hr₂ => ?_
      · obtain ⟨⟨ocls, odict, odata, oslots⟩, hol, hcl, nl, hdl⟩ := hl
        simp only at hcl hdl
        subst hcl; subst hdl
        have hol' : (s.heap.push (set0 w)).get? l = some { cls := .type "list", dict := odict, data := .seq items nl, slots := oslots } := Heap.get?_push_of_some _ hol
        have hsls := F.sub_list_set
        have hslf := F.sub_list_frozenset
        have hne : (Value.type "list" == Value.type "dict") = false := by decide
        have hl1 : (s.heap.push (set0 w)).IsList l items := ⟨_, hol', rfl, nl, rfl⟩
        have hlS : l < s.heap.objs.size := Heap.lt_size hol
        unfold Builtin.«set.__init__» noKeywords Builtin.Frozenset.updateFrom
        generalize hPI : pyIter = PI
        wp_walk
        subst hPI
        refine wpAny_pyIter_list hl1 ?_
        refine wpAny_bind (wpAny_runValue ?_)
        have hneI : l ≠ (s.heap.push (set0 w)).objs.size := by
          rw [Heap.size_push]; exact Nat.ne_of_lt (Nat.lt_succ_of_lt hlS)
        have hSf : s.heap.objs.size ∉ [(s.heap.push (set0 w)).objs.size, l] := by
          rw [Heap.size_push]; simp only [List.mem_cons, List.mem_singleton, List.not_mem_nil, or_false, not_or]
          exact ⟨Nat.ne_of_lt (Nat.lt_succ_self _), Nat.ne_of_gt hlS⟩
        refine set_update_ints ((Walks.list (by simp [hh]) _ l hneI items).toS) s.heap.objs.size hSf ns hisz hb (fun i v hv => ?_) (items.size - 0) 0 _ (by omega) (Nat.zero_le _)
          ⟨⟨_, Heap.get?_push_size _ rfl, rfl, rfl⟩, (hl1.push _)⟩ ⟨0, Nat.le_refl 0, setR_new_at (Heap.get?_push_of_some _ hS)⟩ (fun s' c' hm hc' hS' => ?_)
        · have hi : i < ns.length := by rw [← hisz]; exact (Array.getElem?_eq_some_iff.mp hv).1
          obtain ⟨t, e⟩ := PyProof.Rows.IntsAre.int_at hit i v (by rw [Array.getElem?_toList]; exact hv)
          refine ⟨ns[i], t, List.getElem?_eq_getElem hi, ?_⟩
          rw [e, List.getD_eq_getElem?_getD, List.getElem?_eq_getElem hi] <;> rfl
        · obtain ⟨h', g2, d', tk', os'⟩ := s'
          have eg : g2 = s.gens := hm.gens
          have ed : d' = s.drawn := hm.drawn
          have eo : os' = s.os := hm.os
          subst eg; subst ed; subst eo
          show wpAny _ _ _ _ _ _
          refine wpAny_pure ?_
          show wpAny _ _ (ret Value.none) _ _ _
          rw [hisz] at hc'
          refine wpAny_pure ⟨rfl, h', tk', c', rfl, hS', hc', fun b o e => ?_⟩
          have hb0 : b < s.heap.objs.size := Heap.lt_size e
          refine hm.heap b o ?_ (Heap.get?_push_of_some _ (Heap.get?_push_of_some _ e))
          simp only [List.mem_cons, List.mem_singleton, List.not_mem_nil, or_false, not_or]
          exact ⟨Nat.ne_of_lt hb0, by rw [Heap.size_push]; exact Nat.ne_of_lt (Nat.lt_succ_of_lt hb0)⟩
      · cases r₂ with
        | error e => exact hr₂
        | ok fl₂ =>
          cases fl₂ with
          | ret r =>
            obtain ⟨rfl, h', tk, c', rfl, hS', hc', hk'⟩ := hr₂
            repeat (any_goals (first | assumption | wp_step))
            exact h _ _ _ hS' hc' hk'
          | _ => exact hr₂.elim
    | _ => exact hr.elim
end
end Py

namespace Py
open PySem PySem.Spec PyProof.Rows L2
/-! ### set([..]) of ints, sorted -/
def ddI : List Int → List Int
  | [] => []
  | x :: xs => if x ∈ ddI xs then ddI xs else x :: ddI xs
theorem mem_ddI {x : Int} : ∀ {ns : List Int}, x ∈ ddI ns ↔ x ∈ ns
  | [] => Iff.rfl
  | y :: ys => by
    unfold ddI
    have ih := mem_ddI (x := x) (ns := ys)
    split
    · rename_i h
      rw [ih, List.mem_cons]
      refine ⟨Or.inr, fun z => z.elim (fun q => ?_) id⟩
      rw [q]; exact mem_ddI.mp h
    · rw [List.mem_cons, List.mem_cons, ih]
theorem ddI_nodup : ∀ ns : List Int, (ddI ns).Nodup
  | [] => List.nodup_nil
  | y :: ys => by
    unfold ddI
    split
    · exact ddI_nodup ys
    · rename_i h
      exact List.nodup_cons.mpr ⟨h, ddI_nodup ys⟩
def usortI (ns : List Int) : List Int := sortI (ddI ns)
theorem mem_usortI {ns : List Int} {x : Int} : x ∈ usortI ns ↔ x ∈ ns := by
  unfold usortI
  rw [(sortI_perm _).mem_iff, mem_ddI]
theorem usortI_sorted (ns : List Int) : (usortI ns).Pairwise (· < ·) := by
  unfold usortI
  have h1 := sortI_sorted (ddI ns)
  have h2 : (sortI (ddI ns)).Nodup := (sortI_perm _).nodup_iff.mpr (ddI_nodup ns)
  have h3 := List.Pairwise.and h1 h2
  exact h3.imp fun ⟨a, b⟩ => Int.lt_iff_le_and_ne.mpr ⟨a, b⟩
theorem lt_unique : ∀ {xs ys : List Int}, (∀ a, a ∈ xs ↔ a ∈ ys) → xs.Pairwise (· < ·) → ys.Pairwise (· < ·) → xs = ys
  | [], [], _, _, _ => rfl
  | [], y :: ys, h, _, _ => absurd ((h y).mpr List.mem_cons_self) (by simp)
  | x :: xs, [], h, _, _ => absurd ((h x).mp List.mem_cons_self) (by simp)
  | x :: xs, y :: ys, h, h1, h2 => by
    obtain ⟨a1, a2⟩ := List.pairwise_cons.mp h1
    obtain ⟨b1, b2⟩ := List.pairwise_cons.mp h2
    have e : x = y := by
      rcases List.mem_cons.mp ((h x).mp List.mem_cons_self) with z | z
      · exact z
      · rcases List.mem_cons.mp ((h y).mpr List.mem_cons_self) with q | q
        · exact q.symm
        · have := a1 _ q
          have := b1 _ z
          omega
    subst e
    rw [lt_unique (xs := xs) (ys := ys) (fun a => ?_) a2 b2]
    refine ⟨fun ha => ?_, fun ha => ?_⟩
    · rcases List.mem_cons.mp ((h a).mp (List.mem_cons_of_mem _ ha)) with z | z
      · subst z; exact absurd (a1 _ ha) (Int.lt_irrefl _)
      · exact z
    · rcases List.mem_cons.mp ((h a).mpr (List.mem_cons_of_mem _ ha)) with z | z
      · subst z; exact absurd (b1 _ ha) (Int.lt_irrefl _)
      · exact z
/-- a frozen set -/
structure SetD where
  w : World
  l : List Int
instance : Rep SetD := ⟨fun K F v a => ∃ p c, v = .ref p ∧ F p = some (SetO a.w p (fun j => decide (j ∈ a.l)) c) ∧ c ≤ a.l.length, fun e ⟨p, c, h1, h2, h3⟩ => ⟨p, c, h1, e _ _ h2, h3⟩⟩
section
variable {X : Cx}
def rSetL (K : PySem.W.Frag) (w : World) : List V → Hp → VK → Prop := fun xs H Q => ∃ (l : Addr) (ns : List Int), xs = [V.ref l] ∧ SqL K H l (ns.map V.int) ∧ ns.length ≤ 1000 ∧
  ∀ p c, H p = none → c ≤ ns.length → Q (.ref p) (upd H p (SetO w p (fun j => decide (j ∈ ns)) c))
theorem cr_setL (hc : X.calm = true) : CallR X (.type "set") (rSetL X.K X.w) := by
  intro pins s σ H vs us Q I r h
  obtain ⟨l, ns, rfl, hq, hl, q⟩ := h
  rw [Vals.ref1 r]
  obtain ⟨its, rv, pl, hz⟩ := I.list hq
  refine call_set_lstI ns (I.ok.hd hc) pl.isList (ints_of_vals rv) (by unfold scanBound; omega) fun h' tk c R hcn k => ?_
  have hn : H s.heap.objs.size = none := I.hok.fresh (Nat.le_refl _)
  exact ⟨.ref _, _, I.laid (a := s.heap.objs.size) (t' := tk) k (Nat.le_refl _) (setO_new R), rfl, q _ c hn hcn⟩
theorem boot_setx : bootBuiltins "set" = some (.type "set") := by decide +kernel
theorem calR_set {ns : List Int} (hc : X.calm = true) (hz : ns.length ≤ 1000) : CalR X "set" ns ⟨(SetD.mk X.w ns)⟩ := ⟨⟨_, _, cr_setL hc, boot_setx, Or.inr ⟨_, rfl⟩, fun F H p vs Q e hl rv _ q => by
  rw [rv.ints] at hl
  exact ⟨p, ns, rfl, hl, hz, fun p2 c hn hc2 => q _ _ _ (Gro.new e hn) ⟨p2, c, rfl, upd_same, hc2⟩⟩⟩⟩
theorem cal_sortedSet {ns : List Int} (hc : X.calm = true) (hz : ns.length < 64) : Cal X "sorted" [⟨(SetD.mk X.w ns)⟩] ⟨usortI ns⟩ := ⟨⟨_, _, cr_sortedSet hc, boot_sortedx, Or.inl ⟨_, rfl⟩, fun F H vs Q e rv q => by
  obtain ⟨v, rfl, p, c, rfl, h1, h2⟩ := one_arg rv
  have h2 : c ≤ ns.length := h2
  refine ⟨p, _, c, rfl, e _ _ h1, by omega, fun out l hp hm hlen hn => ?_⟩
  have e1 : out = usortI ns := lt_unique (fun a => by rw [hm, mem_usortI]; exact decide_eq_true_iff) hp (usortI_sorted ns)
  subst e1
  exact q _ _ _ (Gro.new e hn) ⟨l, _, rfl, upd_same, Pr.ofInts _, by rw [hlen, sizeLine_eq]; omega⟩⟩⟩
end
section
variable {κ α : Type} [Rep κ] [DecidableEq κ] [Rep α] {C : Cz} {k : Nat} {env : Env} {L : List Cell} {a b o e : Expr} {pos p : Pos} {m : List (κ × α)}
/-- len(d) -/
theorem E_lenD [KR κ] (ha : ED C env L a m) (hm : C.X.mg "len" = none) (hg : Gl C.X "len" := by rfl)
    (he : starEach [a] C.X.env = (false, eval a C.X.env) :: starEach [] C.X.env := by rfl) (hpl : (backTo pos (starEach [] C.X.env)).any (·.1) = false := by rfl) : E C env L (.Call (.Name "len" p) [a] [] pos) ⟨(m.length : Int)⟩ :=
  ⟨PE.imp (pe_callU call_lenD (Or.inl ⟨_, rfl⟩) hg hm boot_len (pa_cons ha.p pa_nil he) (by decide) (by decide) he hpl) fun σ H Q ⟨F, s, q⟩ => ⟨F, s, fun pp F1 H1 x1 s1 hr hz => by
    obtain ⟨kvs, h1, h2⟩ := hr F1 H1 (Ex.rf F1) s1.ow
    exact ⟨pp, kvs, rfl, h1, q _ F1 H1 x1 s1 (by show V.int _ = V.int _; rw [h2.length])⟩⟩⟩
theorem call_lenK {X : Cx} : CallR X (.builtin "len") (fun xs H Q => ∃ d ys, xs = [V.ref d] ∧ KD X H d ys ∧ ys.length ≤ sizeLine ∧ Q (.int ys.length) H) := by
  intro pins s σ H xs us Q I r h
  obtain ⟨d, ys, rfl, kd, hz, q⟩ := h
  rw [Vals.ref1 r]
  obtain ⟨dd, hd⟩ := kd I
  refine call_len_dictH hd dd (by rw [sizeLine_eq] at hz; omega) ?_
  exact ⟨.int ys.length, H, I.tok _, ⟨_, rfl⟩, q⟩
theorem E_lenK [NI κ] (ha : EK C env L a m) (hm : C.X.mg "len" = none) (hn : NI.n κ ≤ 8 := by decide) (hg : Gl C.X "len" := by rfl)
    (he : starEach [a] C.X.env = (false, eval a C.X.env) :: starEach [] C.X.env := by rfl) (hpl : (backTo pos (starEach [] C.X.env)).any (·.1) = false := by rfl) : E C env L (.Call (.Name "len" p) [a] [] pos) ⟨(m.length : Int)⟩ :=
  ⟨PE.imp (pe_callU call_lenK (Or.inl ⟨_, rfl⟩) hg hm boot_len (pa_cons ha.p pa_nil he) (by decide) (by decide) he hpl) fun σ H Q ⟨F, s, q⟩ => ⟨F, s, fun pp F1 H1 x1 s1 hr hz => by
    obtain ⟨xs, h1, h2⟩ := hr F1 H1 (Ex.rf F1) s1.ow
    exact ⟨pp, xs, rfl, fun I => dkn_at hn I s1.ow.fH h1 h2, by rw [h2.length]; exact hz, q _ F1 H1 x1 s1 (by show V.int _ = V.int _; rw [h2.length])⟩⟩⟩
end
section
variable {C : Cz} {env : Env} {L : List Cell} {Q : Po}
theorem S_drop {L' : List Cell} (L1 : List Cell) {sts : List Stmt} (h : S C env L' sts Q) (p : (L1 ++ L').Perm L) : S C env L sts Q := ⟨PSs.imp h.p fun D σ H ⟨F, s, n⟩ => ⟨F, ⟨s.sl, (s.ow.perm p).sub⟩, n⟩⟩
end
end Py

namespace Py
open PySem PySem.Spec PyProof.Rows L2
/-! ### {k: v for ..} -/
def dcF {α κ β : Type} [DecidableEq κ] (fk : α → κ) (fv : α → β) (q : α → Bool) (as : List α) : List (κ × β) := (as.filter q).foldl (fun m a => putA m (fk a) (fv a)) []
theorem dcF_snoc {α κ β : Type} [DecidableEq κ] {fk : α → κ} {fv : α → β} {q : α → Bool} {as : List α} {i : Nat} {a : α} (h : as[i]? = some a) : dcF fk fv q (as.take (i + 1)) = if q a then putA (dcF fk fv q (as.take i)) (fk a) (fv a) else dcF fk fv q (as.take i) := by
  unfold dcF
  rw [List.take_add_one, h]
  simp only [Option.toList_some, List.filter_append, List.foldl_append]
  cases hq : q a <;> simp [hq]
theorem foldl_put_len {α κ β : Type} [DecidableEq κ] (fk : α → κ) (fv : α → β) : ∀ (as : List α) (m : List (κ × β)), (as.foldl (fun m a => putA m (fk a) (fv a)) m).length ≤ m.length + as.length
  | [], m => Nat.le_refl _
  | a :: as, m => by
    have h1 := foldl_put_len fk fv as (putA m (fk a) (fv a))
    have h2 := putA_len m (fk a) (fv a)
    rw [List.foldl_cons, List.length_cons]
    omega
theorem dcF_le {α κ β : Type} [DecidableEq κ] (fk : α → κ) (fv : α → β) (q : α → Bool) (as : List α) : (dcF fk fv q as).length ≤ as.length := by
  have h := foldl_put_len fk fv (as.filter q) []
  have h2 := List.length_filter_le q as
  unfold dcF
  rw [List.length_nil] at h
  omega
section
variable {C : Cz} {k j : Nat} {env env' env2 env3 : Env} {L LR : List Cell} {e a b c tg iter kx vx : Expr} {es ifs : List Expr} {pos : Pos} {scope : Scope} {own : List (Str × Nat)}
abbrev DcB (C : Cz) (env : Env) (L : List Cell) (k : Nat) {α κ β : Type} [Rep α] [Rep κ] [Rep β] (scope : Scope) (own : List (Str × Nat)) (tg kx vx : Expr) (ifs : List Expr) (as : List α) (fk : α → κ) (fv : α → β) (q : α → Bool) : Prop :=
  ∀ (i : Nat) (a : α), as[i]? = some a → ∃ env2 js, (∀ x ∈ js, x ∈ own.map (·.2)) ∧ ∀ R s H C0 cl fp, (C.blk R s H scope C0 cl fp).Ok k → G (C.blk R s H scope C0 cl fp) (wipeE env (own.map (·.2))) L tg ⟨a⟩ env2 js ∧ Ts (C.blk R s H scope C0 cl fp) env2 L ifs (q a) ∧ (q a = true → E (C.blk R s H scope C0 cl fp) env2 L kx ⟨fk a⟩ ∧ E (C.blk R s H scope C0 cl fp) env2 L vx ⟨fv a⟩)
theorem dc_tS {α κ β : Type} [Rep α] [Rep κ] [DecidableEq κ] [KR κ] [Rep β] {as : List α} {L0 : List Cell} (fk : α → κ) (fv : α → β) (q : α → Bool) (ok : C.Ok k) (hh : ∀ c ∈ L0, c ∈ L) (hi : EIO C env L L0 tg iter as) (hb : DcB C env L k scope own tg kx vx ifs as fk fv q) :
    ∃ g tt tk tv, (∀ (s : Shared) (H : Hp) (C0 : Addr) (cl : List (Str × Addr)) (fp : List Addr), PG (C.X.blk s H scope (compEnvC scope cl C0 C.X.env) fp) tg g) ∧ (∀ (s : Shared) (H : Hp) (C0 : Addr) (cl : List (Str × Addr)) (fp : List Addr), PTs (C.X.blk s H scope (compEnvC scope cl C0 C.X.env) fp) ifs tt) ∧
      (∀ (s : Shared) (H : Hp) (C0 : Addr) (cl : List (Str × Addr)) (fp : List Addr), PE (C.X.blk s H scope (compEnvC scope cl C0 C.X.env) fp) kx tk) ∧ (∀ (s : Shared) (H : Hp) (C0 : Addr) (cl : List (Str × Addr)) (fp : List Addr), PE (C.X.blk s H scope (compEnvC scope cl C0 C.X.env) fp) vx tv) ∧
      ∀ σ H Q, (∃ F, Sta C F env L σ H ∧ ∀ D kvs F' H', Gw F H F' H' → Own C.X.K (upd C.R D (.dK kvs)) F' H' L → C.R D = none → Slots C.X.K F' σ env → Pr (DOk C.X.K F') kvs (dcF fk fv q as) → (dcF fk fv q as).length ≤ sizeLine → Q (.ref D) H') → tDc (iS C env L L0 as) g tt tk tv (own.map (·.2)) σ H Q := by
  let CR : Hp → Cz := fun R => ⟨C.X, R, C.W⟩
  let g : TG := fun v σ H Q => ∃ z : ULift.{1} (Hp × α × List Nat) × Env, (∀ s H C0 cl fp, G (C.blk z.1.down.1 s H scope C0 cl fp) (wipeE env (own.map (·.2))) L tg ⟨z.1.down.2.1⟩ z.2 z.1.down.2.2) ∧ gS (CR z.1.down.1) (wipeE env (own.map (·.2))) L ⟨z.1.down.2.1⟩ z.2 z.1.down.2.2 v σ H Q
  let tt : TT := fun σ H Q => ∃ z : ULift.{1} (Hp × Bool) × Env, (∀ s H C0 cl fp, Ts (C.blk z.1.down.1 s H scope C0 cl fp) z.2 L ifs z.1.down.2) ∧ eT (CR z.1.down.1) z.2 L z.1.down.2 σ H Q
  let tk : TE := fun σ H Q => ∃ z : ULift.{1} (Hp × κ) × Env, (∀ s H C0 cl fp, E (C.blk z.1.down.1 s H scope C0 cl fp) z.2 L kx ⟨z.1.down.2⟩) ∧ eE (CR z.1.down.1) z.2 L ⟨z.1.down.2⟩ σ H Q
  let tv : TE := fun σ H Q => ∃ z : ULift.{1} (Hp × β) × Env, (∀ s H C0 cl fp, E (C.blk z.1.down.1 s H scope C0 cl fp) z.2 L vx ⟨z.1.down.2⟩) ∧ eE (CR z.1.down.1) z.2 L ⟨z.1.down.2⟩ σ H Q
  refine ⟨g, tt, tk, tv, fun s H C0 cl fp => PG.ex fun z h => (h s H C0 cl fp).p, fun s H C0 cl fp => PTs.ex fun z h => (h s H C0 cl fp).p, fun s H C0 cl fp => PE.ex fun z h => (h s H C0 cl fp).p, fun s H C0 cl fp => PE.ex fun z h => (h s H C0 cl fp).p, ?_⟩
  intro σ H Q ⟨F, s, qf⟩
  refine ⟨F, s, fun J F1 H1 w1 s1 sv hz D hD => ?_⟩
  obtain ⟨o0, hR, _⟩ := s1.ow.toR (u := .dK []) hD
  refine ⟨fun i m H => m = as.length - i ∧ i ≤ as.length ∧ ∃ F' kvs, Ex F1 F' ∧ Own C.X.K (upd C.R D (.dK kvs)) F' H L ∧ Slots C.X.K F' σ env ∧ Pr (DOk C.X.K F') kvs (dcF fk fv q (as.take i)),
    ⟨as.length, by simp, Nat.zero_le _, F1, [], Ex.rf F1, o0, s1.sl, by simp [dcF]; exact .nil⟩, ?_⟩
  rintro i m H2 ⟨rfl, hi, F', vs, x, o, sl, pr⟩
  by_cases hlt : i < as.length
  · obtain ⟨go, yl⟩ := sv.go i F' H2 hlt x ⟨o.fH, _, L, o, hh⟩
    refine .inr ⟨go, fun H => i + 1 ≤ as.length ∧ ∃ F' vs, Ex F1 F' ∧ Own C.X.K (upd C.R D (.dK vs)) F' H L ∧ Slots C.X.K F' σ env ∧ Pr (DOk C.X.K F') vs (dcF fk fv q (as.take (i + 1))), fun H' z => ⟨as.length - (i + 1), by omega, rfl, z⟩, fun v H3 y => ?_⟩
    obtain ⟨F3, g, a, ha, rv⟩ := yl v H3 y
    obtain ⟨env2, js, hjs, hz2⟩ := hb i a ha
    have hB := fun s H C0 cl fp => hz2 (upd C.R D (.dK vs)) s H C0 cl fp (ok.blk _ _ _ _ _ _ _)
    refine ⟨(⟨(upd C.R D (.dK vs), a, js)⟩, env2), fun s H C0 cl fp => (hB s H C0 cl fp).1, F3, ⟨(sl.mono g.f).wipeE _, o.gro g⟩, rv, fun σ4 F4 H4 w4 s4 chg => ⟨?_, ?_⟩⟩
    · rw [chg _ hjs]
      exact wipe_wipe σ _ _ fun _ h => h
    · refine ⟨(⟨(upd C.R D (.dK vs), q a)⟩, env2), fun s H C0 cl fp => (hB s H C0 cl fp).2.1, F4, s4, fun F5 H5 w5 s5 => ?_⟩
      have hlen : vs.length ≤ i := by
        rw [pr.length]
        exact Nat.le_trans (dcF_le _ _ _ _) (List.length_take_le _ _)
      cases hq : q a with
      | true =>
        refine iteT ⟨(⟨(upd C.R D (.dK vs), fk a)⟩, env2), fun s H C0 cl fp => ((hB s H C0 cl fp).2.2 hq).1, F5, s5, fun y F6 H6 w6 s6 ry => ?_⟩
        refine ⟨(⟨(upd C.R D (.dK vs), fv a)⟩, env2), fun s H C0 cl fp => ((hB s H C0 cl fp).2.2 hq).2, F6, s6, fun z F7 H7 w7 s7 rz => ?_⟩
        refine ⟨vs, KR.k (fk a), KR.rp _ _ _ _ ry, s7.ow.rH D _ upd_same, Nat.lt_of_le_of_lt hlen (Nat.lt_of_lt_of_le hlt hz), hlt, F7, _, ((((x.tr g.f).tr w4.f).tr w5.f).tr w6.f).tr w7.f, s7.ow.updR hR, sl.mono ((((g.f.tr w4.f).tr w5.f).tr w6.f).tr w7.f), ?_⟩
        rw [dcF_snoc ha, if_pos hq]
        exact pr_put (pr.imp fun _ _ => DOk.mono ((((g.f.tr w4.f).tr w5.f).tr w6.f).tr w7.f)) rz
      | false =>
        refine iteF ⟨hlt, F5, vs, ((x.tr g.f).tr w4.f).tr w5.f, s5.ow, sl.mono ((g.f.tr w4.f).tr w5.f), ?_⟩
        rw [dcF_snoc ha, hq]
        exact pr.imp fun _ _ => DOk.mono ((g.f.tr w4.f).tr w5.f)
  · have e : i = as.length := by omega
    subst e
    rw [List.take_length] at pr
    exact .inl ⟨sv.stop _ F' H2 (Nat.le_refl _) x ⟨o.fH, _, L, o, hh⟩, qf D vs F' H2 ⟨w1.f.tr x⟩ o hR sl pr (Nat.le_trans (dcF_le _ _ _ _) hz)⟩
/-- {k: v for tg in iter if ..}, the dict one's own -/
theorem EM_dc {α κ β : Type} [Rep α] [Rep κ] [DecidableEq κ] [KR κ] [Rep β] {as : List α} {L0 : List Cell} (own : List (Str × Nat)) (fk : α → κ) (fv : α → β) (q : α → Bool) (ok : C.Ok k) (hi : EIO C env L L0 tg iter as) (hb : DcB C env L k scope own tg kx vx ifs as fk fv q)
    (bok : BlkOk C.X.N C.X.env.scope scope own := by exact blkOk_by (by first | rfl | decide +kernel)) (hs : ∀ x, foldedSetIterable iter C.X.env x = pure x := by intro _; rfl) (hh : ∀ c ∈ L0, c ∈ L := by intro c hc; cases hc) : EM C env L (.DictComp kx vx [⟨tg, iter, ifs, 0⟩] scope pos) (fun r L' => ∃ l, r = ⟨(At.mk l)⟩ ∧ L' = Cell.dic l (dcF fk fv q as) :: L) (fun _ _ _ => False) := by
  obtain ⟨g, tt, tk, tv, h1, h2, h3, h4, h5⟩ := dc_tS (own := own) fk fv q ok hh hi hb
  exact ⟨PE.imp (pe_dc ok.calm ok.nd hi.p bok h1 h2 h3 h4 hs) fun σ H Q ⟨F, s, z, _⟩ => h5 σ H Q ⟨F, s, fun D vs F' H' w o hR sl pr hz => by
    exact z _ _ _ F' H' ⟨D, rfl, rfl⟩ w.f ⟨sl, o.ofRc hR rfl ⟨⟨vs, o.rH D _ upd_same, pr⟩, hz⟩⟩ rfl⟩⟩
end
end Py

namespace Py
open PySem PySem.Spec PyProof.Rows L2
/-! ### y = {k: v for ..} -/
theorem sw_trueD {kx vx : Expr} {gs : List Comprehension} {scope : Scope} {pos py : Pos} {y : Str} {l : Nat} {env : PySem.Env} (hk : env.scope.kind = .function) (hy : env.scope.names.lookup y = some .local) (hl : (py.line == pos.line) = true)
    (ha : (scope.names.any fun (n, k) => n == y && (k == .local || k == .cell)) = false) : swapsWith (.DictComp kx vx gs scope pos) (some (.Name y py)) l env = pure true := by
  have ky : env.kindOf y = some .local := hy
  have hb : env.blockKind = .function := by unfold Env.blockKind; rw [hk]; rfl
  unfold swapsWith
  simp only [hb, ky, ha, Expr.pos, hl]
  rfl
section
variable {X : Cx}
theorem ps_setDc {i : Nat} {y : Str} {py : Pos} {kx vx tg iter : Expr} {ifs : List Expr} {scope : Scope} {own : List (Str × Nat)} {pos spos : Pos} {wi : TI} {g : TG} {tt : TT} {tk tv : TE} (hc : X.calm = true) (hN : X.N.Nodup) (hy : X.N[i]? = some y) (hyl : X.env.scope.names.lookup y = some .local)
    (hsw : swapsWith (.DictComp kx vx [⟨tg, iter, ifs, 0⟩] scope pos) (some (.Name y py)) spos.line X.env = pure true) (hi : PI X tg iter wi) (ok : BlkOk X.N X.env.scope scope own)
    (hg : ∀ (s : Shared) (H : Hp) (C : Addr) (cl : List (Str × Addr)) (fp : List Addr), PG (X.blk s H scope (compEnvC scope cl C X.env) fp) tg g) (ht : ∀ (s : Shared) (H : Hp) (C : Addr) (cl : List (Str × Addr)) (fp : List Addr), PTs (X.blk s H scope (compEnvC scope cl C X.env) fp) ifs tt)
    (hk : ∀ (s : Shared) (H : Hp) (C : Addr) (cl : List (Str × Addr)) (fp : List Addr), PE (X.blk s H scope (compEnvC scope cl C X.env) fp) kx tk)
    (he : ∀ (s : Shared) (H : Hp) (C : Addr) (cl : List (Str × Addr)) (fp : List Addr), PE (X.blk s H scope (compEnvC scope cl C X.env) fp) vx tv) (hs : ∀ x, foldedSetIterable iter X.env x = pure x := by intro _; rfl) :
    PS X (.Assign [.Name y py] (.DictComp kx vx [⟨tg, iter, ifs, 0⟩] scope pos) spos) (tAsg (tDc wi g tt tk tv (own.map (·.2))) (gName i)) := by
  refine ⟨fun pins s σ H D I h => ?_⟩
  rw [exec_Assign_Name_used _ _ _ _ hsw]
  refine wpAny_bind (wpAny_standAt (wpAny_bind ?_))
  show wpAny _ X.A (do let _ ← comprehension (.DictComp kx vx [⟨tg, iter, ifs, 0⟩] scope pos) scope X.env (firstIterPos [⟨tg, iter, ifs, 0⟩] pos) newDict false (eval iter X.env) (some (assign (.Name y py) X.env))) _ _ s
  have h : tDc wi g tt tk tv (own.map (·.2)) σ H (fun x H1 => gName i x σ H1 D.nx) := h
  refine wpAny_bind (thn (dc_core (Qf := fun _ s' => SP X pins D .next s') hc hN I hi ok hg ht hk he hs h fun L C s' m H' I' q hn f => ?_) fun _ s' hq => wpAny_pure (wpAny_pure hq))
  show wpAny _ _ (assign (.Name y py) X.env (.ref L)) _ _ _
  refine wpAny_assign_Name (store_ok2 (v := V.ref L) I' hN hy (.inl hyl) rfl (fun s2 I2 ⟨a, sb, ha⟩ => ?_) (.inr hyl))
  obtain ⟨f0, f1, f2, f3, f4, f5⟩ := f
  refine ⟨m, hn.sameBut sb (ha.elim (fun z => by rw [z]; exact f1) fun z e => f4 y a z e.symm), fun h3 sb3 => ?_⟩
  exact ⟨_, H', I2.turned (t' := s2.toks) (fun b o hb e => (sb3.2 b hb).trans e) f0 f1 f3 f4 f5, q⟩
end
section
variable {C : Cz} {k j : Nat} {env : Env} {L : List Cell} {tg iter kx vx : Expr} {ifs : List Expr} {pos : Pos} {scope : Scope} {Q : Po} {rest : List Stmt}
theorem S_setDc {α κ β : Type} [Rep α] [Rep κ] [DecidableEq κ] [KR κ] [Rep β] {as : List α} {L0 : List Cell} (i : Nat) (own : List (Str × Nat)) (fk : α → κ) (fv : α → β) (q : α → Bool) {y : Str} {py spos : Pos} (ok : C.Ok k) (hi : EIO C env L L0 tg iter as) (hb : DcB C env L k scope own tg kx vx ifs as fk fv q) (h : ∀ l, S C (env.set i (some ⟨(At.mk l)⟩)) (Cell.dic l (dcF fk fv q as) :: L) rest Q)
    (hy : C.X.N[i]? = some y := by rfl) (hyl : C.X.env.scope.names.lookup y = some .local := by rfl) (hsw : swapsWith (.DictComp kx vx [⟨tg, iter, ifs, 0⟩] scope pos) (some (.Name y py)) spos.line C.X.env = pure true := by exact sw_trueD rfl rfl rfl (by decide +kernel))
    (bok : BlkOk C.X.N C.X.env.scope scope own := by exact blkOk_by (by first | rfl | decide +kernel)) (hs : ∀ x, foldedSetIterable iter C.X.env x = pure x := by intro _; rfl) (hh : ∀ c ∈ L0, c ∈ L := by intro c hc; cases hc) : S C env L (.Assign [.Name y py] (.DictComp kx vx [⟨tg, iter, ifs, 0⟩] scope pos) spos :: rest) Q := by
  obtain ⟨g, tt, tk, tv, h1, h2, h3, h4, h5⟩ := dc_tS (own := own) fk fv q ok hh hi hb
  exact S_cons ⟨PS.imp (ps_setDc ok.calm ok.nd hy hyl hsw hi.p bok h1 h2 h3 h4 hs) fun D σ H ⟨F, s, n⟩ => h5 σ H _ ⟨F, s, fun Da vs F' H' w o hR sl pr hz => by
    exact n.nx _ _ _ F' H' (h Da) w.f ⟨sl.put (e := ⟨(At.mk Da)⟩) (v := .ref Da) rfl i, o.ofRc hR rfl ⟨⟨vs, o.rH Da _ upd_same, pr⟩, hz⟩⟩⟩⟩
end
end Py

namespace Py
open PySem PySem.Spec PyProof.Rows L2
/-! ### d == e, values of data -/
section
variable {X : Cx}
theorem hitsD {pins : List (Addr × Obj)} {σ : Py.St} {H : Hp} {s : Shared} {A : Around} {kvs : List (L2.Key × V)} {vb : List (L2.Key × Value)} (I : L2.Inv X pins σ H s) (hA : A.units + 64 < cLine) (h : KV kvs vb) {ks : List (L2.Key × V)} {va : List (L2.Key × Value)} (g : KV ks va) :
    (∀ p ∈ ks, ∃ v d e, valV kvs p.1 = some v ∧ Dp X.K H p.2 d ∧ Dp X.K H v e ∧ SeqAt.shaped d = true ∧ SeqAt.shaped e = true ∧ PyData.eqv d e = true) → PySem.W.KeqHits A s vb va true := by
  induction g with
  | nil => intro _; exact .nil
  | @cons p q ks va hp _ ih =>
    intro hk
    obtain ⟨v, d, e, h1, h2, h3, h4, h5, h6⟩ := hk p List.mem_cons_self
    have ih := ih fun p hp => hk p (List.mem_cons_of_mem _ hp)
    obtain ⟨g1, g2⟩ := hp
    obtain ⟨k, u⟩ := q
    have g1 : p.1 = k := g1
    have hr := h.val k
    rw [← g1, h1] at hr
    obtain ⟨y, hy, ry⟩ := hr.some_of
    obtain ⟨as, r1⟩ := Dp.reads I d p.2 u h2 g2
    obtain ⟨bs, r2⟩ := Dp.reads I e v y h3 ry
    have s4 := h4
    unfold SeqAt.shaped at h4 h5
    obtain ⟨a1, a2⟩ := Bool.and_eq_true_iff.mp h4
    obtain ⟨b1, b2⟩ := Bool.and_eq_true_iff.mp h5
    have a2 := of_decide_eq_true a2
    have key := SeqAt.eqAt_reads d e A s u y as bs r1 r2 a1 b1 (by have := Nat.min_le_left d.depth e.depth; omega)
    rw [h6] at key
    exact PySem.W.KeqHits.hit (by rw [← g1]; exact hy) key ih
def rEqDD (K : PySem.W.Frag) : R2 := fun x y H Q => ∃ a b ks ls, x = V.ref a ∧ y = V.ref b ∧ H a = some (.dK ks) ∧ H b = some (.dK ls) ∧ ks.length = ls.length ∧
  (∀ p ∈ ks, ∃ v d e, valV ls p.1 = some v ∧ Dp K H p.2 d ∧ Dp K H v e ∧ SeqAt.shaped d = true ∧ SeqAt.shaped e = true ∧ PyData.eqv d e = true) ∧ Q (V.bl true) H
theorem op_eq_dictD (hu : X.A.units + 65 < cLine) : OpR X (compareOp .Eq) (rEqDD X.K) := by
  intro pins s σ H x y v u Q I rx ry h
  obtain ⟨a, b, ks, ls, rfl, rfl, ha, hb, hl, hk, q⟩ := h
  cases rx
  cases ry
  obtain ⟨_, h2, va, h3, h4⟩ := I.hok a _ ha
  obtain ⟨_, g2, vb, g3, g4⟩ := I.hok b _ hb
  refine PySem.W.keq_eq (r := true) h2 g2 h4 g4 (by omega) (fun _ => hitsD I (by show X.A.units + 1 + 64 < cLine; omega) g3 h3 hk) ?_
  refine fin_bl I q ?_
  rw [← h3.length, ← g3.length, hl]
  simp
theorem shaped_de {α : Type} [Rep α] [DecidableEq α] [DE α] (hn : DE.n α ≤ 64) {K F H v} {a : α} (e : Ex F H) (h : Rep.rp K F v a) : SeqAt.shaped (DE.d a) = true := shaped_of hn (DE.dp K F H v a e h).2
end
section
variable {κ α : Type} [Rep κ] [DecidableEq κ] [KR κ] [Rep α] [DecidableEq α] [DE α] {C : Cz} {k : Nat} {env : Env} {L : List Cell} {a b o e : Expr} {pos p : Pos} {m : List (κ × α)}
theorem pr_lkpM {K F} {kvs : List (L2.Key × V)} {m : List (κ × α)} (h : Pr (DOk K F) kvs m) : ∀ q ∈ kvs, ∃ p ∈ m, DOk K F q p := by
  induction h with
  | nil => intro q hq; cases hq
  | cons h t ih =>
    intro q hq
    rcases List.mem_cons.mp hq with rfl | hq
    · exact ⟨_, List.mem_cons_self, h⟩
    · obtain ⟨p, h1, h2⟩ := ih q hq
      exact ⟨p, List.mem_cons_of_mem _ h1, h2⟩
theorem lkp_mem {m : List (κ × α)} (h : (m.map (·.1)).Nodup) : ∀ p ∈ m, lkp m p.1 = some p.2 := by
  induction m with
  | nil => intro p hp; cases hp
  | cons q m ih =>
    rw [List.map_cons] at h
    obtain ⟨h1, h2⟩ := List.nodup_cons.mp h
    intro p hp
    rw [lkp_cons]
    rcases List.mem_cons.mp hp with rfl | hp
    · rw [if_pos rfl]
    · rw [if_neg (fun z => h1 (by rw [z]; exact List.mem_map_of_mem hp)), ih h2 p hp]
/-- d == e, equal -/
theorem E_eqDic (ok : C.Ok k) (ha : ED C env L a m) (hb : ED C env L b m) (nd : (m.map (·.1)).Nodup) (hn : DE.n α ≤ 64 := by decide) (hm : behindInMarks .Eq b = false := by rfl) (hk : 1 ≤ k := by decide) : E C env L (.Compare a [.Eq] [b] pos) ⟨true⟩ :=
  ⟨PE.imp (pe_cmpR (op_eq_dictD (by have := ok.room.un; omega)) ha.p hb.p hm) fun σ H Q ⟨F, s, q⟩ => ⟨F, s, fun p1 F1 H1 x1 s1 hr1 hz => ⟨F1, s1, fun p2 F2 H2 x2 s2 hr2 _ => by
    obtain ⟨ks, g1, g2⟩ := hr1 F2 H2 x2.f s2.ow
    obtain ⟨ls, g3, g4⟩ := hr2 F2 H2 (Ex.rf F2) s2.ow
    refine ⟨p1, p2, ks, ls, rfl, rfl, g1, g3, by rw [g2.length, g4.length], fun q hq => ?_, q _ F2 H2 (x1.tr x2) s2 rfl⟩
    obtain ⟨pp, hpp, e1, e2⟩ := pr_lkpM g2 q hq
    obtain ⟨v, e3, e4⟩ := (pr_lkp g4 pp.1).1 pp.2 (lkp_mem nd pp hpp)
    refine ⟨v, DE.d pp.2, DE.d pp.2, by rw [e1]; exact e3, (DE.dp _ F2 H2 _ _ s2.ow.fH e2).1, (DE.dp _ F2 H2 _ _ s2.ow.fH e4).1, shaped_de hn s2.ow.fH e2, shaped_de hn s2.ow.fH e4, by rw [DE.ev]; exact decide_eq_true rfl⟩⟩⟩⟩
end
theorem cmpBack_of2 {X : Cx} {pins : List (Addr × Obj)} {σ : Py.St} {Q : VK} {Qf : Value → Shared → Prop} {u : Value} {s' : Shared} (h : EP X pins σ Q u s') (k : EP X pins σ Q u s' → Qf u s') : PySem.W.CmpBack Qf u s' := by
  have h2 := k h
  obtain ⟨v, H', I, r, q⟩ := h
  cases v with
  | non => cases r; exact h2
  | bl b => cases r; exact h2
  | int i => obtain ⟨t, rfl⟩ := r; exact h2
  | str i => obtain ⟨t, rfl⟩ := r; exact h2
  | byt i => obtain ⟨t, rfl⟩ := r; exact h2
  | flt i => obtain ⟨t, rfl⟩ := r; exact h2
  | ref a => cases r; exact h2
  | ty a => cases r; exact h2
section
variable {C : Cz} {k n : Nat} {env : Env} {L LR : List Cell} {e a b o : Expr} {C0 : Addr} {r1 r2 : Ent} {pos : Pos} {rest : List Stmt} {Q : Po}
/-- x op= e, an own method -/
theorem S_iaddO.{u} {γ : Type u} {arg : γ → List Ent} {cel : γ → List Cell} {pre : γ → Prop} {post : γ → Ent → List Cell → Prop} {exc : γ → Value → Option Addr → List Cell → Prop} {op : Operator} {m x : Str} {pos' : Pos} (g : γ) (i : Nat) (ok : C.Ok k) (hc : PySem.W.selfFirst C.X.K C0 = true)
    (M : Ms C.X.prog C.X.w C.X.K C.X.mg C.X.base n C0 m (spM C.X.K arg cel pre post exc)) (hv : env[i]? = some (some r1)) (he : E C env L e r2) (hg : arg g = [r1, r2]) (hp : pre g) (hL : L.Perm (cel g ++ LR)) (i1 : Seen C L r1 C0)
    (hk : ∀ r L1, post g r L1 → S C (env.set i (some r)) (L1 ++ LR) rest Q) (hx : ∀ cls d L1, exc g cls d L1 → Q.ex cls d env (L1 ++ LR)) (hm : PySem.dunderI op.info.2 = m := by rfl) (hj : n ≤ k := by decide)
    (hi : C.X.N[i]? = some x := by rfl) (hl : C.X.env.scope.names.lookup x = some .local := by rfl) : S C env L (.AugAssign (.Name x pos') op e pos :: rest) Q := by
  obtain ⟨f, fd, ps, hM, _, hB, Fn⟩ := M.h
  subst hm
  refine S_cons ⟨⟨fun pins s σ H D I ⟨F, st, nn⟩ => wpAny_AugAssign_Name ?_⟩⟩
  obtain ⟨v, hσ, rv⟩ := st.sl.get hv
  obtain ⟨mm, hN, hlo⟩ := I.loc
  obtain ⟨u, ru, lo⟩ := hlo i x v hi hσ (Or.inl hl)
  have hkd : C.X.env.kindOf x = some .local := hl
  have hmx : mm x = some u := by
    rcases lo with ⟨_, z⟩ | ⟨z, _⟩
    · exact z
    · rw [hkd] at z
      rcases z with z | z <;> cases z
  refine wpAny_loadName_local I.ok.kind hkd hN hmx ?_
  refine he.go I st fun u2 s2 v2 F2 H2 I2 ru2 x2 st2 rv2 => ?_
  obtain ⟨t, dx, fs, rfl, ht⟩ := i1 _ F2 H2 v st2.ow (Ent.mono x2 rv)
  obtain rfl : u = Value.ref t := ru
  obtain ⟨ox, od, J, _⟩ := inst_at I2 ht
  obtain ⟨m', hF⟩ := I2.fr
  refine PySem.W.ksp_inplace hF I2.ok.mod.kin J hc hM.at_ hM.fn ?_
  refine wpAny_mono (run_ctr g ok Fn (Sub.here ok.room hj) hB hp hL I2 st2 (show Vals [V.ref t, v2] [Value.ref t, u2] from .cons rfl (.cons ru2 .nil)) (by rw [hg]; exact .cons (Ent.mono x2 rv) (.cons rv2 .nil)) (Qv := fun v H' => D.nx (σ.set i (some v)) H') (fun v r L' F' H' hpo x s' rr => ?_) (fun cls d L' F' H' hx' x s' => ?_)) (fun u4 s4 z => cmpBack_of2 z fun z => ?_) fun _ _ z => z
  · exact nn.nx _ (L' ++ LR) _ F' H' (hk r L' hpo) (x2.tr x) ⟨s'.sl.put rr i, s'.ow⟩
  · exact nn.ex cls d env (L' ++ LR) σ F' H' (hx cls d L' hx') (x2.tr x) s'
  · obtain ⟨v4, H4, I4, rv4, z⟩ := z
    exact store_ok I4 ok.nd hi (Or.inl hl) rv4 (fun s5 I5 => ⟨_, H4, I5, z⟩) (Or.inr hl)
end
end Py

namespace Py
open PySem PySem.Spec PyProof.Rows L2
theorem perm_set_mid {α : Type} : ∀ {L : List α} {kk : Nat} {c : α}, L[kk]? = some c → L.Perm (c :: L.eraseIdx kk)
  | a :: L, 0, c, h => by
    have h : some a = some c := h
    cases h
    exact List.Perm.refl _
  | a :: L, kk + 1, c, h => by
    have h : L[kk]? = some c := h
    exact ((perm_set_mid h).cons a).trans (List.Perm.swap _ _ _)
section
variable {κ β : Type} [Rep κ] [DecidableEq κ] [KR κ] [Rep β] {C : Cz} {k : Nat} {env : Env} {L : List Cell} {e a b o : Expr} {pos : Pos} {rest : List Stmt} {Q : Po} {m : List (κ × At)} {d : Addr} {x : κ} {y : β}
/-- d.setdefault(k, []).append(e) -/
theorem S_setdApp {ap1 cp1 ap2 cp2 lp : Pos} (kk : Nat) (ok : C.Ok k) (ho : E C env L o ⟨(At.mk d)⟩) (hb : E C env L b ⟨x⟩) (he : ∀ L', E C env L' e ⟨y⟩) (hL : L[kk]? = some (Cell.dic d m)) (hz : m.length < sizeLine)
    (hold : ∀ a, lkp m x = some a → ∃ (j : Nat) (as : List β), L[j]? = some (Cell.lst a.p as) ∧ as.length < sizeLine ∧ S C env (L.set j (Cell.lst a.p (as ++ [y]))) rest Q)
    (hnew : lkp m x = none → ∀ l, S C env (Cell.lst l [y] :: L.set kk (Cell.dic d (putA m x ⟨l⟩))) rest Q)
    (hM : M2 C.X o "setdefault" ap1 b (.List [] lp) cp1 := by exact ⟨by rfl, by rfl, by rfl, by rfl⟩)
    (hs : swapsWith (.Call (.Attribute (.Call (.Attribute o "setdefault" ap1) [b, .List [] lp] [] cp1) "append" ap2) [e] [] cp2) none pos.line C.X.env = pure false := by rfl)
    (hbase : attributeBase (.Call (.Attribute o "setdefault" ap1) [b, .List [] lp] [] cp1) "append" C.X.env (eval (.Call (.Attribute o "setdefault" ap1) [b, .List [] lp] [] cp1) C.X.env) = eval (.Call (.Attribute o "setdefault" ap1) [b, .List [] lp] [] cp1) C.X.env := by rfl)
    (hfew : ((backTo cp2 (starEach (e :: []) C.X.env)).all (fun x => !x.1) && (backToKw cp2 (keywordEach [] C.X.env)).all (fun x => x.1.isSome) && decide ((e :: []).length + ([] : List Keyword).length + (if ([] : List Keyword).isEmpty then 0 else 1) < 30)) = true := by rfl)
    (hst : starEach [e] C.X.env = (false, eval e C.X.env) :: starEach [] C.X.env := by rfl) (hline : (ap2.endLine == cp2.line) = true := by rfl) :
    S C env L (.Expr (.Call (.Attribute (.Call (.Attribute o "setdefault" ap1) [b, .List [] lp] [] cp1) "append" ap2) [e] [] cp2) pos :: rest) Q := by
  have hE : PE C.X e (fun σ H Q => ∃ z : ULift.{1} (List Cell), True ∧ eE C env z.down ⟨y⟩ σ H Q) := PE.ex fun z _ => (he z.down).p
  have hn : A C env L [] [] := A_nil
  refine S_cons ⟨PS.imp (ps_expr (pe_bm PySem.F.plainAttrs_list PySem.F.slot_list_append PySem.F.type_list_append mt_append (pe_dsetd ho.p hb.p (pe_lst hn.p) hM) (pa_cons hE pa_nil hst) hbase hfew hline hst rfl) hs) fun D σ H ⟨F, s, n⟩ => ?_⟩
  refine ⟨F, s, fun v F1 H1 x1 s1 rv => ?_⟩
  have rv : v = V.ref d := rv
  subst rv
  obtain ⟨⟨kv0, g1, _⟩, _⟩ := s1.ow.ok _ (List.mem_of_getElem? hL)
  refine ⟨d, rfl, Or.inl ⟨kv0, Or.inl g1⟩, F1, s1, fun w F2 H2 x2 s2 rw' => ⟨F2, s2, fun vs F3 H3 x3 s3 rv3 => ?_⟩⟩
  cases rv3
  refine ⟨Nat.zero_le _, fun l hl => ?_⟩
  obtain ⟨⟨kvs, h1, h2⟩, h3⟩ := s3.ow.ok _ (List.mem_of_getElem? hL)
  have hne : l ≠ d := fun z => by rw [z, h1] at hl; cases hl
  have o1 := s3.ow.cell (c := Cell.lst l ([] : List β)) hl rfl ⟨⟨[], upd_same, .nil⟩, Nat.zero_le _⟩
  have xx : Ex F F3 := (x1.f.tr x2.f).tr x3.f
  refine ⟨kvs, KR.k x, by rw [upd_ne (fun z => hne z.symm)]; exact h1, KR.rp _ _ _ _ rw', by rw [h2.length]; exact hz, fun v hv => ?_, fun hv => ?_⟩
  · obtain ⟨q1, q2⟩ := pr_lkp h2 x
    cases q : lkp m x with
    | none => rw [q2 q] at hv; cases hv
    | some a =>
      obtain ⟨v', q3, q4⟩ := q1 a q
      rw [hv] at q3
      cases q3
      have q4 : v = V.ref a.p := q4
      subst q4
      obtain ⟨j, as, hj, hlen, hk⟩ := hold a q
      have hj2 : (Cell.lst l ([] : List β) :: L)[j + 1]? = some (Cell.lst a.p as) := hj
      obtain ⟨⟨ws0, g5, _⟩, _⟩ := o1.ok _ (List.mem_of_getElem? hj2)
      refine ⟨Or.inl ⟨rfl, ws0, sq_of g5⟩, ⟨_⟩, trivial, F3, ⟨s3.sl, o1⟩, fun w4 F4 H4 x4 s4 rw4 => ?_⟩
      obtain ⟨⟨ws, g6, g7⟩, g8⟩ := s4.ow.ok _ (List.mem_of_getElem? hj2)
      refine ⟨a.p, ws, w4, rfl, rfl, g6, by rw [g7.length]; exact hlen, ?_⟩
      have o5 := s4.ow.put hj2 (c' := Cell.lst a.p (as ++ [y])) rfl (H' := upd H4 a.p (.lst (ws ++ [w4]))) (fun b hb => upd_ne fun z => hb (by rw [z]; exact List.mem_cons_self)) ⟨⟨_, upd_same, g7.append (.cons rw4 .nil)⟩, by rw [List.length_append]; exact hlen⟩
      exact n.nx _ _ σ F4 _ hk (xx.tr x4.f) ⟨s4.sl, (show Own C.X.K C.R F4 _ ([Cell.lst l ([] : List β)] ++ L.set j (Cell.lst a.p (as ++ [y]))) from o5).sub⟩
  · have q : lkp m x = none := by
      cases q : lkp m x with
      | none => rfl
      | some a =>
        obtain ⟨v', q3, _⟩ := (pr_lkp h2 x).1 a q
        rw [hv] at q3; cases q3
    have hk2 : (Cell.lst l ([] : List β) :: L)[kk + 1]? = some (Cell.dic d m) := hL
    have o5 := o1.put hk2 (c' := Cell.dic d (putA m x ⟨l⟩)) rfl (H' := upd (upd H3 l (.lst [])) d (.dK (putK kvs (KR.k x) (.ref l)))) (fun b hb => upd_ne fun z => hb (by rw [z]; exact List.mem_cons_self)) ⟨⟨_, upd_same, pr_put h2 (show Rep.rp C.X.K F3 (.ref l) (At.mk l) from rfl)⟩, by have := putA_len m x (At.mk l); omega⟩
    have o6 : Own C.X.K C.R F3 _ (Cell.lst l ([] : List β) :: L.set kk (Cell.dic d (putA m x ⟨l⟩))) := o5
    refine ⟨Or.inl ⟨rfl, [], sq_of (by rw [upd_ne hne, upd_same])⟩, ⟨_⟩, trivial, F3, ⟨s3.sl, o6⟩, fun w4 F4 H4 x4 s4 rw4 => ?_⟩
    obtain ⟨⟨ws, g6, g7⟩, g8⟩ := s4.ow.ok _ List.mem_cons_self
    cases g7
    refine ⟨l, [], w4, rfl, rfl, g6, by show 0 < sizeLine; decide, ?_⟩
    have hk0 : (Cell.lst l ([] : List β) :: L.set kk (Cell.dic d (putA m x ⟨l⟩)))[0]? = some (Cell.lst l ([] : List β)) := rfl
    have pr1 : Pr (Rep.rp C.X.K F4) [w4] [y] := .cons rw4 .nil
    have o7 := s4.ow.put hk0 (c' := Cell.lst l [y]) rfl (H' := upd H4 l (.lst ([] ++ [w4]))) (fun b hb => upd_ne fun z => hb (by rw [z]; exact List.mem_cons_self)) ⟨⟨_, upd_same, pr1⟩, by show 1 ≤ sizeLine; decide⟩
    exact n.nx _ _ σ F4 _ (hnew q l) (xx.tr x4.f) ⟨s4.sl, o7⟩
end
end Py

namespace Py
open PySem PySem.Spec PyProof.Rows L2
/-! ### a dict while it is walked -/
class KB (κ : Type) [Rep κ] [DecidableEq κ] [KR κ] where
  bk : ∀ K F (a : κ), Rep.rp K F (kV (KR.k a)) a
instance : KB Int := ⟨fun _ _ _ => rfl⟩
section
variable {κ α : Type} [Rep κ] [DecidableEq κ] [KR κ] [Rep α]
def Cell.dkz (od : Obj) (d : Addr) (kvs : List (L2.Key × V)) (m : List (κ × α)) : Cell := ⟨[d], fun K F H => (H d = some (.frz od (.dK kvs)) ∧ Pr (DOk K F) kvs m) ∧ m.length ≤ sizeLine, fun x h ⟨⟨h1, h2⟩, h3⟩ => ⟨⟨by rw [h d List.mem_cons_self]; exact h1, h2.imp fun _ _ => DOk.mono x⟩, h3⟩,
  fun ⟨⟨h1, _⟩, _⟩ a ha => by rw [List.mem_singleton.mp ha]; exact ⟨_, h1⟩⟩
variable {C : Cz} {k : Nat} {env : Env} {L : List Cell} {a b e tg : Expr} {pos : Pos} {m : List (κ × α)} {d : Addr} {x : κ} {y : α} {r : Ent}
/-- an expression that walks a dict of one's own -/
theorem E_lock (kk : Nat) (hL : L[kk]? = some (Cell.dic d m)) (h : ∀ od kvs, E C env (L.set kk (Cell.dkz od d kvs m)) e r) : E C env L e r := by
  have hE : PE C.X e (fun σ H Q => ∃ z : ULift.{1} (Obj × List (L2.Key × V)), True ∧ eE C env (L.set kk (Cell.dkz z.down.1 d z.down.2 m)) r σ H Q) := PE.ex fun z _ => (h z.down.1 z.down.2).p
  refine ⟨PE.imp (pe_lock hE) fun σ H Q ⟨F, s, q⟩ => ?_⟩
  obtain ⟨⟨kvs, h1, h2⟩, h3⟩ := s.ow.ok _ (List.mem_of_getElem? hL)
  refine ⟨d, .dK kvs, h1, trivial, fun od => ⟨⟨(od, kvs)⟩, trivial, F, ⟨s.sl, s.ow.put hL rfl (H' := upd H d (.frz od (.dK kvs))) (fun b hb => upd_ne fun z => hb (by rw [z]; exact List.mem_cons_self)) ⟨⟨upd_same, h2⟩, h3⟩⟩, fun v F' H' x s' rv => ?_⟩⟩
  have hlt : kk < L.length := (List.getElem?_eq_some_iff.mp hL).1
  have hL2 : (L.set kk (Cell.dkz od d kvs m))[kk]? = some (Cell.dkz od d kvs m) := by rw [List.getElem?_set_self hlt]
  obtain ⟨⟨g1, g2⟩, g3⟩ := s'.ow.ok _ (List.mem_of_getElem? hL2)
  refine ⟨g1, q v F' _ ⟨x.f⟩ ⟨s'.sl, ?_⟩ rv⟩
  have o := s'.ow.put hL2 (c' := Cell.dic d m) rfl (H' := upd H' d (.dK kvs)) (fun b hb => upd_ne fun z => hb (by rw [z]; exact List.mem_cons_self)) ⟨⟨kvs, upd_same, g2⟩, g3⟩
  have e1 : (L.set kk (Cell.dkz od d kvs m)).set kk (Cell.dic d m) = L := by
    rw [List.set_set]
    obtain ⟨hlt, he⟩ := List.getElem?_eq_some_iff.mp hL
    rw [← he]
    exact List.set_getElem_self hlt
  rw [e1] at o
  exact o
theorem E_dgetZ {od : Obj} {kvs : List (L2.Key × V)} (ok : C.Ok k) (ha : E C env L a ⟨(At.mk d)⟩) (hL : Cell.dkz od d kvs m ∈ L) (hb : E C env L b ⟨x⟩) (h : lkp m x = some y) (hs : NoSl b := by exact fun _ _ => rfl) : E C env L (.Subscript a b pos) ⟨y⟩ :=
  ⟨PE.imp (pe_dget (by have := ok.room.units; omega) ha.p hb.p hs) fun σ H Q ⟨F, s, q⟩ => ⟨F, s, fun p F1 H1 x1 s1 rp => ⟨F1, s1, fun w F2 H2 x2 s2 rw' => by
    have rp : p = V.ref d := rp
    subst rp
    obtain ⟨⟨h1, h2⟩, _⟩ := s2.ow.ok _ hL
    obtain ⟨v, h3, h4⟩ := (pr_lkp h2 x).1 y h
    rw [KR.rp _ _ _ _ rw']
    exact ⟨d, v, rfl, Or.inl ⟨kvs, _, Or.inr ⟨_, h1⟩, rfl, h3.symm⟩, q v F2 H2 (x1.tr x2) s2 h4⟩⟩⟩⟩
theorem EI_keysZ [KB κ] {od : Obj} {kvs : List (L2.Key × V)} (h : E C env L e ⟨(At.mk d)⟩) (hL : Cell.dkz od d kvs m ∈ L) : EIO C env L [Cell.dkz od d kvs m] tg e (m.map (·.1)) := ⟨PI.imp (pi_keys h.p) fun σ H Rr ⟨F, s, q⟩ => ⟨F, s, fun v F1 H1 x s1 rv => by
  have rv : v = V.ref d := rv
  subst rv
  obtain ⟨⟨g1, g2⟩, g3⟩ := s1.ow.ok _ hL
  have stand : ∀ F2 H2, OwnL C.X.K [Cell.dkz od d kvs m] F2 H2 → H2 d = some (.frz od (.dK kvs)) ∧ Pr (DOk C.X.K F2) kvs m := fun F2 H2 x3 => by
    obtain ⟨R, L', o, hin⟩ := x3.ow
    exact (o.ok _ (hin _ List.mem_cons_self)).1
  have hlen : (m.map (·.1)).length = kvs.length := by rw [List.length_map, g2.length]
  refine ⟨d, od, rfl, Or.inl ⟨kvs, g1, q _ F1 H1 x s1 ⟨fun i F2 H2 hi x2 x3 => ?_, fun i F2 H2 hi x2 x3 => ?_⟩ (by rw [List.length_map]; exact g3)⟩⟩
  · obtain ⟨h1, h2⟩ := stand F2 H2 x3
    refine ⟨⟨h1, by rw [← hlen]; exact hi⟩, fun y H3 ⟨e1, kk, vv, e2, e3⟩ => ?_⟩
    subst e1
    obtain ⟨p, h5, h6⟩ := h2.getL e2
    refine ⟨F2, Gro.rf x3.1, p.1, by rw [List.getElem?_map, h5]; rfl, ?_⟩
    rw [e3]
    have h7 : kk = KR.k p.1 := h6.1
    rw [h7]
    exact KB.bk _ _ _
  · obtain ⟨h1, h2⟩ := stand F2 H2 x3
    exact ⟨h1, by rw [← hlen]; exact hi⟩⟩⟩
end
section
variable {C : Cz} {k : Nat} {env : Env} {L : List Cell} {a b e tg : Expr} {es : List Expr} {pos apos cpos : Pos}
/-- for x in (a, b) -/
theorem EI_p2 {α : Type} [Rep α] {x y : α} (h : E C env L e ⟨(P2.mk x y)⟩) : EI C env L tg e [x, y] := ⟨PI.imp (pi_tup h.p) fun σ H Rr ⟨F, s, q⟩ => ⟨F, s, fun v F1 H1 w1 s1 ⟨p, u, w, h1, h2, h3, h4⟩ => ⟨p, h1, ⟨_, ex_t s1.ow.fH h2⟩, q _ F1 H1 w1 s1 ⟨fun i F2 H2 hi x2 x3 => by
    have pr : Pr (Rep.rp C.X.K F1) [u, w] [x, y] := .cons h3 (.cons h4 .nil)
    have hv : i < [u, w].length := hi
    refine ⟨⟨_, [u, w][i], ex_t x3.1 (ex_t x2 h2), List.getElem?_eq_getElem hv⟩, fun y H3 ⟨e1, e2⟩ => ?_⟩
    subst e1
    have e3 := e2 _ (ex_t x3.1 (ex_t x2 h2))
    obtain ⟨a, h5, h6⟩ := pr.getL e3
    exact ⟨F2, Gro.rf x3.1, a, h5, Rep.mono x2 h6⟩, fun i F2 H2 hi x2 x3 => ⟨_, ex_t x3.1 (ex_t x2 h2), hi⟩⟩ (by show 2 ≤ sizeLine; decide)⟩⟩⟩
end
/-! ### lists of things of several kinds -/
structure H2 (α β : Type) where
  a : α
  b : β
deriving DecidableEq
structure H3 (α β γ : Type) where
  a : α
  b : β
  c : γ
instance {α β : Type} [Rep α] [Rep β] : Rep (H2 α β) := ⟨fun K F v t => ∃ p x y, v = .ref p ∧ F p = some (.lst [x, y]) ∧ Rep.rp K F x t.a ∧ Rep.rp K F y t.b, fun e ⟨p, x, y, h1, h2, h3, h4⟩ => ⟨p, x, y, h1, e _ _ h2, Rep.mono e h3, Rep.mono e h4⟩⟩
instance {α β γ : Type} [Rep α] [Rep β] [Rep γ] : Rep (H3 α β γ) := ⟨fun K F v t => ∃ p x y z, v = .ref p ∧ F p = some (.lst [x, y, z]) ∧ Rep.rp K F x t.a ∧ Rep.rp K F y t.b ∧ Rep.rp K F z t.c, fun e ⟨p, x, y, z, h1, h2, h3, h4, h5⟩ => ⟨p, x, y, z, h1, e _ _ h2, Rep.mono e h3, Rep.mono e h4, Rep.mono e h5⟩⟩
section
variable {C : Cz} {k : Nat} {env : Env} {L : List Cell} {a b e tg : Expr} {es : List Expr} {pos apos cpos : Pos}
theorem E_h2 {α β : Type} [Rep α] [Rep β] {x : α} {y : β} (h : A C env L es [⟨x⟩, ⟨y⟩]) : E C env L (.List es pos) ⟨(H2.mk x y)⟩ := ⟨PE.imp (pe_lst h.p) fun σ H Q ⟨F, s, q⟩ => ⟨F, s, fun vs F1 H1 x1 s1 rv => by
  obtain ⟨v, w, rfl, h1, h2⟩ := two_arg rv
  exact ⟨by show 2 ≤ sizeLine; decide, fun l hn => q _ _ _ (x1.tr (Gro.new s1.ow.fH hn).w) (s1.gro (Gro.new s1.ow.fH hn)) ⟨l, v, w, rfl, upd_same, Rep.mono (Ex.new (Ex.free s1.ow.fH hn)) h1, Rep.mono (Ex.new (Ex.free s1.ow.fH hn)) h2⟩⟩⟩⟩
theorem E_h3 {α β γ : Type} [Rep α] [Rep β] [Rep γ] {x : α} {y : β} {z : γ} (h : A C env L es [⟨x⟩, ⟨y⟩, ⟨z⟩]) : E C env L (.List es pos) ⟨(H3.mk x y z)⟩ := ⟨PE.imp (pe_lst h.p) fun σ H Q ⟨F, s, q⟩ => ⟨F, s, fun vs F1 H1 x1 s1 rv => by
  obtain ⟨v, w, u, rfl, h1, h2, h3⟩ := three_arg rv
  exact ⟨by show 3 ≤ sizeLine; decide, fun l hn => q _ _ _ (x1.tr (Gro.new s1.ow.fH hn).w) (s1.gro (Gro.new s1.ow.fH hn)) ⟨l, v, w, u, rfl, upd_same, Rep.mono (Ex.new (Ex.free s1.ow.fH hn)) h1, Rep.mono (Ex.new (Ex.free s1.ow.fH hn)) h2, Rep.mono (Ex.new (Ex.free s1.ow.fH hn)) h3⟩⟩⟩⟩
theorem E_hix {α β : Type} [Rep α] [Rep β] {t : α} {y : β} {i : Int} (ha : E C env L a ⟨t⟩) (hb : E C env L b ⟨i⟩) (h : ∀ F v, Rep.rp C.X.K F v t → ∃ p vs w, v = .ref p ∧ F p = some (.lst vs) ∧ atI vs i = some w ∧ Rep.rp C.X.K F w y) (hs : PlainIx b := by exact fun _ _ => rfl) : E C env L (.Subscript a b pos) ⟨y⟩ :=
  ⟨PE.imp (pe_ix ix_list ha.p hb.p hs) fun σ H Q ⟨F, s, q⟩ => ⟨F, s, fun v F1 H1 x1 s1 rv => ⟨F1, s1, fun w F2 H2 x2 s2 rw' => by
    obtain ⟨p, vs, u, rfl, h1, h2, h3⟩ := h F1 v rv
    exact ⟨p, vs, i, u, rfl, rw', sq_of (s2.ow.fH _ _ (x2.f _ _ h1)), h2, q u F2 H2 (x1.tr x2) s2 (Rep.mono x2.f h3)⟩⟩⟩⟩
theorem E_h3a {α β γ : Type} [Rep α] [Rep β] [Rep γ] {t : H3 α β γ} (ha : E C env L a ⟨t⟩) (hb : E C env L b ⟨(0 : Int)⟩) (hs : PlainIx b := by exact fun _ _ => rfl) : E C env L (.Subscript a b pos) ⟨t.a⟩ := E_hix ha hb (fun F v ⟨p, x, y, z, h1, h2, h3, h4, h5⟩ => ⟨p, _, x, h1, h2, rfl, h3⟩) hs
theorem E_h3b {α β γ : Type} [Rep α] [Rep β] [Rep γ] {t : H3 α β γ} (ha : E C env L a ⟨t⟩) (hb : E C env L b ⟨(1 : Int)⟩) (hs : PlainIx b := by exact fun _ _ => rfl) : E C env L (.Subscript a b pos) ⟨t.b⟩ := E_hix ha hb (fun F v ⟨p, x, y, z, h1, h2, h3, h4, h5⟩ => ⟨p, _, y, h1, h2, rfl, h4⟩) hs
theorem E_h3c {α β γ : Type} [Rep α] [Rep β] [Rep γ] {t : H3 α β γ} (ha : E C env L a ⟨t⟩) (hb : E C env L b ⟨(2 : Int)⟩) (hs : PlainIx b := by exact fun _ _ => rfl) : E C env L (.Subscript a b pos) ⟨t.c⟩ := E_hix ha hb (fun F v ⟨p, x, y, z, h1, h2, h3, h4, h5⟩ => ⟨p, _, z, h1, h2, rfl, h5⟩) hs
end
instance {α β : Type} [Rep α] [Rep β] [DecidableEq α] [DecidableEq β] [DE α] [DE β] : DE (H2 α β) := ⟨fun t => .list [DE.d t.a, DE.d t.b], max (DE.n α) (DE.n β) + 1, fun K F H v a e h => by
  obtain ⟨p, x, y, rfl, h1, h2, h3⟩ := h
  obtain ⟨g1, g2⟩ := DE.dp K F H _ _ e h2
  obtain ⟨g3, g4⟩ := DE.dp K F H _ _ e h3
  exact ⟨.lst (sq_of (e _ _ h1)) (.cons g1 (.cons g3 .nil)), by simp [PyData.canLay0, PyData.canLayAll0, g2, g4]⟩, fun t => by
    simp only [PyData.depth, PyData.depthAll]
    have := DE.dn t.a
    have := DE.dn t.b
    omega, fun t u => by
    simp only [PyData.eqv, PyData.eqvAll, DE.ev]
    obtain ⟨a, b⟩ := t
    obtain ⟨c, d⟩ := u
    by_cases h : a = c <;> by_cases h2 : b = d <;> simp [h, h2]⟩
section
variable {C : Cz} {k : Nat} {env : Env} {L : List Cell} {a e : Expr} {pos apos : Pos}
/-- xs.index(e), data -/
theorem E_indexD {α : Type} [Rep α] [DecidableEq α] [DE α] {as : List α} {x : α} {jx : Nat} {cpos : Pos} (ok : C.Ok k) (ho : E C env L a ⟨as⟩) (he : E C env L e ⟨x⟩) (h1 : as[jx]? = some x) (h2 : ∀ m, m < jx → as[m]? ≠ some x) (hn : DE.n α + 1 ≤ 64 := by decide) (hk : 1 ≤ k := by decide)
    (hbase : attributeBase a "index" C.X.env (eval a C.X.env) = eval a C.X.env := by rfl)
    (hfew : ((backTo cpos (starEach (e :: []) C.X.env)).all (fun x => !x.1) && (backToKw cpos (keywordEach [] C.X.env)).all (fun x => x.1.isSome) && decide ((e :: []).length + ([] : List Keyword).length + (if ([] : List Keyword).isEmpty then 0 else 1) < 30)) = true := by rfl)
    (hst : starEach [e] C.X.env = (false, eval e C.X.env) :: starEach [] C.X.env := by rfl) (hline : (apos.endLine == cpos.line) = true := by rfl) : E C env L (.Call (.Attribute a "index" apos) [e] [] cpos) ⟨(jx : Int)⟩ :=
  ⟨PE.imp (pe_bm PySem.F.plainAttrs_list PySem.F.slot_list_index PySem.F.type_list_index (mt_indexD (by have := ok.room.un; omega)) ho.p (pa_cons he.p pa_nil hst) hbase hfew hline hst rfl) fun σ H Qv ⟨F, s, q⟩ => ⟨F, s, fun v F1 H1 x1 s1 rv => by
    obtain ⟨p, vs, rfl, g1, g2, g3⟩ := id rv
    refine ⟨Or.inl ⟨rfl, vs, sq_of (s1.ow.fH _ _ g1)⟩, F1, s1, fun w F2 H2 x2 s2 rw' => ?_⟩
    have d1 := DE.dp C.X.K F2 H2 (.ref p) as s2.ow.fH (Rep.mono x2.f rv)
    have d2 := DE.dp C.X.K F2 H2 w x s2.ow.fH rw'
    refine ⟨p, w, DE.d x, as.map DE.d, jx, DE.d x, rfl, rfl, d1.1, d2.1, shaped_of (α := List α) hn d1.2, shaped_of (by omega) d2.2, by rw [List.getElem?_map, h1]; rfl, by rw [DE.ev]; exact decide_eq_true rfl, fun m z' hm hz' => ?_, q _ F2 H2 (x1.tr x2) s2 rfl⟩
    rw [List.getElem?_map] at hz'
    cases qm : as[m]? with
    | none => rw [qm] at hz'; cases hz'
    | some y =>
      rw [qm] at hz'
      cases hz'
      rw [DE.ev]
      exact decide_eq_false fun z => h2 m hm (by rw [qm, z])⟩⟩
end
end Py

namespace Py
open PySem PySem.Spec PyProof.Rows L2
section
variable {C : Cz} {k : Nat} {env : Env} {L L' : List Cell} {e : Expr} {r : Ent} {pos : Pos} {rest : List Stmt} {Q : Po} {P : Ent → List Cell → Prop} {PX : Value → Option Addr → List Cell → Prop}
theorem EM.perm (h : EM C env L e P PX) {P' : Ent → List Cell → Prop} (h2 : ∀ r L1, P r L1 → ∃ L2, L2.Perm L1 ∧ P' r L2) : EM C env L e P' PX := ⟨PE.imp h.p fun σ H Q ⟨F, s, q1, q2⟩ => ⟨F, s, fun v r L1 F' H' hp x s' rv => by
  obtain ⟨L2, p, hp2⟩ := h2 r L1 hp
  exact q1 v r L2 F' H' hp2 x ⟨s'.sl, s'.ow.perm p⟩ rv, q2⟩⟩
/-- return e, some cells are forgotten -/
theorem S_retP (L1 : List Cell) (he : E C env L e r) (p : (L1 ++ L').Perm L) (h : Q.rt r L') : S C env L (.Return (some e) pos :: rest) Q :=
  S_retM (EM.dropP (P' := fun r' L2 => r' = r ∧ L2 = L') (EM.perm (P' := fun r' L2 => r' = r ∧ L2 = L1 ++ L') he.m fun r' L2 ⟨h1, h2⟩ => ⟨L1 ++ L', by rw [h2]; exact p, h1, rfl⟩) fun r' L2 ⟨h1, h2⟩ => ⟨L1, L', h2, h1, rfl⟩) (fun r' L2 z => by obtain ⟨rfl, rfl⟩ := z; exact h) (fun _ _ _ z => z.elim)
/-- isinstance(o, X), o seen -/
theorem E_isO {C0 : Addr} {a b : Expr} {p : Pos} (c : C8.InsC C.X.K C0) (i1 : Seen C L r C0) (ha : E C env L a r) (hb : E C env L b ⟨(At.mk C0)⟩) (hm : C.X.mg "isinstance" = none) (hg : Gl C.X "isinstance" := by rfl)
    (he : starEach [a, b] C.X.env = (false, eval a C.X.env) :: starEach [b] C.X.env := by rfl) (he2 : starEach [b] C.X.env = (false, eval b C.X.env) :: starEach [] C.X.env := by rfl) (hpl : (backTo pos (starEach [b] C.X.env)).any (·.1) = false := by rfl) : E C env L (.Call (.Name "isinstance" p) [a, b] [] pos) ⟨true⟩ :=
  ⟨PE.imp (pe_callU (C8.call_isC c) (Or.inl ⟨_, rfl⟩) hg hm boot_isinst (A_cons ha (A_cons hb A_nil he2) he).p (by decide) (by decide) he hpl) fun σ H Q ⟨F, s, q⟩ => ⟨F, s, fun vs F1 H1 x1 s1 rv => by
    cases rv with
    | cons h1 t =>
      cases t with
      | cons h2 t =>
      cases t
      obtain ⟨a, dx, fs, rfl, g1⟩ := i1 _ F1 H1 _ s1.ow h1
      have h2 : _ = V.ref C0 := h2
      subst h2
      exact ⟨a, dx, fs, rfl, g1, q _ F1 H1 x1 s1 rfl⟩⟩⟩
/-- tg = e -/
theorem S_asg {tg : Expr} {js : List Nat} {env2 : Env} (he : E C env L e r) (hg : G C env L tg r env2 js) (h : S C env2 L rest Q) (h1 : swapsWithSole [tg] e pos.line C.X.env = pure false := by rfl) (h2 : swappedStores [tg] e C.X.env = pure none := by rfl) (h3 : List.map (fun x => x.snd) (assignEach [tg] C.X.env) = [assign tg C.X.env] := by rfl) : S C env L (.Assign [tg] e pos :: rest) Q :=
  S_cons ⟨PS.imp (ps_asg he.p hg.p h1 h2 h3) fun D σ H ⟨F, s, n⟩ => ⟨F, s, fun v F1 H1 x1 s1 rv => ⟨F1, s1, rv, fun σ' F' H' x2 s2 _ => n.nx _ _ σ' F' H' h (x1.f.tr x2.f) s2⟩⟩⟩
end
end Py

namespace Py
open PySem PySem.Spec PyProof.Rows L2
section
variable {C : Cz} {k : Nat} {env : Env} {L : List Cell} {a b e : Expr} {es : List Expr} {r : Ent} {pos p lp apos cpos : Pos} {rest : List Stmt} {Q : Po}
/-- xs.append([..]), the new list one's own -/
theorem S_appNew {β : Type} [Rep β] {as : List At} {ys : List β} {l : Addr} (kk : Nat) (ho : E C env L a ⟨(At.mk l)⟩) (he : A C env L es (EntsOf ys)) (hL : L[kk]? = some (Cell.lst l as)) (hz : as.length < sizeLine) (hy : ys.length ≤ sizeLine) (hk : ∀ q, S C env (Cell.lst q ys :: L.set kk (Cell.lst l (as ++ [⟨q⟩]))) rest Q)
    (hs : swapsWith (.Call (.Attribute a "append" apos) [.List es lp] [] cpos) none pos.line C.X.env = pure false := by rfl) (hbase : attributeBase a "append" C.X.env (eval a C.X.env) = eval a C.X.env := by rfl)
    (hfew : ((backTo cpos (starEach (.List es lp :: []) C.X.env)).all (fun x => !x.1) && (backToKw cpos (keywordEach [] C.X.env)).all (fun x => x.1.isSome) && decide ((Expr.List es lp :: []).length + ([] : List Keyword).length + (if ([] : List Keyword).isEmpty then 0 else 1) < 30)) = true := by rfl)
    (hst : starEach [.List es lp] C.X.env = (false, eval (.List es lp) C.X.env) :: starEach [] C.X.env := by rfl) (hline : (apos.endLine == cpos.line) = true := by rfl) : S C env L (.Expr (.Call (.Attribute a "append" apos) [.List es lp] [] cpos) pos :: rest) Q := by
  refine S_cons ⟨PS.imp (ps_expr (pe_bm PySem.F.plainAttrs_list PySem.F.slot_list_append PySem.F.type_list_append mt_append ho.p (pa_cons (pe_lst he.p) pa_nil hst) hbase hfew hline hst rfl) hs) fun D σ H ⟨F, s, n⟩ => ?_⟩
  refine ⟨F, s, fun v F1 H1 x1 s1 rv => ?_⟩
  have rv : v = V.ref l := rv
  subst rv
  obtain ⟨⟨vs, h1, h2⟩, h3⟩ := s1.ow.ok _ (List.mem_of_getElem? hL)
  refine ⟨Or.inl ⟨rfl, vs, sq_of h1⟩, F1, s1, fun ws F2 H2 x2 s2 rw' => ⟨by rw [rw'.ofEnts.length]; exact hy, fun q hq => ?_⟩⟩
  have o1 := s2.ow.cell (c := Cell.lst q ys) hq rfl ⟨⟨ws, upd_same, rw'.ofEnts⟩, hy⟩
  have hL2 : (Cell.lst q ys :: L)[kk + 1]? = some (Cell.lst l as) := hL
  obtain ⟨⟨vs2, h4, h5⟩, h6⟩ := o1.ok _ (List.mem_of_getElem? hL2)
  have pr2 : Pr (Rep.rp C.X.K F2) (vs2 ++ [V.ref q]) (as ++ [At.mk q]) := h5.append (.cons (show Rep.rp C.X.K F2 (V.ref q) (At.mk q) from rfl) .nil)
  have o2 := o1.put hL2 (c' := Cell.lst l (as ++ [⟨q⟩])) rfl (H' := upd (upd H2 q (.lst ws)) l (.lst (vs2 ++ [V.ref q]))) (fun b hb => upd_ne fun z => hb (by rw [z]; exact List.mem_cons_self)) ⟨⟨_, upd_same, pr2⟩, by rw [List.length_append]; exact hz⟩
  exact ⟨l, vs2, V.ref q, rfl, rfl, h4, by rw [h5.length]; exact hz, n.nx _ _ σ F2 _ (hk q) (x1.f.tr x2.f) ⟨s2.sl, o2⟩⟩
/-- isinstance(xs, list), xs one's own -/
theorem E_isiL {α : Type} [Rep α] {as : List α} {l : Addr} (ha : E C env L a ⟨(At.mk l)⟩) (hL : Cell.lst l as ∈ L) (hb : E C env L b ⟨(TyN.mk "list")⟩) (hm : C.X.mg "isinstance" = none) (hg : Gl C.X "isinstance" := by rfl)
    (he : starEach [a, b] C.X.env = (false, eval a C.X.env) :: starEach [b] C.X.env := by rfl) (he2 : starEach [b] C.X.env = (false, eval b C.X.env) :: starEach [] C.X.env := by rfl) (hpl : (backTo pos (starEach [b] C.X.env)).any (·.1) = false := by rfl) : E C env L (.Call (.Name "isinstance" p) [a, b] [] pos) ⟨true⟩ :=
  ⟨PE.imp (pe_callU call_isi (Or.inl ⟨_, rfl⟩) hg hm boot_isinst (A_cons ha (A_cons hb A_nil he2) he).p (by decide) (by decide) he hpl) fun σ H Q ⟨F, s, q⟩ => ⟨F, s, fun vs F1 H1 x1 s1 rv => by
    cases rv with
    | cons h1 t =>
      cases t with
      | cons h2 t =>
      cases t
      have h1 : _ = V.ref l := h1
      have h2 : _ = V.ty "list" := h2
      subst h1 h2
      obtain ⟨⟨vs, g1, _⟩, _⟩ := s1.ow.ok _ hL
      exact ⟨V.ref l, _, _, _, true, rfl, .ty "list", (.base (.lst g1) : TyX C.X.K H1 (V.ref l) (.type "list")), kit_ty (show kitB "list" "list" = some true by rfl), q _ F1 H1 x1 s1 rfl⟩⟩⟩
end
end Py

namespace Py
open PySem PySem.Spec PyProof.Rows L2
theorem Own.freezeL {K : PySem.W.Frag} {R H : Hp} {L : List Cell} : ∀ {L1 : List Cell} {F : Hp}, Own K R F H (L1 ++ L) → ∃ F', Ex F F' ∧ Own K R F' H L ∧ ∀ c ∈ L1, ∀ a ∈ c.ad, F' a = H a
  | [], F, o => ⟨F, Ex.rf F, o, fun c hc => by cases hc⟩
  | c :: L1, F, o => by
    obtain ⟨x, o1, hj⟩ := o.freeze
    obtain ⟨F2, x2, o2, hj2⟩ := Own.freezeL o1
    refine ⟨F2, x.tr x2, o2, fun d hd a ha => ?_⟩
    rcases List.mem_cons.mp hd with rfl | hd
    · have h1 := hj a ha
      obtain ⟨u, hu⟩ := d.th (o.ok _ List.mem_cons_self) a ha
      rw [hu]
      exact x2 a u (h1.trans hu)
    · exact hj2 d hd a ha
/-- what is seen once the cells L1 are frozen -/
def FrzTo (K : PySem.W.Frag) (L1 : List Cell) (r0 r1 : Ent) : Prop := ∀ F H F' v, (∀ c ∈ L1, c.ok K F H) → Ex F F' → (∀ c ∈ L1, ∀ a ∈ c.ad, F' a = H a) → r0.rp K F v → r1.rp K F' v
section
variable {C : Cz} {k : Nat} {env : Env} {L L' : List Cell} {e : Expr} {r y r0 r1 : Ent} {pos : Pos} {rest : List Stmt} {Q : Po} {P : Ent → List Cell → Prop}
/-- what an expression makes is frozen at once -/
theorem EM.freeze (h : EM C env L e P (fun _ _ _ => False)) (hc : ∀ r L', P r L' → ∃ L1, L' = L1 ++ L ∧ FrzTo C.X.K L1 r y) : E C env L e y :=
  ⟨PE.imp h.p fun σ H Q ⟨F, s, q⟩ => ⟨F, s, fun v r L' F' H' hp x s' rv => by
    obtain ⟨L1, rfl, hf⟩ := hc r L' hp
    obtain ⟨F2, x2, o2, hj⟩ := s'.ow.freezeL
    exact q v F2 H' ⟨x.tr x2⟩ ⟨s'.sl.mono x2, o2⟩ (hf F' H' F2 v (fun c hc => s'.ow.ok _ (List.mem_append_left _ hc)) x2 hj rv), fun _ _ _ _ _ z => z.elim⟩⟩
theorem S_frzAll (i : Nat) (L1 : List Cell) (hi : env[i]? = some (some r0)) (p : (L1 ++ L').Perm L) (hf : FrzTo C.X.K L1 r0 r1) (hk : S C (env.set i (some r1)) L' rest Q) : S C env L rest Q := by
  refine ⟨PSs.imp hk.p fun D σ H ⟨F, s, n⟩ => ?_⟩
  have o := s.ow.perm p
  obtain ⟨F2, x2, o2, hj⟩ := o.freezeL
  obtain ⟨v, hv, rv⟩ := s.sl.get hi
  have sl := (s.sl.mono x2).put (e := r1) (v := v) (hf F H F2 v (fun c hc => o.ok _ (List.mem_append_left _ hc)) x2 hj rv) i
  have e : σ.set i (some v) = σ := by
    obtain ⟨hlt, he⟩ := List.getElem?_eq_some_iff.mp hv
    rw [← he]; exact List.set_getElem_self hlt
  rw [e] at sl
  exact ⟨F2, ⟨sl, o2⟩, n.mono x2⟩
end
/-- lists of one's own in a frozen list -/
theorem frz_ats {α : Type} [Rep α] {K : PySem.W.Frag} {F H F' : Hp} (x : Ex F F') : ∀ {ags : List (Addr × List α)} {vs : List V}, (∀ c ∈ ags.map (fun p => Cell.lst p.1 p.2), c.ok K F H) → (∀ c ∈ ags.map (fun p => Cell.lst p.1 p.2), ∀ a ∈ c.ad, F' a = H a) → Pr (Rep.rp K F) vs (ags.map fun p => At.mk p.1) → Pr (Rep.rp K F') vs (ags.map (·.2))
  | [], _, _, _, .nil => .nil
  | p :: ags, _, h1, h2, .cons h t => by
    obtain ⟨⟨ws, g1, g2⟩, g3⟩ := h1 _ List.mem_cons_self
    have e1 := h2 _ List.mem_cons_self p.1 List.mem_cons_self
    exact .cons ⟨p.1, ws, h, by rw [e1]; exact g1, g2.imp fun _ _ => Rep.mono x, g3⟩ (frz_ats x (fun c hc => h1 c (List.mem_cons_of_mem _ hc)) (fun c hc => h2 c (List.mem_cons_of_mem _ hc)) t)
theorem frzTo_ats {α : Type} [Rep α] {K : PySem.W.Frag} (ags : List (Addr × List α)) : FrzTo K (ags.map fun p => Cell.lst p.1 p.2) ⟨(ags.map fun p => At.mk p.1)⟩ ⟨(ags.map (·.2))⟩ := fun F H F' v h1 x h2 ⟨p, vs, g1, g2, g3, g4⟩ =>
  ⟨p, vs, g1, x _ _ g2, frz_ats x h1 h2 g3, by rw [List.length_map] at g4 ⊢; exact g4⟩
theorem frzTo_lsts {α : Type} [Rep α] {K : PySem.W.Frag} {l : Addr} (ags : List (Addr × List α)) : FrzTo K (Cell.lst l (ags.map fun p => At.mk p.1) :: ags.map fun p => Cell.lst p.1 p.2) ⟨(At.mk l)⟩ ⟨(ags.map (·.2))⟩ := fun F H F' v h1 x h2 hv => by
  have hv : v = V.ref l := hv
  subst hv
  obtain ⟨⟨vs, g1, g2⟩, g3⟩ := h1 _ List.mem_cons_self
  have e1 := h2 _ List.mem_cons_self l List.mem_cons_self
  exact ⟨l, vs, rfl, by rw [e1]; exact g1, frz_ats x (fun c hc => h1 c (List.mem_cons_of_mem _ hc)) (fun c hc => h2 c (List.mem_cons_of_mem _ hc)) g2, by rw [List.length_map] at g3 ⊢; exact g3⟩
end Py

namespace Py
open PySem PySem.Spec PyProof.Rows L2
section
variable {C : Cz} {k n : Nat} {env : Env} {L LR : List Cell} {e a b : Expr} {C0 : Addr} {r r1 r2 : Ent} {pos : Pos} {m : Str} {P P' : Ent → List Cell → Prop}
theorem EM.go (he : EM C env L e P (fun _ _ _ => False)) {pins : List (Addr × Obj)} {σ : Py.St} {F H : Hp} {s : Shared} {Qv : Value → Shared → Prop} (I : L2.Inv C.X pins σ H s) (st : Sta C F env L σ H)
    (h : ∀ u s1 v r L' F1 H1, L2.Inv C.X pins σ H1 s1 → RelV v u → P r L' → Ex F F1 → Sta C F1 env L' σ H1 → r.rp C.X.K F1 v → Qv u s1) : wpAny (model C.X.prog C.X.w) C.X.A (eval e C.X.env) Qv C.X.xe s :=
  wpAny_mono (he.p.run pins s σ H (fun v H1 => ∃ r L' F1, P r L' ∧ Ex F F1 ∧ Sta C F1 env L' σ H1 ∧ r.rp C.X.K F1 v) I ⟨F, st, fun v r L' F1 H1 hp x s1 rv => ⟨r, L', F1, hp, x, s1, rv⟩, fun _ _ _ _ _ z => z.elim⟩) (fun u s1 ⟨v, H1, I1, r1, r, L', F1, hp, x1, st1, rv⟩ => h u s1 v r L' F1 H1 I1 r1 hp x1 st1 rv) fun _ _ z => z
/-- a op b, an own comparison, b makes cells -/
theorem EM_cmpOM.{u} {γ : Type u} {arg : γ → List Ent} {cel : γ → List Cell} {pre : γ → Prop} {post : γ → Ent → List Cell → Prop} {op : CmpOp} (ok : C.Ok k)
    (M : Ms C.X.prog C.X.w C.X.K C.X.mg C.X.base n C0 m (spM C.X.K arg cel pre post (fun _ _ _ _ => False))) (ha : E C env L a r1) (hb : EM C env L b P (fun _ _ _ => False))
    (hh : ∀ r2 L2, P r2 L2 → ∃ g LR, arg g = [r1, r2] ∧ pre g ∧ L2.Perm (cel g ++ LR) ∧ Seen C L2 r1 C0 ∧ Seen C L2 r2 C0 ∧ ∀ r L1, post g r L1 → P' r (L1 ++ LR)) (ho : ∀ u v, compareOp op u v = richCompare op u v := by intro _ _; rfl) (hm : (PySem.cmpInfo op).2.1 = m := by rfl) (hj : n ≤ k := by decide) (hn : behindInMarks op b = false := by first | rfl | exact nomark _) :
    EM C env L (.Compare a [op] [b] pos) P' (fun _ _ _ => False) := by
  obtain ⟨f, fd, ps, hM, _, hB, Fn⟩ := M.h
  subst hm
  refine ⟨⟨fun pins s σ H Qv I ⟨F, st, q1, q2⟩ => wpAny_Compare1 (ha.go I st fun u s1 v F1 H1 I1 ru x1 st1 rv => hb.go I1 st1 fun u2 s2 v2 r2 L2 F2 H2 I2 ru2 hp x2 st2 rv2 => ?_) hn⟩⟩
  obtain ⟨g, LR, hg, hpre, hL, i1, i2, hpo⟩ := hh r2 L2 hp
  have rv1 := Ent.mono x2 rv
  obtain ⟨q, dx, fs, rfl, h1⟩ := i1 _ F2 H2 v st2.ow rv1
  obtain ⟨q', dx', fs', rfl, h2⟩ := i2 _ F2 H2 v2 st2.ow rv2
  obtain rfl : u = Value.ref q := ru
  obtain rfl : u2 = Value.ref q' := ru2
  obtain ⟨ox, od, J, _⟩ := inst_at I2 h1
  obtain ⟨ox', od', J', _⟩ := inst_at I2 h2
  obtain ⟨m', hF⟩ := I2.fr
  rw [ho]
  refine PySem.W.cmp_K (tb := .ref C0) ok.room.units0 hF I2.ok.mod.kin J J'.type (by simp [PySem.W.notFirst]) hM.at_ hM.fn ?_
  refine wpAny_mono (run_ctr g ok Fn (Sub.here ok.room hj) hB hpre hL I2 st2 (show Vals [V.ref q, V.ref q'] [Value.ref q, Value.ref q'] from .cons rfl (.cons rfl .nil)) (by rw [hg]; exact .cons rv1 (.cons rv2 .nil)) (Qv := Qv) (fun v r L' F' H' hpo2 x s' rr => ?_) (fun cls d L' F' H' hx x s' => hx.elim)) (fun _ _ z => cmpBack_of z) fun _ _ z => z
  exact q1 v r _ F' H' (hpo r L' hpo2) ((x1.tr x2).tr x) s' rr
end
end Py

namespace Py
open PySem PySem.Spec PyProof.Rows L2
section
variable {C : Cz} {k : Nat} {env : Env} {L : List Cell} {a e : Expr} {pos apos cpos : Pos} {rest : List Stmt} {Q : Po}
/-- xs.extend(ys) -/
theorem S_ext {α : Type} [Rep α] {as bs : List α} {l : Addr} (kk : Nat) (ho : E C env L a ⟨(At.mk l)⟩) (he : E C env L e ⟨bs⟩) (hL : L[kk]? = some (Cell.lst l as)) (hz : as.length + bs.length ≤ sizeLine) (hk : S C env (L.set kk (Cell.lst l (as ++ bs))) rest Q)
    (hs : swapsWith (.Call (.Attribute a "extend" apos) [e] [] cpos) none pos.line C.X.env = pure false := by rfl) (hbase : attributeBase a "extend" C.X.env (eval a C.X.env) = eval a C.X.env := by rfl)
    (hfew : ((backTo cpos (starEach (e :: []) C.X.env)).all (fun x => !x.1) && (backToKw cpos (keywordEach [] C.X.env)).all (fun x => x.1.isSome) && decide ((e :: []).length + ([] : List Keyword).length + (if ([] : List Keyword).isEmpty then 0 else 1) < 30)) = true := by rfl)
    (hst : starEach [e] C.X.env = (false, eval e C.X.env) :: starEach [] C.X.env := by rfl) (hline : (apos.endLine == cpos.line) = true := by rfl) : S C env L (.Expr (.Call (.Attribute a "extend" apos) [e] [] cpos) pos :: rest) Q := by
  refine S_cons ⟨PS.imp (ps_expr (pe_bm PySem.F.plainAttrs_list PySem.F.slot_list_extend PySem.F.type_list_extend mt_extend ho.p (pa_cons he.p pa_nil hst) hbase hfew hline hst rfl) hs) fun D σ H ⟨F, s, n⟩ => ?_⟩
  refine ⟨F, s, fun v F1 H1 x1 s1 rv => ?_⟩
  have rv : v = V.ref l := rv
  subst rv
  obtain ⟨⟨vs, h1, h2⟩, h3⟩ := s1.ow.ok _ (List.mem_of_getElem? hL)
  refine ⟨Or.inl ⟨rfl, vs, sq_of h1⟩, F1, s1, fun w F2 H2 x2 s2 rw' => ?_⟩
  obtain ⟨p, zs, rfl, g1, g2, g3⟩ := rw'
  obtain ⟨⟨vs2, h4, h5⟩, h6⟩ := s2.ow.ok _ (List.mem_of_getElem? hL)
  refine ⟨l, p, vs2, zs, rfl, rfl, h4, s2.ow.fH _ _ g1, by rw [h5.length, g2.length]; exact hz, n.nx _ _ σ F2 _ hk (x1.f.tr x2.f) ⟨s2.sl, s2.ow.put hL rfl (H' := upd H2 l (.lst (vs2 ++ zs))) (fun b hb => upd_ne fun z => hb (by rw [z]; exact List.mem_cons_self)) ⟨⟨_, upd_same, h5.append g2⟩, by rw [List.length_append]; exact hz⟩⟩⟩
end
end Py

namespace Py
open PySem PySem.Spec PyProof.Rows L2
/-! ### {k: v for .. for ..}: the machine's turns -/
section
variable (kx vx t0 i0 t1 i1 : Expr) (ifs0 ifs1 : List Expr) (scope : Scope) (pos : Pos)
abbrev dc2E : Expr := .DictComp kx vx [⟨t0, i0, ifs0, 0⟩, ⟨t1, i1, ifs1, 0⟩] scope pos
def okIfs (ifs : List Expr) (env : PySem.Env) : Sem Bool := forIn ifs true fun c r => if r = true then do
    let ok ← PySem.isTrue c env (eval c env)
    pure (ForInStep.yield ok)
  else pure (ForInStep.yield r)
def dc2Emit (D : Addr) (env : PySem.Env) : Sem Unit := eval kx env >>= fun kv => holding [kv] (eval vx env) >>= fun vv => standAt ⟨kx.pos.line, kx.pos.col, vx.pos.endLine, vx.pos.endCol⟩ >>= fun _ => holding [kv, vv] (dictSet D kv vv)
theorem dc2_in (it : Value) (D : Addr) (env : PySem.Env) : compTurn (dc2E kx vx t0 i0 t1 i1 ifs0 ifs1 scope pos) 1 it (.ref D) env =
    (standAt i1.pos >>= fun _ => pyNext it >>= fun nx => match nx with
      | none => pure (Fin.done Flow.next)
      | some v => letOwnedTupleGo t1 it v >>= fun _ => assign t1 env v >>= fun _ => okIfs ifs1 env >>= fun ok =>
        if ok = true then (dc2Emit kx vx D env >>= fun _ => again (Code.compLoop (dc2E kx vx t0 i0 t1 i1 ifs0 ifs1 scope pos) 1 it (.ref D) env)) else again (Code.compLoop (dc2E kx vx t0 i0 t1 i1 ifs0 ifs1 scope pos) 1 it (.ref D) env)) := rfl
theorem dc2_out (it : Value) (D : Addr) (env : PySem.Env) : compTurn (dc2E kx vx t0 i0 t1 i1 ifs0 ifs1 scope pos) 0 it (.ref D) env =
    (standAt i0.pos >>= fun _ => pyNext it >>= fun nx => match nx with
      | none => pure (Fin.done Flow.next)
      | some v => letOwnedTupleGo t0 it v >>= fun _ => assign t0 env v >>= fun _ => okIfs ifs0 env >>= fun ok =>
        if ok = true then (eval i1 env >>= fun x => standAt i1.pos >>= fun _ => foldedSetIterable i1 env x >>= fun x => holding [x] (pyIter x) >>= fun it1 => runOwn (Code.compStart (dc2E kx vx t0 i0 t1 i1 ifs0 ifs1 scope pos) 1 it1 (.ref D) env) env >>= fun _ => again (Code.compLoop (dc2E kx vx t0 i0 t1 i1 ifs0 ifs1 scope pos) 0 it (.ref D) env)) else again (Code.compLoop (dc2E kx vx t0 i0 t1 i1 ifs0 ifs1 scope pos) 0 it (.ref D) env)) := rfl
end
section
variable {prog : Program} {w : World} {A : Around} {R : Result → Shared → Prop} {s : Shared} {kx vx t0 i0 t1 i1 : Expr} {ifs0 ifs1 : List Expr} {scope : Scope} {pos : Pos} {it : Value} {D : Addr} {env : PySem.Env}
theorem dc2_loop_in (I : Nat → Shared → Prop) (step : ∀ n s, I n s → wpAny (model prog w) A (pyNext it) (fun r s1 => match r with
    | none => R (.ok .next) s1
    | some v => wpAny (model prog w) A (letOwnedTupleGo t1 it v) (fun _ s1' => wpAny (model prog w) A (assign t1 env v) (fun _ s2 => wpAny (model prog w) A (okIfs ifs1 env) (fun ok s3 =>
        if ok = true then wpAny (model prog w) A (eval kx env) (fun kv s4 => wpAny (model prog w) A (eval vx env) (fun vv s5 => wpAny (model prog w) A (dictSet D kv vv) (fun _ s6 => ∃ m, m < n ∧ I m s6) (fun _ _ => False) s5) (fun _ _ => False) s4) (fun _ _ => False) s3
        else ∃ m, m < n ∧ I m s3) (fun _ _ => False) s2) (fun _ _ => False) s1') (fun _ _ => False) s1) (fun _ _ => False) s) (n : Nat) (h : I n s) :
    codeAny (model prog w) A (.compLoop (dc2E kx vx t0 i0 t1 i1 ifs0 ifs1 scope pos) 1 it (.ref D) env) R s := by
  refine codeAny_loop rfl I (fun n s h => ?_) n h
  refine wpAny_noted ?_
  rw [dc2_in]
  refine wpAny_bind (wpAny_standAt (wpAny_bind ?_))
  refine wpAny_mono (step n s h) (fun r s1 h1 => ?_) fun _ _ z => z.elim
  cases r with
  | none => exact wpAny_pure h1
  | some v =>
    refine wpAny_bind (wpAny_mono h1 (fun _ s2 h2 => ?_) fun _ _ z => z.elim)
    refine wpAny_bind (wpAny_mono h2 (fun _ s3 h3 => ?_) fun _ _ z => z.elim)
    refine wpAny_bind (wpAny_mono h3 (fun ok s4 h4 => ?_) fun _ _ z => z.elim)
    cases ok with
    | false =>
      rw [if_neg (by decide)] at h4 ⊢
      exact wpAny_pure ⟨rfl, h4⟩
    | true =>
      rw [if_pos rfl] at h4 ⊢
      refine wpAny_bind ?_
      unfold dc2Emit
      refine wpAny_bind (wpAny_mono h4 (fun kv s5 h5 => ?_) fun _ _ z => z.elim)
      refine wpAny_bind (wpAny_holding (wpAny_mono h5 (fun vv s6 h6 => ?_) fun _ _ z => z.elim))
      refine wpAny_bind (wpAny_standAt (wpAny_holding (wpAny_mono h6 (fun _ s7 h7 => ?_) fun _ _ z => z.elim)))
      exact wpAny_pure ⟨rfl, h7⟩
theorem dc2_start_in (h1 : codeAny (model prog w) A (.compLoop (dc2E kx vx t0 i0 t1 i1 ifs0 ifs1 scope pos) 1 it (.ref D) env) R s) (h2 : wpAny (model prog w) A (pyIter it) (fun it' s' => codeAny (model prog w) A (.compLoop (dc2E kx vx t0 i0 t1 i1 ifs0 ifs1 scope pos) 1 it' (.ref D) env) R s') (fun _ _ => False) s) :
    codeAny (model prog w) A (.compStart (dc2E kx vx t0 i0 t1 i1 ifs0 ifs1 scope pos) 1 it (.ref D) env) R s := by
  refine codeAny_of_tree ?_
  refine wpAny_notedAt ?_
  show wpAny _ _ (compStart (dc2E kx vx t0 i0 t1 i1 ifs0 ifs1 scope pos) 1 it (.ref D) env) _ _ s
  unfold compStart
  rw [if_neg (show ¬ (((clausesOf (dc2E kx vx t0 i0 t1 i1 ifs0 ifs1 scope pos))[1]?.elim false fun x => x.is_async != 0) = true) from Bool.false_ne_true)]
  refine wpAny_bind (wpAny_askSetting ?_)
  by_cases q : ((⟨(model prog w).prog, (model prog w).w.params⟩ : Setting).params.followText "comprehension-iter-twice") = true
  · rw [if_pos q]
    exact wpAny_pure ⟨rfl, h1⟩
  · rw [if_neg q]
    refine wpAny_bind (wpAny_rule ?_)
    show wpAny _ _ (standAt i1.pos >>= fun _ => pyIter it >>= fun x => again (.compLoop (dc2E kx vx t0 i0 t1 i1 ifs0 ifs1 scope pos) 1 x (.ref D) env)) _ _ s
    refine wpAny_bind (wpAny_standAt (wpAny_bind (wpAny_mono h2 (fun x s1 h3 => wpAny_pure ⟨rfl, h3⟩) fun _ _ z => z.elim)))
theorem dc2_loop_out (hf : ∀ x, foldedSetIterable i1 env x = pure x) (I : Nat → Shared → Prop) (step : ∀ n s, I n s → wpAny (model prog w) A (pyNext it) (fun r s1 => match r with
    | none => R (.ok .next) s1
    | some v => wpAny (model prog w) A (letOwnedTupleGo t0 it v) (fun _ s1' => wpAny (model prog w) A (assign t0 env v) (fun _ s2 => wpAny (model prog w) A (okIfs ifs0 env) (fun ok s3 =>
        if ok = true then wpAny (model prog w) A (eval i1 env) (fun x s4 => wpAny (model prog w) A (pyIter x) (fun it1 s5 => codeAny (model prog w) A (.compStart (dc2E kx vx t0 i0 t1 i1 ifs0 ifs1 scope pos) 1 it1 (.ref D) env) (fun r s' => match r with
          | .ok _ => ∃ m, m < n ∧ I m s'
          | .error _ => False) s5) (fun _ _ => False) s4) (fun _ _ => False) s3
        else ∃ m, m < n ∧ I m s3) (fun _ _ => False) s2) (fun _ _ => False) s1') (fun _ _ => False) s1) (fun _ _ => False) s) (n : Nat) (h : I n s) :
    codeAny (model prog w) A (.compLoop (dc2E kx vx t0 i0 t1 i1 ifs0 ifs1 scope pos) 0 it (.ref D) env) R s := by
  refine codeAny_loop rfl I (fun n s h => ?_) n h
  refine wpAny_noted ?_
  rw [dc2_out]
  refine wpAny_bind (wpAny_standAt (wpAny_bind ?_))
  refine wpAny_mono (step n s h) (fun r s1 h1 => ?_) fun _ _ z => z.elim
  cases r with
  | none => exact wpAny_pure h1
  | some v =>
    refine wpAny_bind (wpAny_mono h1 (fun _ s2 h2 => ?_) fun _ _ z => z.elim)
    refine wpAny_bind (wpAny_mono h2 (fun _ s3 h3 => ?_) fun _ _ z => z.elim)
    refine wpAny_bind (wpAny_mono h3 (fun ok s4 h4 => ?_) fun _ _ z => z.elim)
    cases ok with
    | false =>
      rw [if_neg (by decide)] at h4 ⊢
      exact wpAny_pure ⟨rfl, h4⟩
    | true =>
      rw [if_pos rfl] at h4 ⊢
      refine wpAny_bind (wpAny_mono h4 (fun x s5 h5 => ?_) fun _ _ z => z.elim)
      refine wpAny_bind (wpAny_standAt (wpAny_bind (wpAny_of_eq (hf x) ?_)))
      refine wpAny_bind (wpAny_holding (wpAny_mono h5 (fun it1 s6 h6 => ?_) fun _ _ z => z.elim))
      refine wpAny_bind (wpAny_runOwn (h := none) ?_)
      rw [Around.mark_none]
      refine codeAny_mono h6 fun r s7 h7 => ?_
      cases r with
      | ok f => exact wpAny_pure ⟨rfl, h7⟩
      | error e => exact h7.elim
end
end Py

namespace Py
open PySem PySem.Spec PyProof.Rows L2
section
variable {X : Cx}
theorem fp_blk {X : Cx} {pins : List (Addr × Obj)} {σ : Py.St} {H : Hp} {s : Shared} (I : L2.Inv X pins σ H s) (hp : X.pn ++ pins = []) {b : Addr} (hb : b ∈ X.ex) (hn : H b = none) : FpOk X pins H b := by
  obtain ⟨h1, h2⟩ := I.ok.exf b hb
  refine ⟨hn, h1, I.ok.exfs b hb, Or.inl hb, h2, fun p hpp => ?_⟩
  rw [hp] at hpp; cases hpp
/-- the block of a dict comprehension is entered and left -/
theorem comp_enter {pins : List (Addr × Obj)} {s : Shared} {σ : Py.St} {H : Hp} {e tg iter : Expr} {ifs : List Expr} {rest : List Comprehension} {scope : Scope} {own : List (Str × Nat)} {pos' : Pos} {wi : TI} {use : Option (Value → Sem Unit)} {Qf : Value → Shared → Prop} {R : It → Hp → Prop} {Qd : Addr → Hp → Prop} (o0 : Addr → HO)
    (hN : X.N.Nodup) (I : L2.Inv X pins σ H s) (hi : PI X tg iter wi) (ok : BlkOk X.N X.env.scope scope own) (hcl : clausesOf e = ⟨tg, iter, ifs, 0⟩ :: rest) (hs : ∀ x, foldedSetIterable iter X.env x = pure x) (h : wi σ H R)
    (h0 : ∀ (H : Hp) (h : Heap), sysModules < h.objs.size → ObjOk X.prog X.w H (h.push { cls := Value.type "dict", data := Data.dict #[] }) h.objs.size (o0 h.objs.size))
    (hk : ∀ J H1, R J H1 → ∀ D, H1 D = none → ∀ it fp tn s3 C cl s4, Turn X.prog X.w X.K tg J fp it tn → L2.Inv (X.blk s3 (upd H1 D (o0 D)) scope (compEnvC scope cl C X.env) fp) [] (wipe σ (own.map (·.2))) (upd H1 D (o0 D)) s4 → tn 0 s4.heap → (∀ b ∈ fp, upd H1 D (o0 D) b = none) →
      codeAny (model X.prog X.w) X.A (.compStart e 0 (.ref it) (.ref D) (compEnvC scope cl C X.env)) (fun r s' => ∃ H', r = .ok .next ∧ L2.Inv (X.blk s3 (upd H1 D (o0 D)) scope (compEnvC scope cl C X.env) fp) [] (wipe σ (own.map (·.2))) H' s' ∧ Qd D H') s4)
    (hend : ∀ D C s' m H', L2.Inv X pins σ H' s' → Qd D H' → s'.heap.Ns C m → FpOk X pins H' C → compPost (model X.prog X.w) X.A X.xe use Qf (.ref D) C (.ok .next) s') :
    wpAny (model X.prog X.w) X.A (comprehension e scope X.env pos' newDict false (eval iter X.env) use) Qf X.xe s := by
  refine wpAny_comprehension_free (cl := cloFrom X.env.cells scope.names []) hcl hs (closure_ok fun y hy hf => ?_) ok.kind (fun x hx hl => by rw [ok.uniq x hx, hl]) ?_
  · rcases ok.free y hy hf with z | z
    · exact I.ok.has y.1 (Or.inl z)
    · exact I.ok.has y.1 (Or.inr z)
  refine thn (hi.run pins s σ H R I h) fun v s1 hv => thn hv fun itv s2 ⟨it, fp, tn, J, H1, e1, I2, T, t0, hfp, r⟩ => ?_
  subst e1
  show wpAny _ _ (newObj (.type "dict") (.dict #[])) _ _ _
  refine wpAny_newObj_type (newEnv_comp ?_)
  have hD : H1 s2.heap.objs.size = none := I2.hok.fresh (Nat.le_refl _)
  have I3 := I2.laid (h' := s2.heap.push { cls := Value.type "dict", data := Data.dict #[] }) (a := s2.heap.objs.size) (o := o0 s2.heap.objs.size) (t' := s2.toks) (fun _ _ q => Heap.get?_push_of_some _ q) (Nat.le_refl _) (h0 _ _ I2.big)
  have hlt : ∀ b ∈ fp, b < s2.heap.objs.size := fun b hb => by
    obtain ⟨o, ho, _⟩ := T.obj 0 _ t0 b hb
    exact Heap.lt_size ho
  have hnone : ∀ b ∈ fp, upd H1 s2.heap.objs.size (o0 s2.heap.objs.size) b = none := fun b hb => by
    rw [upd_ne (Nat.ne_of_lt (hlt b hb))]
    exact (hfp b hb).1
  have hfp3 : ∀ b ∈ fp, FpOk X pins (upd H1 s2.heap.objs.size (o0 s2.heap.objs.size)) b := fun b hb => ⟨hnone b hb, (hfp b hb).2⟩
  have Ib := block_start (fp := fp) I3 ok hN fun b hb => ⟨hfp3 b hb, by
    show b < (s2.heap.push _).objs.size
    rw [Heap.size_push]
    exact Nat.lt_succ_of_lt (hlt b hb)⟩
  refine codeAny_mono (hk J H1 r s2.heap.objs.size hD it fp tn _ _ _ _ T Ib (T.keep 0 _ _ t0 fun b hb o ho => pushCells_keeps _ _ _ _ (Heap.get?_push_of_some _ (show (s2.heap.push { cls := Value.type "dict", data := Data.dict #[] }).get? b = some o from Heap.get?_push_of_some _ ho))) hnone) fun r' s' ⟨H', e2, Ie, qd⟩ => ?_
  subst e2
  obtain ⟨m, hm, _⟩ := Ie.loc
  have Ix : L2.Inv X pins σ H' s' := I3.call' (ch := fp) Ie.os Ie.base Ie.hok Ie.bare fun b hb => ⟨(hfp b hb).2.2.2.1, (hfp b hb).2.1, (hfp b hb).2.2.2.2.1, (hfp b hb).2.2.2.2.2⟩
  exact hend _ _ s' m H' Ix qd hm (I3.fpOk (Nat.le_refl _) Ie.free)
end
end Py

namespace Py
open PySem PySem.Spec PyProof.Rows L2
abbrev TSt := Addr → V → V → Hp → (Hp → Prop) → Prop
/-- storing into a dict -/
def StOk (X : Cx) (St : TSt) : Prop := ∀ (B : Cx), B.prog = X.prog → B.w = X.w → B.A = X.A → B.K = X.K → ∀ (pins : List (Addr × Obj)) (σ : Py.St) (H : Hp) (s : Shared) (D : Addr) (y z : V) (u r : Value) (Q : Hp → Prop) (E : Value → Shared → Prop), L2.Inv B pins σ H s → RelV y u → RelV z r → St D y z H Q →
  wpAny (model X.prog X.w) X.A (dictSet D u r) (fun _ s' => ∃ H', L2.Inv B pins σ H' s' ∧ Q H') E s
def stK : TSt := fun D y z H Q => ∃ kvs k, y = kV k ∧ H D = some (.dK kvs) ∧ kvs.length < sizeLine ∧ Q (upd H D (.dK (putK kvs k z)))
theorem stK_ok {X : Cx} : StOk X stK := by
  intro B e1 e2 e3 _ pins σ H s D y z u r Q E I ry rz ⟨kvs, k, e4, hd, hz, q⟩
  subst e4
  rw [← e1, ← e2, ← e3]
  exact d_dictSet I hd hz ry rz fun s' I' => ⟨_, I', q⟩
def tDc2 (wi : TI) (g : TG) (tt : TT) (wi1 : TI) (g1 : TG) (tt1 : TT) (tk tv : TE) (vs vs1 : List Nat) (o0 : Addr → HO) (St : TSt) : TE := fun σ H Q => wi σ H fun J H1 => ∀ D, H1 D = none → ∃ W : Nat → Nat → Hp → Prop, (∃ m, W 0 m (upd H1 D (o0 D))) ∧ ∀ i m H, W i m H →
  (J.stop i H ∧ Q (.ref D) H) ∨ (J.go i H ∧ ∃ Nx : Hp → Prop, (∀ H', Nx H' → ∃ m', m' < m ∧ W (i + 1) m' H') ∧ ∀ x H', J.yld i H x H' → g x (wipe σ vs) H' fun σ2 H2 => wipe σ2 vs = wipe σ vs ∧ tt σ2 H2 fun b H3 =>
    if b = true then wi1 σ2 H3 fun J1 H4 => ∃ W1 : Nat → Nat → Hp → Prop, (∃ m, W1 0 m H4) ∧ ∀ j k H, W1 j k H →
      (J1.stop j H ∧ Nx H) ∨ (J1.go j H ∧ ∃ Nx1 : Hp → Prop, (∀ H', Nx1 H' → ∃ k', k' < k ∧ W1 (j + 1) k' H') ∧ ∀ x H', J1.yld j H x H' → g1 x (wipe σ2 vs1) H' fun σ3 H5 => wipe σ3 vs1 = wipe σ2 vs1 ∧ tt1 σ3 H5 fun b H6 =>
        if b = true then tk σ3 H6 fun y H7 => tv σ3 H7 fun z H8 => St D y z H8 Nx1 else Nx1 H6)
    else Nx H3)
section
variable {X : Cx}
theorem okI {X : Cx} {ifs : List Expr} {t : TT} (h : PTs X ifs t) {pins : List (Addr × Obj)} {s : Shared} {σ : Py.St} {H : Hp} {Q : Bool → Hp → Prop} (I : L2.Inv X pins σ H s) (q : t σ H Q) : wpAny (model X.prog X.w) X.A (okIfs ifs X.env) (TP X pins σ Q) X.xe s := h.run pins s σ H Q I q
theorem dc2_core {kx vx tg iter tg1 iter1 : Expr} {ifs ifs1 : List Expr} {scope : Scope} {own : List (Str × Nat)} {vs1 : List Nat} {pos pos' : Pos} {wi wi1 : TI} {g g1 : TG} {tt tt1 : TT} {tk tv : TE} {o0 : Addr → HO} {St : TSt} {use : Option (Value → Sem Unit)} {Qf : Value → Shared → Prop} {pins : List (Addr × Obj)} {s : Shared} {σ : Py.St} {H : Hp} {Q : VK}
    (hc : X.calm = true) (hN : X.N.Nodup) (I : L2.Inv X pins σ H s) (hi : PI X tg iter wi) (ok : BlkOk X.N X.env.scope scope own) (hv : ∀ i ∈ vs1, i ∈ own.map (·.2))
    (hg : ∀ (s : Shared) (H : Hp) (C : Addr) (cl : List (Str × Addr)) (fp : List Addr), PG (X.blk s H scope (compEnvC scope cl C X.env) fp) tg g) (ht : ∀ (s : Shared) (H : Hp) (C : Addr) (cl : List (Str × Addr)) (fp : List Addr), PTs (X.blk s H scope (compEnvC scope cl C X.env) fp) ifs tt)
    (hi1 : ∀ (s : Shared) (H : Hp) (C : Addr) (cl : List (Str × Addr)) (fp : List Addr), PI (X.blk s H scope (compEnvC scope cl C X.env) fp) tg1 iter1 wi1)
    (hg1 : ∀ (s : Shared) (H : Hp) (C : Addr) (cl : List (Str × Addr)) (fp : List Addr), PG (X.blk s H scope (compEnvC scope cl C X.env) fp) tg1 g1) (ht1 : ∀ (s : Shared) (H : Hp) (C : Addr) (cl : List (Str × Addr)) (fp : List Addr), PTs (X.blk s H scope (compEnvC scope cl C X.env) fp) ifs1 tt1)
    (hk : ∀ (s : Shared) (H : Hp) (C : Addr) (cl : List (Str × Addr)) (fp : List Addr), PE (X.blk s H scope (compEnvC scope cl C X.env) fp) kx tk) (hvx : ∀ (s : Shared) (H : Hp) (C : Addr) (cl : List (Str × Addr)) (fp : List Addr), PE (X.blk s H scope (compEnvC scope cl C X.env) fp) vx tv)
    (hs : ∀ x, foldedSetIterable iter X.env x = pure x) (hs1 : ∀ (env : PySem.Env) x, foldedSetIterable iter1 env x = pure x)
    (h0 : ∀ (H : Hp) (h : Heap), sysModules < h.objs.size → ObjOk X.prog X.w H (h.push { cls := Value.type "dict", data := Data.dict #[] }) h.objs.size (o0 h.objs.size)) (hSt : StOk X St)
    (h : tDc2 wi g tt wi1 g1 tt1 tk tv (own.map (·.2)) vs1 o0 St σ H Q)
    (hend : ∀ D C s' m H', L2.Inv X pins σ H' s' → Q (.ref D) H' → s'.heap.Ns C m → FpOk X pins H' C → compPost (model X.prog X.w) X.A X.xe use Qf (.ref D) C (.ok .next) s') :
    wpAny (model X.prog X.w) X.A (comprehension (dc2E kx vx tg iter tg1 iter1 ifs ifs1 scope pos) scope X.env pos' newDict false (eval iter X.env) use) Qf X.xe s := by
  refine comp_enter (ifs := ifs) (rest := [⟨tg1, iter1, ifs1, 0⟩]) (Qd := fun D H => Q (.ref D) H) o0 hN I hi ok rfl hs h h0 ?_ hend
  intro J H1 hJ D hD it fp tn s3 C0 cl s4 T I0 t0 hn0
  obtain ⟨W, ⟨m0, w0⟩, hW⟩ := hJ D hD
  let B := X.blk s3 (upd H1 D (o0 D)) scope (compEnvC scope cl C0 X.env) fp
  have fpB : ∀ {σ : Py.St} {H : Hp} {s : Shared}, L2.Inv B [] σ H s → (∀ b ∈ fp, H b = none) → ∀ b ∈ fp, FpOk B [] H b := fun I hn b hb => fp_blk I rfl hb (hn b hb)
  have loop : codeAny (model X.prog X.w) X.A (.compLoop (dc2E kx vx tg iter tg1 iter1 ifs ifs1 scope pos) 0 (.ref it) (.ref D) (compEnvC scope cl C0 X.env)) (fun r s' => ∃ H', r = .ok .next ∧ L2.Inv B [] (wipe σ (own.map (·.2))) H' s' ∧ Q (.ref D) H') s4 := by
    refine dc2_loop_out (hs1 _) (fun n s' => ∃ i H', W i n H' ∧ L2.Inv B [] (wipe σ (own.map (·.2))) H' s' ∧ tn i s'.heap ∧ ∀ b ∈ fp, H' b = none) ?_ m0 ⟨0, _, w0, I0, t0, hn0⟩
    rintro n s ⟨i, H, w, I, t, hn⟩
    rcases hW i n H w with ⟨hst, hq⟩ | ⟨hgo, Nx, hnx, hy⟩
    · exact thn (T.done B rfl rfl rfl hc i [] s _ H _ I (fpB I hn) t hst) fun r s1 ⟨e, I1⟩ => by
        subst e
        exact ⟨H, rfl, I1, hq⟩
    refine thn (T.item B rfl rfl rfl hc i [] s _ H _ I (fpB I hn) t hgo) fun r s1 ⟨u, e, hu⟩ => ?_
    subst e
    refine thn hu fun _ s2 ⟨x, H2, I2, rv, hyl, t2, hn2⟩ => ?_
    have Ip := I2.pinned (fpB I2 hn2) (T.obj (i + 1) s2.heap t2)
    refine thn ((hg _ _ _ _ _).run _ s2 _ H2 x u _ Ip rv (hy x H2 hyl)) fun _ s5 ⟨σ2, H3, I3, ew, q3⟩ => ?_
    refine thn (okI (ht _ _ _ _ _) I3 q3) fun bo s6 ⟨H4, I4, q4⟩ => ?_
    have back : ∀ {σ' : Py.St} {H' : Hp} {s' : Shared}, L2.Inv B ([] ++ pinsAt fp s2.heap) σ' H' s' → (∀ (i : Nat) (v : V), (wipe σ2 (own.map (·.2)))[i]? = some (some v) → σ'[i]? = some (some v)) → σ'.length = σ2.length → Nx H' → ∃ m, m < n ∧ ∃ i H', W i m H' ∧ L2.Inv B [] (wipe σ (own.map (·.2))) H' s' ∧ tn i s'.heap ∧ ∀ b ∈ fp, H' b = none := by
      intro σ' H' s' I' hw hl hnx'
      obtain ⟨m', hm, w'⟩ := hnx H' hnx'
      have hpin : ∀ b ∈ fp, ∃ o, s2.heap.get? b = some o ∧ s'.heap.get? b = some o ∧ H' b = none := fun b hb => by
        obtain ⟨o, ho, _⟩ := T.obj (i + 1) s2.heap t2 b hb
        have := I'.pin (b, o) (List.mem_append_right _ (List.mem_append_right _ (mem_pinsAt hb ho)))
        exact ⟨o, ho, this.1, this.2.1⟩
      refine ⟨m', hm, i + 1, H', w', ?_, T.keep (i + 1) s2.heap s'.heap t2 fun b hb o ho => ?_, fun b hb => (hpin b hb).choose_spec.2.2⟩
      · rw [← ew]
        exact (Inv.unpinned I').weak (by rw [wipe_length, hl]) hw
      · obtain ⟨o', h1, h2, _⟩ := hpin b hb
        rw [ho] at h1
        cases h1
        exact h2
    cases bo with
    | false =>
      have q4 : Nx H4 := q4
      rw [if_neg (by decide)]
      exact back I4 (fun i v hv => (wipe_some hv).1) rfl q4
    | true =>
      rw [if_pos rfl]
      have q4 : wi1 σ2 H4 _ := q4
      refine thn ((hi1 _ _ _ _ _).run _ s6 σ2 H4 _ I4 q4) fun v1 s7 hv1 => thn hv1 fun itv1 s8 ⟨it1, fp1, tn1, J1, H5, e1, I5, T1, t1, hfp1, hJ1⟩ => ?_
      subst e1
      obtain ⟨W1, ⟨k0, w10⟩, hW1⟩ := hJ1
      have lin : codeAny (model X.prog X.w) X.A (.compLoop (dc2E kx vx tg iter tg1 iter1 ifs ifs1 scope pos) 1 (.ref it1) (.ref D) (compEnvC scope cl C0 X.env)) (fun r s' => match r with
          | .ok _ => ∃ m, m < n ∧ ∃ i H', W i m H' ∧ L2.Inv B [] (wipe σ (own.map (·.2))) H' s' ∧ tn i s'.heap ∧ ∀ b ∈ fp, H' b = none
          | .error _ => False) s8 := by
        refine dc2_loop_in (fun k s' => ∃ j H', W1 j k H' ∧ L2.Inv B ([] ++ pinsAt fp s2.heap) (wipe σ2 vs1) H' s' ∧ tn1 j s'.heap ∧ ∀ b ∈ fp1, FpOk B ([] ++ pinsAt fp s2.heap) H' b) ?_ k0 ⟨0, _, w10, I5.weak (by rw [wipe_length]) (fun i v hv => (wipe_some hv).1), t1, hfp1⟩
        rintro k s ⟨j, H, w1, I, t, hf⟩
        rcases hW1 j k H w1 with ⟨hst, hq⟩ | ⟨hgo, Nx1, hnx1, hy1⟩
        · exact thn (T1.done B rfl rfl rfl hc j _ s _ H _ I hf t hst) fun r s1 ⟨e, I1⟩ => by
            subst e
            refine back I1 (fun i v hv2 => ?_) (by rw [wipe_length]) hq
            obtain ⟨z1, z2⟩ := wipe_some hv2
            rw [wipe_out fun z => z2 (hv i z)]
            exact z1
        refine thn (T1.item B rfl rfl rfl hc j _ s _ H _ I hf t hgo) fun r s1 ⟨u, e, hu⟩ => ?_
        subst e
        refine thn hu fun _ s2' ⟨x, H2', I2', rv, hyl, t2', hn2'⟩ => ?_
        have hf2 : ∀ b ∈ fp1, FpOk B ([] ++ pinsAt fp s2.heap) H2' b := fun b hb => ⟨hn2' b hb, (hf b hb).2⟩
        have Ip := I2'.pinned hf2 (T1.obj (j + 1) s2'.heap t2')
        refine thn ((hg1 _ _ _ _ _).run _ s2' _ H2' x u _ Ip rv (hy1 x H2' hyl)) fun _ s5' ⟨σ3, H3', I3', ew3, q3'⟩ => ?_
        refine thn (okI (ht1 _ _ _ _ _) I3' q3') fun bo s6' ⟨H4', I4', q4'⟩ => ?_
        have back1 : ∀ {H' : Hp} {s' : Shared}, L2.Inv B (([] ++ pinsAt fp s2.heap) ++ pinsAt fp1 s2'.heap) σ3 H' s' → Nx1 H' → ∃ m, m < k ∧ ∃ j H', W1 j m H' ∧ L2.Inv B ([] ++ pinsAt fp s2.heap) (wipe σ2 vs1) H' s' ∧ tn1 j s'.heap ∧ ∀ b ∈ fp1, FpOk B ([] ++ pinsAt fp s2.heap) H' b := by
          intro H' s' I' hnx'
          obtain ⟨k', hk2, w'⟩ := hnx1 H' hnx'
          have hpin : ∀ b ∈ fp1, ∃ o, s2'.heap.get? b = some o ∧ s'.heap.get? b = some o ∧ H' b = none := fun b hb => by
            obtain ⟨o, ho, _⟩ := T1.obj (j + 1) s2'.heap t2' b hb
            have := I'.pin (b, o) (List.mem_append_right _ (List.mem_append_right _ (mem_pinsAt hb ho)))
            exact ⟨o, ho, this.1, this.2.1⟩
          refine ⟨k', hk2, j + 1, H', w', ?_, T1.keep (j + 1) s2'.heap s'.heap t2' fun b hb o ho => ?_, fun b hb => ⟨(hpin b hb).choose_spec.2.2, (hf b hb).2⟩⟩
          · rw [← ew3]
            exact (Inv.unpinned I').weak (by rw [wipe_length]) (fun i v hv => (wipe_some hv).1)
          · obtain ⟨o', h1, h2, _⟩ := hpin b hb
            rw [ho] at h1
            cases h1
            exact h2
        cases bo with
        | false =>
          have q4' : Nx1 H4' := q4'
          rw [if_neg (by decide)]
          exact back1 I4' q4'
        | true =>
          rw [if_pos rfl]
          have q4' : tk σ3 H4' _ := q4'
          refine thn ((hk _ _ _ _ _).run _ s6' σ3 H4' _ I4' q4') fun kv s7' ⟨y, H5', I5', ry, q5'⟩ => ?_
          refine thn ((hvx _ _ _ _ _).run _ s7' σ3 H5' _ I5' q5') fun vv s8' ⟨z, H6', I6', rz, q6'⟩ => ?_
          exact thn (hSt B rfl rfl rfl rfl _ σ3 H6' s8' D y z kv vv Nx1 _ I6' ry rz q6') fun _ s9' ⟨H7', I7', q7'⟩ => back1 I7' q7'
      exact dc2_start_in lin (T1.self _ 0 _ _ _ t1 lin)
  exact codeAny_compStart_dict loop (T.self _ 0 _ _ _ t0 loop)
end
end Py

namespace Py
open PySem PySem.Spec PyProof.Rows L2
def tDc1 (wi : TI) (g : TG) (tt : TT) (tk tv : TE) (vs : List Nat) (o0 : Addr → HO) (St : TSt) : TE := fun σ H Q => wi σ H fun J H1 => ∀ D, H1 D = none → ∃ W : Nat → Nat → Hp → Prop, (∃ m, W 0 m (upd H1 D (o0 D))) ∧ ∀ i m H, W i m H →
  (J.stop i H ∧ Q (.ref D) H) ∨ (J.go i H ∧ ∃ Nx : Hp → Prop, (∀ H', Nx H' → ∃ m', m' < m ∧ W (i + 1) m' H') ∧ ∀ x H', J.yld i H x H' → g x (wipe σ vs) H' fun σ2 H2 => wipe σ2 vs = wipe σ vs ∧ tt σ2 H2 fun b H3 =>
    if b = true then tk σ2 H3 fun y H4 => tv σ2 H4 fun z H5 => St D y z H5 Nx else Nx H3)
section
variable {X : Cx}
theorem dc1_core {kx vx tg iter : Expr} {ifs : List Expr} {scope : Scope} {own : List (Str × Nat)} {pos pos' : Pos} {wi : TI} {g : TG} {tt : TT} {tk tv : TE} {o0 : Addr → HO} {St : TSt} {use : Option (Value → Sem Unit)} {Qf : Value → Shared → Prop} {pins : List (Addr × Obj)} {s : Shared} {σ : Py.St} {H : Hp} {Q : VK}
    (hc : X.calm = true) (hN : X.N.Nodup) (I : L2.Inv X pins σ H s) (hi : PI X tg iter wi) (ok : BlkOk X.N X.env.scope scope own)
    (hg : ∀ (s : Shared) (H : Hp) (C : Addr) (cl : List (Str × Addr)) (fp : List Addr), PG (X.blk s H scope (compEnvC scope cl C X.env) fp) tg g) (ht : ∀ (s : Shared) (H : Hp) (C : Addr) (cl : List (Str × Addr)) (fp : List Addr), PTs (X.blk s H scope (compEnvC scope cl C X.env) fp) ifs tt)
    (hk : ∀ (s : Shared) (H : Hp) (C : Addr) (cl : List (Str × Addr)) (fp : List Addr), PE (X.blk s H scope (compEnvC scope cl C X.env) fp) kx tk) (hvx : ∀ (s : Shared) (H : Hp) (C : Addr) (cl : List (Str × Addr)) (fp : List Addr), PE (X.blk s H scope (compEnvC scope cl C X.env) fp) vx tv)
    (hs : ∀ x, foldedSetIterable iter X.env x = pure x)
    (h0 : ∀ (H : Hp) (h : Heap), sysModules < h.objs.size → ObjOk X.prog X.w H (h.push { cls := Value.type "dict", data := Data.dict #[] }) h.objs.size (o0 h.objs.size)) (hSt : StOk X St)
    (h : tDc1 wi g tt tk tv (own.map (·.2)) o0 St σ H Q)
    (hend : ∀ D C s' m H', L2.Inv X pins σ H' s' → Q (.ref D) H' → s'.heap.Ns C m → FpOk X pins H' C → compPost (model X.prog X.w) X.A X.xe use Qf (.ref D) C (.ok .next) s') :
    wpAny (model X.prog X.w) X.A (comprehension (.DictComp kx vx [⟨tg, iter, ifs, 0⟩] scope pos) scope X.env pos' newDict false (eval iter X.env) use) Qf X.xe s := by
  refine comp_enter (ifs := ifs) (rest := []) (Qd := fun D H => Q (.ref D) H) o0 hN I hi ok rfl hs h h0 ?_ hend
  intro J H1 hJ D hD it fp tn s3 C0 cl s4 T I0 t0 hn0
  obtain ⟨W, ⟨m0, w0⟩, hW⟩ := hJ D hD
  let B := X.blk s3 (upd H1 D (o0 D)) scope (compEnvC scope cl C0 X.env) fp
  have fpB : ∀ {σ : Py.St} {H : Hp} {s : Shared}, L2.Inv B [] σ H s → (∀ b ∈ fp, H b = none) → ∀ b ∈ fp, FpOk B [] H b := fun I hn b hb => fp_blk I rfl hb (hn b hb)
  have loop : codeAny (model X.prog X.w) X.A (.compLoop (.DictComp kx vx [⟨tg, iter, ifs, 0⟩] scope pos) 0 (.ref it) (.ref D) (compEnvC scope cl C0 X.env)) (fun r s' => ∃ H', r = .ok .next ∧ L2.Inv B [] (wipe σ (own.map (·.2))) H' s' ∧ Q (.ref D) H') s4 := by
    refine compLoop_anyD (fun n s' => ∃ i H', W i n H' ∧ L2.Inv B [] (wipe σ (own.map (·.2))) H' s' ∧ tn i s'.heap ∧ ∀ b ∈ fp, H' b = none) ?_ m0 ⟨0, _, w0, I0, t0, hn0⟩
    rintro n s ⟨i, H, w, I, t, hn⟩
    rcases hW i n H w with ⟨hst, hq⟩ | ⟨hgo, Nx, hnx, hy⟩
    · exact thn (T.done B rfl rfl rfl hc i [] s _ H _ I (fpB I hn) t hst) fun r s1 ⟨e, I1⟩ => by
        subst e
        exact ⟨H, rfl, I1, hq⟩
    refine thn (T.item B rfl rfl rfl hc i [] s _ H _ I (fpB I hn) t hgo) fun r s1 ⟨u, e, hu⟩ => ?_
    subst e
    refine wpAny_mono hu (fun _ s2 ⟨x, H2, I2, rv, hyl, t2, hn2⟩ => ?_) (fun _ _ z => z)
    have Ip := I2.pinned (fpB I2 hn2) (T.obj (i + 1) s2.heap t2)
    refine thnF ((hg _ _ _ _ _).run _ s2 _ H2 x u _ Ip rv (hy x H2 hyl)) fun _ s5 ⟨σ2, H3, I3, ew, q3⟩ => ?_
    refine thnF ((ht _ _ _ _ _).run _ s5 σ2 H3 _ I3 q3) fun bo s6 ⟨H4, I4, q4⟩ => ?_
    have back : ∀ {H' : Hp} {s' : Shared}, L2.Inv B ([] ++ pinsAt fp s2.heap) σ2 H' s' → Nx H' → ∃ m, m < n ∧ ∃ i H', W i m H' ∧ L2.Inv B [] (wipe σ (own.map (·.2))) H' s' ∧ tn i s'.heap ∧ ∀ b ∈ fp, H' b = none := by
      intro H' s' I' hnx'
      obtain ⟨m', hm, w'⟩ := hnx H' hnx'
      have hpin : ∀ b ∈ fp, ∃ o, s2.heap.get? b = some o ∧ s'.heap.get? b = some o ∧ H' b = none := fun b hb => by
        obtain ⟨o, ho, _⟩ := T.obj (i + 1) s2.heap t2 b hb
        have := I'.pin (b, o) (List.mem_append_right _ (List.mem_append_right _ (mem_pinsAt hb ho)))
        exact ⟨o, ho, this.1, this.2.1⟩
      refine ⟨m', hm, i + 1, H', w', ?_, T.keep (i + 1) s2.heap s'.heap t2 fun b hb o ho => ?_, fun b hb => (hpin b hb).choose_spec.2.2⟩
      · rw [← ew]
        exact (Inv.unpinned I').weak (by rw [wipe_length]) (fun i v hv => (wipe_some hv).1)
      · obtain ⟨o', h1, h2, _⟩ := hpin b hb
        rw [ho] at h1
        cases h1
        exact h2
    cases bo with
    | false =>
      have q4 : Nx H4 := q4
      rw [if_neg (by decide)]
      exact back I4 q4
    | true =>
      rw [if_pos rfl]
      have q4 : tk σ2 H4 _ := q4
      refine thnF ((hk _ _ _ _ _).run _ s6 σ2 H4 _ I4 q4) fun kv s7 ⟨y, H5, I5, ry, q5⟩ => ?_
      refine thnF ((hvx _ _ _ _ _).run _ s7 σ2 H5 _ I5 q5) fun vv s8 ⟨z, H6, I6, rz, q6⟩ => ?_
      exact thn (hSt B rfl rfl rfl rfl _ σ2 H6 s8 D y z kv vv Nx _ I6 ry rz q6) fun _ s9 ⟨H7, I7, q7⟩ => back I7 q7
  exact codeAny_compStart_dict loop (T.self _ 0 _ _ _ t0 loop)
/-- as an expression -/
theorem turnedI {pins : List (Addr × Obj)} {σ : Py.St} {D C : Addr} {s' : Shared} {m : Str → Option Value} {H' : Hp} {Q : VK} (I' : L2.Inv X pins σ H' s') (q : Q (V.ref D) H') (hn : s'.heap.Ns C m) (f : FpOk X pins H' C) : compPost (model X.prog X.w) X.A X.xe none (EP X pins σ Q) (.ref D) C (.ok .next) s' := by
  obtain ⟨f0, f1, f2, f3, f4, f5⟩ := f
  exact ⟨m, hn, fun h3 sb3 => ⟨V.ref D, H', I'.turned (t' := s'.toks) (fun b o hb e => (sb3.2 b hb).trans e) f0 f1 f3 f4 f5, rfl, q⟩⟩
end
end Py

namespace Py
open PySem PySem.Spec PyProof.Rows L2
theorem PI.ex {X : Cx} {tg e : Expr} {ι : Type 1} {p : ι → Prop} {t : ι → TI} (h : ∀ i, p i → PI X tg e (t i)) : PI X tg e (fun σ H R => ∃ i, p i ∧ t i σ H R) := ⟨fun pins s σ H R I ⟨i, hp, q⟩ => (h i hp).run pins s σ H R I q⟩
section
variable {X : Cx}
theorem dk0 (X : Cx) : ∀ (H : Hp) (h : Heap), sysModules < h.objs.size → ObjOk X.prog X.w H (h.push { cls := Value.type "dict", data := Data.dict #[] }) h.objs.size (HO.dK []) := fun H h hb => dk_empty h hb
theorem pe_dc2 {kx vx tg iter tg1 iter1 : Expr} {scope : Scope} {own : List (Str × Nat)} {vs1 : List Nat} {pos : Pos} {ifs ifs1 : List Expr} {wi wi1 : TI} {g g1 : TG} {tt tt1 : TT} {tk tv : TE} {o0 : Addr → HO} {St : TSt}
    (hc : X.calm = true) (hN : X.N.Nodup) (hi : PI X tg iter wi) (ok : BlkOk X.N X.env.scope scope own) (hv : ∀ i ∈ vs1, i ∈ own.map (·.2))
    (hg : ∀ (s : Shared) (H : Hp) (C : Addr) (cl : List (Str × Addr)) (fp : List Addr), PG (X.blk s H scope (compEnvC scope cl C X.env) fp) tg g) (ht : ∀ (s : Shared) (H : Hp) (C : Addr) (cl : List (Str × Addr)) (fp : List Addr), PTs (X.blk s H scope (compEnvC scope cl C X.env) fp) ifs tt)
    (hi1 : ∀ (s : Shared) (H : Hp) (C : Addr) (cl : List (Str × Addr)) (fp : List Addr), PI (X.blk s H scope (compEnvC scope cl C X.env) fp) tg1 iter1 wi1)
    (hg1 : ∀ (s : Shared) (H : Hp) (C : Addr) (cl : List (Str × Addr)) (fp : List Addr), PG (X.blk s H scope (compEnvC scope cl C X.env) fp) tg1 g1) (ht1 : ∀ (s : Shared) (H : Hp) (C : Addr) (cl : List (Str × Addr)) (fp : List Addr), PTs (X.blk s H scope (compEnvC scope cl C X.env) fp) ifs1 tt1)
    (hk : ∀ (s : Shared) (H : Hp) (C : Addr) (cl : List (Str × Addr)) (fp : List Addr), PE (X.blk s H scope (compEnvC scope cl C X.env) fp) kx tk) (hvx : ∀ (s : Shared) (H : Hp) (C : Addr) (cl : List (Str × Addr)) (fp : List Addr), PE (X.blk s H scope (compEnvC scope cl C X.env) fp) vx tv)
    (h0 : ∀ (H : Hp) (h : Heap), sysModules < h.objs.size → ObjOk X.prog X.w H (h.push { cls := Value.type "dict", data := Data.dict #[] }) h.objs.size (o0 h.objs.size)) (hSt : StOk X St)
    (hs : ∀ x, foldedSetIterable iter X.env x = pure x := by intro _; rfl) (hs1 : ∀ (env : PySem.Env) x, foldedSetIterable iter1 env x = pure x := by intro _ _; rfl) :
    PE X (.DictComp kx vx [⟨tg, iter, ifs, 0⟩, ⟨tg1, iter1, ifs1, 0⟩] scope pos) (tDc2 wi g tt wi1 g1 tt1 tk tv (own.map (·.2)) vs1 o0 St) := by
  refine ⟨fun pins s σ H Q I h => ?_⟩
  show wpAny _ _ (comprehension (dc2E kx vx tg iter tg1 iter1 ifs ifs1 scope pos) scope X.env (firstIterPos [⟨tg, iter, ifs, 0⟩, ⟨tg1, iter1, ifs1, 0⟩] pos) newDict false (eval iter X.env)) _ _ s
  exact dc2_core hc hN I hi ok hv hg ht hi1 hg1 ht1 hk hvx hs hs1 h0 hSt h fun D C s' m H' I' q hn f => turnedI I' q hn f
theorem pe_dc1 {kx vx tg iter : Expr} {scope : Scope} {own : List (Str × Nat)} {pos : Pos} {ifs : List Expr} {wi : TI} {g : TG} {tt : TT} {tk tv : TE} {o0 : Addr → HO} {St : TSt}
    (hc : X.calm = true) (hN : X.N.Nodup) (hi : PI X tg iter wi) (ok : BlkOk X.N X.env.scope scope own)
    (hg : ∀ (s : Shared) (H : Hp) (C : Addr) (cl : List (Str × Addr)) (fp : List Addr), PG (X.blk s H scope (compEnvC scope cl C X.env) fp) tg g) (ht : ∀ (s : Shared) (H : Hp) (C : Addr) (cl : List (Str × Addr)) (fp : List Addr), PTs (X.blk s H scope (compEnvC scope cl C X.env) fp) ifs tt)
    (hk : ∀ (s : Shared) (H : Hp) (C : Addr) (cl : List (Str × Addr)) (fp : List Addr), PE (X.blk s H scope (compEnvC scope cl C X.env) fp) kx tk) (hvx : ∀ (s : Shared) (H : Hp) (C : Addr) (cl : List (Str × Addr)) (fp : List Addr), PE (X.blk s H scope (compEnvC scope cl C X.env) fp) vx tv)
    (h0 : ∀ (H : Hp) (h : Heap), sysModules < h.objs.size → ObjOk X.prog X.w H (h.push { cls := Value.type "dict", data := Data.dict #[] }) h.objs.size (o0 h.objs.size)) (hSt : StOk X St)
    (hs : ∀ x, foldedSetIterable iter X.env x = pure x := by intro _; rfl) :
    PE X (.DictComp kx vx [⟨tg, iter, ifs, 0⟩] scope pos) (tDc1 wi g tt tk tv (own.map (·.2)) o0 St) := by
  refine ⟨fun pins s σ H Q I h => ?_⟩
  show wpAny _ _ (comprehension (.DictComp kx vx [⟨tg, iter, ifs, 0⟩] scope pos) scope X.env (firstIterPos [⟨tg, iter, ifs, 0⟩] pos) newDict false (eval iter X.env)) _ _ s
  exact dc1_core hc hN I hi ok hg ht hk hvx hs h0 hSt h fun D C s' m H' I' q hn f => turnedI I' q hn f
end
/-! ### {k: v for .. for ..}, typed -/
def prs {α β : Type} (as : List α) (bs : α → List β) : List (α × β) := as.flatMap fun a => (bs a).map fun b => (a, b)
def dcP {α β κ δ : Type} [DecidableEq κ] (fk : α → β → κ) (fv : α → β → δ) (ps : List (α × β)) : List (κ × δ) := ps.foldl (fun m p => putA m (fk p.1 p.2) (fv p.1 p.2)) []
theorem dcP_snoc {α β κ δ : Type} [DecidableEq κ] {fk : α → β → κ} {fv : α → β → δ} (ps : List (α × β)) (a : α) (b : β) : dcP fk fv (ps ++ [(a, b)]) = putA (dcP fk fv ps) (fk a b) (fv a b) := by
  unfold dcP
  rw [List.foldl_append]; rfl
theorem dcP_le {α β κ δ : Type} [DecidableEq κ] (fk : α → β → κ) (fv : α → β → δ) (ps : List (α × β)) : (dcP fk fv ps).length ≤ ps.length := by
  have h := foldl_put_len (fun p : α × β => fk p.1 p.2) (fun p => fv p.1 p.2) ps []
  unfold dcP
  rw [List.length_nil] at h
  omega
theorem prs_take {α β : Type} {as : List α} {bs : α → List β} {i : Nat} {a : α} (h : as[i]? = some a) : prs (as.take (i + 1)) bs = prs (as.take i) bs ++ (bs a).map fun b => (a, b) := by
  unfold prs
  rw [List.take_add_one, h, List.flatMap_append]
  simp
theorem prs_take_le {α β : Type} (as : List α) (bs : α → List β) (i : Nat) : (prs (as.take i) bs).length ≤ (prs as bs).length := by
  have e : prs as bs = prs (as.take i) bs ++ prs (as.drop i) bs := by unfold prs; rw [← List.flatMap_append, List.take_append_drop]
  rw [e, List.length_append]
  omega
section
variable {C : Cz} {k j : Nat} {env : Env} {L L0 L1 : List Cell} {tg iter tg1 iter1 kx vx : Expr} {pos : Pos} {scope : Scope} {own : List (Str × Nat)} {vs1 : List Nat}
abbrev Dc2B (C : Cz) (env : Env) (L L1 : List Cell) (k : Nat) {α β κ δ : Type} [Rep α] [Rep β] [Rep κ] [Rep δ] (scope : Scope) (own : List (Str × Nat)) (vs1 : List Nat) (tg tg1 iter1 kx vx : Expr) (as : List α) (bs : α → List β) (fk : α → β → κ) (fv : α → β → δ) : Prop :=
  ∀ (i : Nat) (a : α), as[i]? = some a → ∃ env2 js, (∀ x ∈ js, x ∈ own.map (·.2)) ∧ (∀ R s H C0 cl fp, (C.blk R s H scope C0 cl fp).Ok k → G (C.blk R s H scope C0 cl fp) (wipeE env (own.map (·.2))) L tg ⟨a⟩ env2 js ∧ EIO (C.blk R s H scope C0 cl fp) env2 L L1 tg1 iter1 (bs a)) ∧
    ∀ (j : Nat) (b : β), (bs a)[j]? = some b → ∃ env3 js3, (∀ x ∈ js3, x ∈ vs1) ∧ ∀ R s H C0 cl fp, (C.blk R s H scope C0 cl fp).Ok k → G (C.blk R s H scope C0 cl fp) (wipeE env2 vs1) L tg1 ⟨b⟩ env3 js3 ∧ E (C.blk R s H scope C0 cl fp) env3 L kx ⟨fk a b⟩ ∧ E (C.blk R s H scope C0 cl fp) env3 L vx ⟨fv a b⟩
theorem EM_dc2 {α β κ δ : Type} [Rep α] [Rep β] [Rep κ] [DecidableEq κ] [KR κ] [Rep δ] {as : List α} (own : List (Str × Nat)) (vs1 : List Nat) (bs : α → List β) (fk : α → β → κ) (fv : α → β → δ) (ok : C.Ok k) (hi : EIO C env L L0 tg iter as) (hb : Dc2B C env L L1 k scope own vs1 tg tg1 iter1 kx vx as bs fk fv) (hz : (prs as bs).length ≤ sizeLine)
    (hv : ∀ i ∈ vs1, i ∈ own.map (·.2) := by decide) (bok : BlkOk C.X.N C.X.env.scope scope own := by exact blkOk_by (by first | rfl | decide +kernel)) (hs : ∀ x, foldedSetIterable iter C.X.env x = pure x := by intro _; rfl) (hs1 : ∀ (env : PySem.Env) x, foldedSetIterable iter1 env x = pure x := by intro _ _; rfl) (hh : ∀ c ∈ L0, c ∈ L := by intro c hc; cases hc) (hh1 : ∀ c ∈ L1, c ∈ L := by intro c hc; cases hc) :
    EM C env L (.DictComp kx vx [⟨tg, iter, [], 0⟩, ⟨tg1, iter1, [], 0⟩] scope pos) (fun r L' => ∃ l, r = ⟨(At.mk l)⟩ ∧ L' = Cell.dic l (dcP fk fv (prs as bs)) :: L) (fun _ _ _ => False) := by
  let CR : Hp → Cz := fun R => ⟨C.X, R, C.W⟩
  let g : TG := fun v σ H Q => ∃ z : ULift.{1} (Hp × α × List Nat) × Env, (∀ s H C0 cl fp, G (C.blk z.1.down.1 s H scope C0 cl fp) (wipeE env (own.map (·.2))) L tg ⟨z.1.down.2.1⟩ z.2 z.1.down.2.2) ∧ gS (CR z.1.down.1) (wipeE env (own.map (·.2))) L ⟨z.1.down.2.1⟩ z.2 z.1.down.2.2 v σ H Q
  let wi1 : TI := fun σ H Rr => ∃ z : ULift.{1} (Hp × α) × Env, (∀ s H C0 cl fp, EIO (C.blk z.1.down.1 s H scope C0 cl fp) z.2 L L1 tg1 iter1 (bs z.1.down.2)) ∧ iS (CR z.1.down.1) z.2 L L1 (bs z.1.down.2) σ H Rr
  let g1 : TG := fun v σ H Q => ∃ z : ULift.{1} (Hp × β × List Nat) × Env × Env, (∀ s H C0 cl fp, G (C.blk z.1.down.1 s H scope C0 cl fp) (wipeE z.2.1 vs1) L tg1 ⟨z.1.down.2.1⟩ z.2.2 z.1.down.2.2) ∧ gS (CR z.1.down.1) (wipeE z.2.1 vs1) L ⟨z.1.down.2.1⟩ z.2.2 z.1.down.2.2 v σ H Q
  let tk : TE := fun σ H Q => ∃ z : ULift.{1} (Hp × κ) × Env, (∀ s H C0 cl fp, E (C.blk z.1.down.1 s H scope C0 cl fp) z.2 L kx ⟨z.1.down.2⟩) ∧ eE (CR z.1.down.1) z.2 L ⟨z.1.down.2⟩ σ H Q
  let tv : TE := fun σ H Q => ∃ z : ULift.{1} (Hp × δ) × Env, (∀ s H C0 cl fp, E (C.blk z.1.down.1 s H scope C0 cl fp) z.2 L vx ⟨z.1.down.2⟩) ∧ eE (CR z.1.down.1) z.2 L ⟨z.1.down.2⟩ σ H Q
  let tt : TT := fun σ H Q => Q true H
  have htt : ∀ (Y : Cx), PTs Y [] tt := fun Y => pts_nil
  refine ⟨PE.imp (pe_dc2 (X := C.X) (g := g) (tt := tt) (wi1 := wi1) (g1 := g1) (tt1 := tt) (tk := tk) (tv := tv) (o0 := fun _ => .dK []) (St := stK) (vs1 := vs1) ok.calm ok.nd hi.p bok hv (fun s H C0 cl fp => PG.ex fun z h => (h s H C0 cl fp).p) (fun s H C0 cl fp => htt _) (fun s H C0 cl fp => PI.ex fun z h => (h s H C0 cl fp).p) (fun s H C0 cl fp => PG.ex fun z h => (h s H C0 cl fp).p) (fun s H C0 cl fp => htt _) (fun s H C0 cl fp => PE.ex fun z h => (h s H C0 cl fp).p) (fun s H C0 cl fp => PE.ex fun z h => (h s H C0 cl fp).p) (dk0 C.X) stK_ok hs hs1) fun σ H Q ⟨F, s, z, _⟩ => ?_⟩
  refine ⟨F, s, fun J F1 H1 w1 s1 sv hzz D hD => ?_⟩
  obtain ⟨o0, hR, _⟩ := s1.ow.toR (u := .dK []) hD
  refine ⟨fun i m H => m = as.length - i ∧ i ≤ as.length ∧ ∃ F' kvs, Ex F1 F' ∧ Own C.X.K (upd C.R D (.dK kvs)) F' H L ∧ Pr (DOk C.X.K F') kvs (dcP fk fv (prs (as.take i) bs)), ⟨as.length, by simp, Nat.zero_le _, F1, [], Ex.rf F1, o0, .nil⟩, ?_⟩
  rintro i m H2 ⟨rfl, hi', F', kvs, x, o, pr⟩
  by_cases hlt : i < as.length
  · obtain ⟨go, yl⟩ := sv.go i F' H2 hlt x ⟨o.fH, _, L, o, hh⟩
    refine .inr ⟨go, fun H => i + 1 ≤ as.length ∧ ∃ F' kvs, Ex F1 F' ∧ Own C.X.K (upd C.R D (.dK kvs)) F' H L ∧ Pr (DOk C.X.K F') kvs (dcP fk fv (prs (as.take (i + 1)) bs)), fun H' z => ⟨as.length - (i + 1), by omega, rfl, z⟩, fun v H3 y => ?_⟩
    obtain ⟨F3, gr, a, ha, rv⟩ := yl v H3 y
    obtain ⟨env2, js, hjs, hz2, hz3⟩ := hb i a ha
    have hB := fun s H C0 cl fp => hz2 (upd C.R D (.dK kvs)) s H C0 cl fp (ok.blk _ _ _ _ _ _ _)
    have slF3 : Slots C.X.K F3 σ env := s1.sl.mono (x.tr gr.f)
    refine ⟨(⟨(upd C.R D (.dK kvs), a, js)⟩, env2), fun s H C0 cl fp => (hB s H C0 cl fp).1, F3, ⟨slF3.wipeE _, o.gro gr⟩, rv, fun σ4 F4 H4 w4 s4 chg => ⟨?_, ?_⟩⟩
    · rw [chg _ hjs]
      exact wipe_wipe σ _ _ fun _ h => h
    · show (if true = true then _ else _)
      rw [if_pos rfl]
      refine ⟨(⟨(upd C.R D (.dK kvs), a)⟩, env2), fun s H C0 cl fp => (hB s H C0 cl fp).2, F4, s4, fun J1 F5 H5 w5 s5 sv1 hz1 => ?_⟩
      have xF5 : Ex F1 F5 := ((x.tr gr.f).tr w4.f).tr w5.f
      refine ⟨fun j k H => k = (bs a).length - j ∧ j ≤ (bs a).length ∧ ∃ F' kvs, Ex F5 F' ∧ Own C.X.K (upd C.R D (.dK kvs)) F' H L ∧ Pr (DOk C.X.K F') kvs (dcP fk fv (prs (as.take i) bs ++ ((bs a).take j).map fun b => (a, b))),
        ⟨(bs a).length, by simp, Nat.zero_le _, F5, kvs, Ex.rf F5, s5.ow, by
          rw [List.take_zero, List.map_nil, List.append_nil]
          exact pr.imp fun _ _ => DOk.mono (((gr.f).tr w4.f).tr w5.f)⟩, ?_⟩
      rintro j kk H6 ⟨rfl, hj, F6, kvs6, x6, o6, pr6⟩
      by_cases hlj : j < (bs a).length
      · obtain ⟨go1, yl1⟩ := sv1.go j F6 H6 hlj x6 ⟨o6.fH, _, L, o6, hh1⟩
        refine .inr ⟨go1, fun H => j + 1 ≤ (bs a).length ∧ ∃ F' kvs, Ex F5 F' ∧ Own C.X.K (upd C.R D (.dK kvs)) F' H L ∧ Pr (DOk C.X.K F') kvs (dcP fk fv (prs (as.take i) bs ++ ((bs a).take (j + 1)).map fun b => (a, b))), fun H' z => ⟨(bs a).length - (j + 1), by omega, rfl, z⟩, fun v7 H7 y7 => ?_⟩
        obtain ⟨F7, gr7, b, hbj, rv7⟩ := yl1 v7 H7 y7
        obtain ⟨env3, js3, hjs3, hz4⟩ := hz3 j b hbj
        have hB3 := fun s H C0 cl fp => hz4 (upd C.R D (.dK kvs6)) s H C0 cl fp (ok.blk _ _ _ _ _ _ _)
        have sl7 : Slots C.X.K F7 σ4 env2 := s5.sl.mono (x6.tr gr7.f)
        refine ⟨(⟨(upd C.R D (.dK kvs6), b, js3)⟩, env2, env3), fun s H C0 cl fp => (hB3 s H C0 cl fp).1, F7, ⟨sl7.wipeE _, o6.gro gr7⟩, rv7, fun σ8 F8 H8 w8 s8 chg8 => ⟨?_, ?_⟩⟩
        · rw [chg8 _ hjs3]
          exact wipe_wipe σ4 _ _ fun _ h => h
        · show (if true = true then _ else _)
          rw [if_pos rfl]
          refine ⟨(⟨(upd C.R D (.dK kvs6), fk a b)⟩, env3), fun s H C0 cl fp => (hB3 s H C0 cl fp).2.1, F8, s8, fun yv F9 H9 w9 s9 ry => ?_⟩
          refine ⟨(⟨(upd C.R D (.dK kvs6), fv a b)⟩, env3), fun s H C0 cl fp => (hB3 s H C0 cl fp).2.2, F9, s9, fun zv F10 H10 w10 s10 rz => ?_⟩
          have ec : (prs (as.take i) bs).length + j + 1 ≤ (prs as bs).length := by
            have h1 := prs_take_le as bs (i + 1)
            rw [prs_take ha, List.length_append, List.length_map] at h1
            omega
          have hlen : kvs6.length < sizeLine := by
            rw [pr6.length]
            have h1 := dcP_le fk fv (prs (as.take i) bs ++ ((bs a).take j).map fun b => (a, b))
            rw [List.length_append, List.length_map, List.length_take] at h1
            omega
          have exA : Ex F6 F10 := ((gr7.f.tr w8.f).tr w9.f).tr w10.f
          refine ⟨kvs6, KR.k (fk a b), KR.rp _ _ _ _ ry, s10.ow.rH D _ upd_same, hlen, hlj, F10, _, x6.tr exA, s10.ow.updR hR, ?_⟩
          have e5 : ((bs a).take (j + 1)).map (fun b => (a, b)) = ((bs a).take j).map (fun b => (a, b)) ++ [(a, b)] := by rw [List.take_add_one, hbj, List.map_append]; rfl
          rw [e5, ← List.append_assoc, dcP_snoc]
          exact pr_put (pr6.imp fun _ _ => DOk.mono exA) rz
      · have e : j = (bs a).length := by omega
        subst e
        rw [List.take_length] at pr6
        refine .inl ⟨sv1.stop _ F6 H6 (Nat.le_refl _) x6 ⟨o6.fH, _, L, o6, hh1⟩, hlt, F6, kvs6, xF5.tr x6, o6, ?_⟩
        rw [prs_take ha]
        exact pr6
  · have e : i = as.length := by omega
    subst e
    rw [List.take_length] at pr
    refine .inl ⟨sv.stop _ F' H2 (Nat.le_refl _) x ⟨o.fH, _, L, o, hh⟩, ?_⟩
    exact z _ _ _ F' H2 ⟨D, rfl, rfl⟩ (w1.f.tr x) ⟨s1.sl.mono x, o.ofRc hR rfl ⟨⟨kvs, o.rH D _ upd_same, pr⟩, Nat.le_trans (dcP_le _ _ _) hz⟩⟩ rfl
end
end Py

namespace Py
open PySem PySem.Spec PyProof.Rows L2
/-! ### {k: v for ..}, nested keys -/
def stD (X : Cx) : TSt := fun D y z H Q => ∃ xs k a, y = .ref a ∧ H D = some (DkO X.prog X.w D xs) ∧ (∀ B : Cx, B.prog = X.prog → B.w = X.w → B.K = X.K → KD B H D xs ∧ KIs B H a k) ∧ xs.length ≤ sizeLine ∧ ∀ r, RelV z r → Q (upd H D (DkO X.prog X.w D (storedH xs k a r)))
theorem stD_ok {X : Cx} (hu : X.A.units + 9 < cLine) : StOk X (stD X) := by
  intro B e1 e2 e3 e4 pins σ H s D y z u r Q E I ry rz ⟨xs, k, a, e5, hd, hB, hz, q⟩
  subst e5
  obtain rfl : u = Value.ref a := ry
  obtain ⟨kd, ki⟩ := hB B e1 e2 e4
  have hk := ki I
  obtain ⟨dd, hds⟩ := kd I
  rw [e1, e2] at hk dd
  refine wpAny_dictSet_heap (hsz := hz) (show X.A.units + 8 < cLine by omega) hk dd fun h' dd' hs' => ?_
  obtain ⟨ob, es, ep, g1, g2, g3, g4, g5, g6⟩ := dd'
  exact ⟨_, d_write I (by rw [hd]; exact True.intro) hs' ⟨ob, g1⟩ (by rw [← e1, ← e2]; exact dkO_ok ⟨ob, es, ep, g1, g2, g3, by rw [e1, e2]; exact g4, hds, g6⟩), q r rz⟩
theorem dkn0 (X : Cx) : ∀ (H : Hp) (h : Heap), sysModules < h.objs.size → ObjOk X.prog X.w H (h.push { cls := Value.type "dict", data := Data.dict #[] }) h.objs.size (DkO X.prog X.w h.objs.size []) := fun H h hb =>
  dkO_ok ⟨_, #[], 0, Heap.get?_push_size _ rfl, ⟨rfl, rfl, rfl⟩, rfl, rfl, beq_eq_false_iff_ne.mpr (Ne.symm (Nat.ne_of_lt hb)), List.nodup_nil⟩
section
variable {C : Cz} {k j : Nat} {env env' env2 env3 : Env} {L LR L0 : List Cell} {e a b c tg iter kx vx : Expr} {es ifs : List Expr} {pos : Pos} {scope : Scope} {own : List (Str × Nat)}
theorem EM_dcK {α κ β : Type} [Rep α] [Rep κ] [DecidableEq κ] [NI κ] [NR κ] [Rep β] {as : List α} (own : List (Str × Nat)) (fk : α → κ) (fv : α → β) (q : α → Bool) (ok : C.Ok k) (hi : EIO C env L L0 tg iter as) (hb : DcB C env L k scope own tg kx vx ifs as fk fv q) (hn : NI.n κ ≤ 8 := by decide)
    (bok : BlkOk C.X.N C.X.env.scope scope own := by exact blkOk_by (by first | rfl | decide +kernel)) (hs : ∀ x, foldedSetIterable iter C.X.env x = pure x := by intro _; rfl) (hh : ∀ c ∈ L0, c ∈ L := by intro c hc; cases hc) : EM C env L (.DictComp kx vx [⟨tg, iter, ifs, 0⟩] scope pos) (fun r L' => ∃ l, r = ⟨(At.mk l)⟩ ∧ L' = Cell.dkn C.X.prog C.X.w l (dcF fk fv q as) :: L) (fun _ _ _ => False) := by
  let CR : Hp → Cz := fun R => ⟨C.X, R, C.W⟩
  let g : TG := fun v σ H Q => ∃ z : ULift.{1} (Hp × α × List Nat) × Env, (∀ s H C0 cl fp, G (C.blk z.1.down.1 s H scope C0 cl fp) (wipeE env (own.map (·.2))) L tg ⟨z.1.down.2.1⟩ z.2 z.1.down.2.2) ∧ gS (CR z.1.down.1) (wipeE env (own.map (·.2))) L ⟨z.1.down.2.1⟩ z.2 z.1.down.2.2 v σ H Q
  let tt : TT := fun σ H Q => ∃ z : ULift.{1} (Hp × Bool) × Env, (∀ s H C0 cl fp, Ts (C.blk z.1.down.1 s H scope C0 cl fp) z.2 L ifs z.1.down.2) ∧ eT (CR z.1.down.1) z.2 L z.1.down.2 σ H Q
  let tk : TE := fun σ H Q => ∃ z : ULift.{1} (Hp × κ) × Env, (∀ s H C0 cl fp, E (C.blk z.1.down.1 s H scope C0 cl fp) z.2 L kx ⟨z.1.down.2⟩) ∧ eE (CR z.1.down.1) z.2 L ⟨z.1.down.2⟩ σ H Q
  let tv : TE := fun σ H Q => ∃ z : ULift.{1} (Hp × β) × Env, (∀ s H C0 cl fp, E (C.blk z.1.down.1 s H scope C0 cl fp) z.2 L vx ⟨z.1.down.2⟩) ∧ eE (CR z.1.down.1) z.2 L ⟨z.1.down.2⟩ σ H Q
  refine ⟨PE.imp (pe_dc1 (X := C.X) (g := g) (tt := tt) (tk := tk) (tv := tv) (o0 := fun D => DkO C.X.prog C.X.w D []) (St := stD C.X) ok.calm ok.nd hi.p bok (fun s H C0 cl fp => PG.ex fun z h => (h s H C0 cl fp).p) (fun s H C0 cl fp => PTs.ex fun z h => (h s H C0 cl fp).p) (fun s H C0 cl fp => PE.ex fun z h => (h s H C0 cl fp).p) (fun s H C0 cl fp => PE.ex fun z h => (h s H C0 cl fp).p) (dkn0 C.X) (stD_ok (by have := ok.room.un; omega)) hs) fun σ H Q ⟨F, s, zz, _⟩ => ?_⟩
  refine ⟨F, s, fun J F1 H1 w1 s1 sv hz D hD => ?_⟩
  obtain ⟨o0, hR, _⟩ := s1.ow.toR (u := DkO C.X.prog C.X.w D []) hD
  refine ⟨fun i m H => m = as.length - i ∧ i ≤ as.length ∧ ∃ F' xs, Ex F1 F' ∧ Own C.X.K (upd C.R D (DkO C.X.prog C.X.w D xs)) F' H L ∧ Slots C.X.K F' σ env ∧ Pr (NOk C.X.K F') xs (dcF fk fv q (as.take i)),
    ⟨as.length, by simp, Nat.zero_le _, F1, [], Ex.rf F1, o0, s1.sl, by simp [dcF]; exact .nil⟩, ?_⟩
  rintro i m H2 ⟨rfl, hi, F', vs, x, o, sl, pr⟩
  by_cases hlt : i < as.length
  · obtain ⟨go, yl⟩ := sv.go i F' H2 hlt x ⟨o.fH, _, L, o, hh⟩
    refine .inr ⟨go, fun H => i + 1 ≤ as.length ∧ ∃ F' vs, Ex F1 F' ∧ Own C.X.K (upd C.R D (DkO C.X.prog C.X.w D vs)) F' H L ∧ Slots C.X.K F' σ env ∧ Pr (NOk C.X.K F') vs (dcF fk fv q (as.take (i + 1))), fun H' z => ⟨as.length - (i + 1), by omega, rfl, z⟩, fun v H3 y => ?_⟩
    obtain ⟨F3, gr, a, ha, rv⟩ := yl v H3 y
    obtain ⟨env2, js, hjs, hz2⟩ := hb i a ha
    have hB := fun s H C0 cl fp => hz2 (upd C.R D (DkO C.X.prog C.X.w D vs)) s H C0 cl fp (ok.blk _ _ _ _ _ _ _)
    refine ⟨(⟨(upd C.R D (DkO C.X.prog C.X.w D vs), a, js)⟩, env2), fun s H C0 cl fp => (hB s H C0 cl fp).1, F3, ⟨(sl.mono gr.f).wipeE _, o.gro gr⟩, rv, fun σ4 F4 H4 w4 s4 chg => ⟨?_, ?_⟩⟩
    · rw [chg _ hjs]
      exact wipe_wipe σ _ _ fun _ h => h
    · refine ⟨(⟨(upd C.R D (DkO C.X.prog C.X.w D vs), q a)⟩, env2), fun s H C0 cl fp => (hB s H C0 cl fp).2.1, F4, s4, fun F5 H5 w5 s5 => ?_⟩
      have hlen : vs.length ≤ i := by
        rw [pr.length]
        exact Nat.le_trans (dcF_le _ _ _ _) (List.length_take_le _ _)
      cases hq : q a with
      | true =>
        refine iteT ⟨(⟨(upd C.R D (DkO C.X.prog C.X.w D vs), fk a)⟩, env2), fun s H C0 cl fp => ((hB s H C0 cl fp).2.2 hq).1, F5, s5, fun y F6 H6 w6 s6 ry => ?_⟩
        refine ⟨(⟨(upd C.R D (DkO C.X.prog C.X.w D vs), fv a)⟩, env2), fun s H C0 cl fp => ((hB s H C0 cl fp).2.2 hq).2, F6, s6, fun z F7 H7 w7 s7 rz => ?_⟩
        obtain ⟨pk, rfl⟩ := NR.ref ry
        have exA : Ex F' F7 := ((((gr.f).tr w4.f).tr w5.f).tr w6.f).tr w7.f
        have prA : Pr (NOk C.X.K F7) vs (dcF fk fv q (as.take i)) := pr.imp fun _ _ => NOk.mono exA
        have hd7 : H7 D = some (DkO C.X.prog C.X.w D vs) := s7.ow.rH D _ upd_same
        refine ⟨vs, NI.ni (fk a), pk, rfl, hd7, fun B e1 e2 e3 => ⟨fun I => ?_, ?_⟩, by omega, fun r rr => ⟨hlt, F7, _, x.tr exA, s7.ow.updR hR, sl.mono exA, ?_⟩⟩
        · rw [← e3] at prA
          have hd8 : H7 D = some (DkO B.prog B.w D vs) := by rw [e1, e2]; exact hd7
          exact dkn_at hn I s7.ow.fH hd8 prA
        · have h9 := Rep.mono w7.f ry
          rw [← e3] at h9
          exact @fun pins σ s I => kis_of hn s7.ow.fH h9 I
        · rw [dcF_snoc ha, if_pos hq]
          exact pr_stored prA (Rep.mono w7.f ry) rz rr
      | false =>
        refine iteF ⟨hlt, F5, vs, ((x.tr gr.f).tr w4.f).tr w5.f, s5.ow, sl.mono ((gr.f.tr w4.f).tr w5.f), ?_⟩
        rw [dcF_snoc ha, hq]
        exact pr.imp fun _ _ => NOk.mono ((gr.f.tr w4.f).tr w5.f)
  · have e : i = as.length := by omega
    subst e
    rw [List.take_length] at pr
    refine .inl ⟨sv.stop _ F' H2 (Nat.le_refl _) x ⟨o.fH, _, L, o, hh⟩, ?_⟩
    exact zz _ _ _ F' H2 ⟨D, rfl, rfl⟩ (w1.f.tr x) ⟨sl, o.ofRc hR rfl ⟨⟨vs, o.rH D _ upd_same, pr⟩, Nat.le_trans (dcF_le _ _ _ _) hz⟩⟩ rfl
end
end Py

namespace Py
open PySem PySem.Spec PyProof.Rows L2
section
variable {X : Cx}
theorem ps_setDc1 {i : Nat} {y : Str} {py : Pos} {kx vx tg iter : Expr} {ifs : List Expr} {scope : Scope} {own : List (Str × Nat)} {pos spos : Pos} {wi : TI} {g : TG} {tt : TT} {tk tv : TE} {o0 : Addr → HO} {St : TSt} (hc : X.calm = true) (hN : X.N.Nodup) (hy : X.N[i]? = some y) (hyl : X.env.scope.names.lookup y = some .local)
    (hsw : swapsWith (.DictComp kx vx [⟨tg, iter, ifs, 0⟩] scope pos) (some (.Name y py)) spos.line X.env = pure true) (hi : PI X tg iter wi) (ok : BlkOk X.N X.env.scope scope own)
    (hg : ∀ (s : Shared) (H : Hp) (C : Addr) (cl : List (Str × Addr)) (fp : List Addr), PG (X.blk s H scope (compEnvC scope cl C X.env) fp) tg g) (ht : ∀ (s : Shared) (H : Hp) (C : Addr) (cl : List (Str × Addr)) (fp : List Addr), PTs (X.blk s H scope (compEnvC scope cl C X.env) fp) ifs tt)
    (hk : ∀ (s : Shared) (H : Hp) (C : Addr) (cl : List (Str × Addr)) (fp : List Addr), PE (X.blk s H scope (compEnvC scope cl C X.env) fp) kx tk)
    (he : ∀ (s : Shared) (H : Hp) (C : Addr) (cl : List (Str × Addr)) (fp : List Addr), PE (X.blk s H scope (compEnvC scope cl C X.env) fp) vx tv)
    (h0 : ∀ (H : Hp) (h : Heap), sysModules < h.objs.size → ObjOk X.prog X.w H (h.push { cls := Value.type "dict", data := Data.dict #[] }) h.objs.size (o0 h.objs.size)) (hSt : StOk X St) (hs : ∀ x, foldedSetIterable iter X.env x = pure x := by intro _; rfl) :
    PS X (.Assign [.Name y py] (.DictComp kx vx [⟨tg, iter, ifs, 0⟩] scope pos) spos) (tAsg (tDc1 wi g tt tk tv (own.map (·.2)) o0 St) (gName i)) := by
  refine ⟨fun pins s σ H D I h => ?_⟩
  rw [exec_Assign_Name_used _ _ _ _ hsw]
  refine wpAny_bind (wpAny_standAt (wpAny_bind ?_))
  show wpAny _ X.A (do let _ ← comprehension (.DictComp kx vx [⟨tg, iter, ifs, 0⟩] scope pos) scope X.env (firstIterPos [⟨tg, iter, ifs, 0⟩] pos) newDict false (eval iter X.env) (some (assign (.Name y py) X.env))) _ _ s
  have h : tDc1 wi g tt tk tv (own.map (·.2)) o0 St σ H (fun x H1 => gName i x σ H1 D.nx) := h
  refine wpAny_bind (thn (dc1_core (Qf := fun _ s' => SP X pins D .next s') hc hN I hi ok hg ht hk he hs h0 hSt h fun L C s' m H' I' q hn f => ?_) fun _ s' hq => wpAny_pure (wpAny_pure hq))
  show wpAny _ _ (assign (.Name y py) X.env (.ref L)) _ _ _
  refine wpAny_assign_Name (store_ok2 (v := V.ref L) I' hN hy (.inl hyl) rfl (fun s2 I2 ⟨a, sb, ha⟩ => ?_) (.inr hyl))
  obtain ⟨f0, f1, f2, f3, f4, f5⟩ := f
  refine ⟨m, hn.sameBut sb (ha.elim (fun z => by rw [z]; exact f1) fun z e => f4 y a z e.symm), fun h3 sb3 => ?_⟩
  exact ⟨_, H', I2.turned (t' := s2.toks) (fun b o hb e => (sb3.2 b hb).trans e) f0 f1 f3 f4 f5, q⟩
end
section
variable {C : Cz} {k j : Nat} {env env' env2 env3 : Env} {L LR L0 : List Cell} {e a b c tg iter kx vx o : Expr} {es ifs : List Expr} {pos : Pos} {scope : Scope} {own : List (Str × Nat)} {Q : Po} {rest : List Stmt}
theorem S_setDcK {α κ β : Type} [Rep α] [Rep κ] [DecidableEq κ] [NI κ] [NR κ] [Rep β] {as : List α} (i : Nat) (own : List (Str × Nat)) (fk : α → κ) (fv : α → β) (q : α → Bool) {y : Str} {py spos : Pos} (ok : C.Ok k) (hi : EIO C env L L0 tg iter as) (hb : DcB C env L k scope own tg kx vx ifs as fk fv q) (h : ∀ l, S C (env.set i (some ⟨(At.mk l)⟩)) (Cell.dkn C.X.prog C.X.w l (dcF fk fv q as) :: L) rest Q)
    (hn : NI.n κ ≤ 8 := by decide) (hy : C.X.N[i]? = some y := by rfl) (hyl : C.X.env.scope.names.lookup y = some .local := by rfl) (hsw : swapsWith (.DictComp kx vx [⟨tg, iter, ifs, 0⟩] scope pos) (some (.Name y py)) spos.line C.X.env = pure true := by exact sw_trueD rfl rfl rfl (by decide +kernel))
    (bok : BlkOk C.X.N C.X.env.scope scope own := by exact blkOk_by (by first | rfl | decide +kernel)) (hs : ∀ x, foldedSetIterable iter C.X.env x = pure x := by intro _; rfl) (hh : ∀ c ∈ L0, c ∈ L := by intro c hc; cases hc) : S C env L (.Assign [.Name y py] (.DictComp kx vx [⟨tg, iter, ifs, 0⟩] scope pos) spos :: rest) Q := by
  let CR : Hp → Cz := fun R => ⟨C.X, R, C.W⟩
  let g : TG := fun v σ H Q => ∃ z : ULift.{1} (Hp × α × List Nat) × Env, (∀ s H C0 cl fp, G (C.blk z.1.down.1 s H scope C0 cl fp) (wipeE env (own.map (·.2))) L tg ⟨z.1.down.2.1⟩ z.2 z.1.down.2.2) ∧ gS (CR z.1.down.1) (wipeE env (own.map (·.2))) L ⟨z.1.down.2.1⟩ z.2 z.1.down.2.2 v σ H Q
  let tt : TT := fun σ H Q => ∃ z : ULift.{1} (Hp × Bool) × Env, (∀ s H C0 cl fp, Ts (C.blk z.1.down.1 s H scope C0 cl fp) z.2 L ifs z.1.down.2) ∧ eT (CR z.1.down.1) z.2 L z.1.down.2 σ H Q
  let tk : TE := fun σ H Q => ∃ z : ULift.{1} (Hp × κ) × Env, (∀ s H C0 cl fp, E (C.blk z.1.down.1 s H scope C0 cl fp) z.2 L kx ⟨z.1.down.2⟩) ∧ eE (CR z.1.down.1) z.2 L ⟨z.1.down.2⟩ σ H Q
  let tv : TE := fun σ H Q => ∃ z : ULift.{1} (Hp × β) × Env, (∀ s H C0 cl fp, E (C.blk z.1.down.1 s H scope C0 cl fp) z.2 L vx ⟨z.1.down.2⟩) ∧ eE (CR z.1.down.1) z.2 L ⟨z.1.down.2⟩ σ H Q
  refine S_cons ⟨PS.imp (ps_setDc1 (X := C.X) (g := g) (tt := tt) (tk := tk) (tv := tv) (o0 := fun D => DkO C.X.prog C.X.w D []) (St := stD C.X) ok.calm ok.nd hy hyl hsw hi.p bok (fun s H C0 cl fp => PG.ex fun z h => (h s H C0 cl fp).p) (fun s H C0 cl fp => PTs.ex fun z h => (h s H C0 cl fp).p) (fun s H C0 cl fp => PE.ex fun z h => (h s H C0 cl fp).p) (fun s H C0 cl fp => PE.ex fun z h => (h s H C0 cl fp).p) (dkn0 C.X) (stD_ok (by have := ok.room.un; omega)) hs) fun D0 σ H ⟨F, s, zz⟩ => ?_⟩
  refine ⟨F, s, fun J F1 H1 w1 s1 sv hz D hD => ?_⟩
  obtain ⟨o0, hR, _⟩ := s1.ow.toR (u := DkO C.X.prog C.X.w D []) hD
  refine ⟨fun i m H => m = as.length - i ∧ i ≤ as.length ∧ ∃ F' xs, Ex F1 F' ∧ Own C.X.K (upd C.R D (DkO C.X.prog C.X.w D xs)) F' H L ∧ Slots C.X.K F' σ env ∧ Pr (NOk C.X.K F') xs (dcF fk fv q (as.take i)),
    ⟨as.length, by simp, Nat.zero_le _, F1, [], Ex.rf F1, o0, s1.sl, by simp [dcF]; exact .nil⟩, ?_⟩
  rintro i m H2 ⟨rfl, hi, F', vs, x, o, sl, pr⟩
  by_cases hlt : i < as.length
  · obtain ⟨go, yl⟩ := sv.go i F' H2 hlt x ⟨o.fH, _, L, o, hh⟩
    refine .inr ⟨go, fun H => i + 1 ≤ as.length ∧ ∃ F' vs, Ex F1 F' ∧ Own C.X.K (upd C.R D (DkO C.X.prog C.X.w D vs)) F' H L ∧ Slots C.X.K F' σ env ∧ Pr (NOk C.X.K F') vs (dcF fk fv q (as.take (i + 1))), fun H' z => ⟨as.length - (i + 1), by omega, rfl, z⟩, fun v H3 y => ?_⟩
    obtain ⟨F3, gr, a, ha, rv⟩ := yl v H3 y
    obtain ⟨env2, js, hjs, hz2⟩ := hb i a ha
    have hB := fun s H C0 cl fp => hz2 (upd C.R D (DkO C.X.prog C.X.w D vs)) s H C0 cl fp (ok.blk _ _ _ _ _ _ _)
    refine ⟨(⟨(upd C.R D (DkO C.X.prog C.X.w D vs), a, js)⟩, env2), fun s H C0 cl fp => (hB s H C0 cl fp).1, F3, ⟨(sl.mono gr.f).wipeE _, o.gro gr⟩, rv, fun σ4 F4 H4 w4 s4 chg => ⟨?_, ?_⟩⟩
    · rw [chg _ hjs]
      exact wipe_wipe σ _ _ fun _ h => h
    · refine ⟨(⟨(upd C.R D (DkO C.X.prog C.X.w D vs), q a)⟩, env2), fun s H C0 cl fp => (hB s H C0 cl fp).2.1, F4, s4, fun F5 H5 w5 s5 => ?_⟩
      have hlen : vs.length ≤ i := by
        rw [pr.length]
        exact Nat.le_trans (dcF_le _ _ _ _) (List.length_take_le _ _)
      cases hq : q a with
      | true =>
        refine iteT ⟨(⟨(upd C.R D (DkO C.X.prog C.X.w D vs), fk a)⟩, env2), fun s H C0 cl fp => ((hB s H C0 cl fp).2.2 hq).1, F5, s5, fun y F6 H6 w6 s6 ry => ?_⟩
        refine ⟨(⟨(upd C.R D (DkO C.X.prog C.X.w D vs), fv a)⟩, env2), fun s H C0 cl fp => ((hB s H C0 cl fp).2.2 hq).2, F6, s6, fun z F7 H7 w7 s7 rz => ?_⟩
        obtain ⟨pk, rfl⟩ := NR.ref ry
        have exA : Ex F' F7 := ((((gr.f).tr w4.f).tr w5.f).tr w6.f).tr w7.f
        have prA : Pr (NOk C.X.K F7) vs (dcF fk fv q (as.take i)) := pr.imp fun _ _ => NOk.mono exA
        have hd7 : H7 D = some (DkO C.X.prog C.X.w D vs) := s7.ow.rH D _ upd_same
        refine ⟨vs, NI.ni (fk a), pk, rfl, hd7, fun B e1 e2 e3 => ⟨fun I => ?_, ?_⟩, by omega, fun r rr => ⟨hlt, F7, _, x.tr exA, s7.ow.updR hR, sl.mono exA, ?_⟩⟩
        · rw [← e3] at prA
          have hd8 : H7 D = some (DkO B.prog B.w D vs) := by rw [e1, e2]; exact hd7
          exact dkn_at hn I s7.ow.fH hd8 prA
        · have h9 := Rep.mono w7.f ry
          rw [← e3] at h9
          exact @fun pins σ s I => kis_of hn s7.ow.fH h9 I
        · rw [dcF_snoc ha, if_pos hq]
          exact pr_stored prA (Rep.mono w7.f ry) rz rr
      | false =>
        refine iteF ⟨hlt, F5, vs, ((x.tr gr.f).tr w4.f).tr w5.f, s5.ow, sl.mono ((gr.f.tr w4.f).tr w5.f), ?_⟩
        rw [dcF_snoc ha, hq]
        exact pr.imp fun _ _ => NOk.mono ((gr.f.tr w4.f).tr w5.f)
  · have e : i = as.length := by omega
    subst e
    rw [List.take_length] at pr
    refine .inl ⟨sv.stop _ F' H2 (Nat.le_refl _) x ⟨o.fH, _, L, o, hh⟩, ?_⟩
    exact zz.nx _ _ _ F' H2 (h D) (w1.f.tr x) ⟨sl.put (e := ⟨(At.mk D)⟩) (v := .ref D) rfl _, o.ofRc hR rfl ⟨⟨vs, o.rH D _ upd_same, pr⟩, Nat.le_trans (dcF_le _ _ _ _) hz⟩⟩
end
section
variable {C : Cz} {k j n : Nat} {env : Env} {L LR : List Cell} {e a b o : Expr} {es : List Expr} {pos p tpos : Pos} {x f : Str} {C0 : Addr} {Q : Po} {rest : List Stmt}
/-- C(e, ..), with cells lent -/
theorem EM_makeL.{u} {δ : Type u} {arg : δ → List Ent} {cel : δ → List Cell} {pre : δ → Prop} {post : Addr → Addr → δ → Ent → List Cell → Prop} (d : δ) (ok : C.Ok k)
    (M : Mks C.X.prog C.X.w C.X.K C.X.mg C.X.base j C0 x (spM (γ := Addr × Addr × δ) C.X.K (fun g => ⟨(At.mk g.1)⟩ :: arg g.2.2) (fun g => Cell.obj g.1 C0 g.2.1 [] :: cel g.2.2) (fun g => pre g.2.2) (fun g => post g.1 g.2.1 g.2.2) (fun _ _ _ _ => False)))
    (hpo : ∀ p dx d r L', post p dx d r L' → r = ⟨()⟩) (ha : A C env L (e :: es) (arg d)) (hp : pre d) (hL : L.Perm (cel d ++ LR)) (hj : j + 1 ≤ k := by decide) (hg : Gl C.X x := by rfl)
    (hdb : (x == ("__debug__" : Str)) = false := by decide) (he : starEach (e :: es) C.X.env = (false, eval e C.X.env) :: starEach es C.X.env := by rfl) (hpl : (backTo pos (starEach es C.X.env)).any (·.1) = false := by rfl) :
    EM C env L (.Call (.Name x p) (e :: es) [] pos) (fun r L' => ∃ p dx L1, r = ⟨(At.mk p)⟩ ∧ post p dx d ⟨()⟩ L1 ∧ L' = L1 ++ LR) (fun _ _ _ => False) := by
  obtain ⟨f, fd, ps, hM, hm, hb, F⟩ := M.h
  refine ⟨PE.imp (pe_makeS hM F (ok.room.mono hj) hg hm hb (fun σ => passAt ok.tk σ) ha.p hdb he hpl) fun σ H Q ⟨F0, s, q1, q2⟩ => ⟨F0, s, fun vs F1 H1 x1 s1 rv xx dx h1 h2 h3 => ?_⟩⟩
  have o := s1.ow.made (C0 := C0) h1 h2 h3
  have s2 : Sta C F1 env (Cell.obj xx C0 dx [] :: L) σ (upd (upd H1 dx (.own xx)) xx (.ins C0 dx [])) := ⟨s1.sl, o⟩
  refine of_sp1 (C := C) (env := env) (LR := LR) (xx, dx, d) hp (hL.cons _) s2 (.cons (show Ent.rp ⟨(At.mk xx)⟩ _ _ _ from rfl) rv) (fun v r L' F' H' hpost x2 s' rr => ?_) (fun cls dd L' F' H' hx x2 s' => hx.elim)
  have hr := hpo _ _ _ _ _ hpost
  subst hr
  exact ⟨rr, q1 (.ref xx) _ _ F' H' ⟨xx, dx, L', rfl, hpost, rfl⟩ (x1.f.tr x2) s' rfl⟩
/-- o.f += e, whole numbers -/
theorem S_fldAug {q dx : Addr} {fs : Fld} {u v : Int} (kk : Nat) (cl : Cls C.X.K C0) (na : NoAttr C.X.K C0 f) (ho : E C env L o ⟨(At.mk q)⟩) (he : E C env L e ⟨v⟩) (hL : L[kk]? = some (Cell.obj q C0 dx fs)) (hf : fs.lookup f = some ⟨u⟩) (hk : S C env (L.set kk (Cell.obj q C0 dx (putE f ⟨(u + v)⟩ fs))) rest Q) (hz : fs.length < 1000 := by decide) :
    S C env L (.AugAssign (.Attribute o f tpos) .Add e pos :: rest) Q :=
  S_cons ⟨PS.imp (ps_fldaug ho.p he.p in_add) fun D σ H ⟨F, s, n⟩ => ⟨F, s, fun w F1 H1 x1 s1 rw' => by
    have rw' : w = V.ref q := rw'
    subst rw'
    obtain ⟨vs1, g1, g2, g3⟩ := s1.ow.ok _ (List.mem_of_getElem? hL)
    obtain ⟨w1, g4, g5⟩ := fld_lookup g3 hf
    have g5 : w1 = V.int u := g5
    subst g5
    refine ⟨q, C0, dx, vs1, V.int u, rfl, g1, cl, na, g4, F1, s1, fun w2 F2 H2 x2 s2 rv2 => ?_⟩
    have rv2 : w2 = V.int v := rv2
    subst rv2
    obtain ⟨vs, h1, h2, h3⟩ := s2.ow.ok _ (List.mem_of_getElem? hL)
    have hne : dx ≠ q := fun e => by
      subst e
      rw [h1] at h2; cases h2
    refine ⟨u, v, rfl, rfl, dx, vs, h1, by rw [h3.length]; exact hz, n.nx env _ σ F2 _ hk (x1.f.tr x2.f) ⟨s2.sl, s2.ow.put hL rfl (fun b hb => upd_ne fun z => hb (by rw [z]; exact List.mem_cons_self)) ⟨_, upd_same, by rw [upd_ne hne]; exact h2, fld_put h3 (show Ent.rp ⟨(u + v)⟩ C.X.K F2 (V.int (u + v)) from rfl)⟩⟩⟩⟩⟩
end
end Py

namespace Py
open PySem PySem.Spec PyProof.Rows L2
section
variable {C : Cz} {k n j : Nat} {env : Env} {L LR : List Cell} {e a b o tg : Expr} {es : List Expr} {C0 : Addr} {r r1 r2 : Ent} {rs : List Ent} {p pos apos : Pos} {m x : Str} {rest : List Stmt} {Q : Po}
/-- list(range(n)) -/
theorem E_listRg {n : Int} {p2 pos2 : Pos} (ok : C.Ok k) (he : E C env L e ⟨n⟩) (hl : C.X.mg "list" = none) (hr : C.X.mg "range" = none) (h0 : 0 ≤ n) (hn : n ≤ 16777216) (hgl : Gl C.X "list" := by rfl) (hgr : Gl C.X "range" := by rfl) (hs : starEach [e] C.X.env = (false, eval e C.X.env) :: starEach [] C.X.env := by rfl)
    (hs2 : starEach [.Call (.Name "range" p2) [e] [] pos2] C.X.env = (false, eval (.Call (.Name "range" p2) [e] [] pos2) C.X.env) :: starEach [] C.X.env := by rfl) : E C env L (.Call (.Name "list" p) [.Call (.Name "range" p2) [e] [] pos2] [] pos) ⟨rng 0 n.toNat⟩ :=
  ⟨PE.imp (pe_listRg ok.calm hgl hl (prg_1 hgr hr he.p hs) hs2) fun σ H Q ⟨F, s, q⟩ => ⟨F, s, fun v F1 H1 x1 s1 rv => by
    have rv : v = V.int n := rv
    subst rv
    refine ⟨n, rfl, RgOk.of_le (Int.le_refl _) hn (by decide) h0, fun l hn2 => ?_⟩
    have pr : Pr (Rep.rp C.X.K F1) (rgV 0 n) (rng 0 n.toNat) := by
      unfold rgV rng
      rw [Int.sub_zero]
      generalize List.range n.toNat = is
      induction is with
      | nil => exact .nil
      | cons i is ih => exact .cons rfl ih
    have gr := Gro.new (o := .lst (rgV 0 n)) s1.ow.fH hn2
    exact q _ _ _ (x1.tr gr.w) (s1.gro gr) ⟨l, _, rfl, upd_same, pr.imp (fun _ _ => Rep.mono gr.f), by rw [rng_len, sizeLine_eq]; omega⟩⟩⟩
theorem pc_ninO.{u} {γ : Type u} {arg : γ → List Ent} {cel : γ → List Cell} {pre : γ → Prop} {res : γ → Bool} (g : γ) (ok : C.Ok k) (M : Ms C.X.prog C.X.w C.X.K C.X.mg C.X.base n C0 "__contains__" (spB C.X.K arg cel pre (fun g => ⟨res g⟩)))
    (hb : E C env L b r2) (he : E C env L e r1) (hg : arg g = [r1, r2]) (hp : pre g) (hL : L.Perm (cel g ++ LR)) (hs : Seen C L r1 C0) (hj : n ≤ k := by decide) : PC C.X .NotIn b e (eE C env L ⟨(!res g)⟩) := by
  obtain ⟨f, fd, ps, hM, _, hB, Fn⟩ := M.h
  refine ⟨fun pins s σ H Qv I ⟨F, st, q⟩ => hb.go I st fun u s1 v F1 H1 I1 ru x1 st1 rv => he.go I1 st1 fun u2 s2 v2 F2 H2 I2 ru2 x2 st2 rv2 => ?_⟩
  obtain ⟨t, dx, fs, rfl, ht⟩ := hs _ F2 H2 v2 st2.ow rv2
  obtain rfl : u2 = Value.ref t := ru2
  obtain ⟨ox, od, J, _⟩ := inst_at I2 ht
  obtain ⟨m', hF⟩ := I2.fr
  refine PySem.W.notIn_K hF I2.ok.mod.kin J hM.at_ hM.fn (wpAny_mono (run_sub0 Fn (Sub.here ok.room hj) hB I2 (show Vals [V.ref t, v] [Value.ref t, u] from .cons rfl (.cons ru .nil)) (Qv := fun v H' => v = .bl (res g) ∧ Qv (.bl (!res g)) H') (sp_lent g hp hL st2.ow (by rw [hg]; exact .cons rv2 (.cons (Ent.mono x2 rv) .nil)) fun v F' H' x o' rr => ⟨rr, q _ F' H' ⟨(x1.tr x2).tr x⟩ ⟨(st2.sl.mono x), o'⟩ rfl⟩) _) (fun u s' z => ?_) fun _ _ z => z)
  obtain ⟨v, H', I', rv, rfl, z⟩ := z
  cases rv
  exact wpAny_truthy_bool ⟨.bl (!res g), H', I', rfl, z⟩
theorem E_ninO.{u} {γ : Type u} {arg : γ → List Ent} {cel : γ → List Cell} {pre : γ → Prop} {res : γ → Bool} (g : γ) (ok : C.Ok k) (M : Ms C.X.prog C.X.w C.X.K C.X.mg C.X.base n C0 "__contains__" (spB C.X.K arg cel pre (fun g => ⟨res g⟩)))
    (hb : E C env L b r2) (he : E C env L e r1) (hg : arg g = [r1, r2]) (hp : pre g) (hL : L.Perm (cel g ++ LR)) (hs : Seen C L r1 C0) (hj : n ≤ k := by decide) (hm : behindInMarks .NotIn e = false := by rfl) : E C env L (.Compare b [.NotIn] [e] pos) ⟨(!res g)⟩ := ⟨pe_cmp (pc_ninO g ok M hb he hg hp hL hs hj) hm⟩
theorem T_inO.{u} {γ : Type u} {arg : γ → List Ent} {cel : γ → List Cell} {pre : γ → Prop} {res : γ → Bool} (g : γ) (ok : C.Ok k) (M : Ms C.X.prog C.X.w C.X.K C.X.mg C.X.base n C0 "__contains__" (spB C.X.K arg cel pre (fun g => ⟨res g⟩)))
    (hb : E C env L b r2) (he : E C env L e r1) (hg : arg g = [r1, r2]) (hp : pre g) (hL : L.Perm (cel g ++ LR)) (hs : Seen C L r1 C0) (hj : n ≤ k := by decide) (hm : behindInMarks .In e = false := by rfl) : T C env L (.Compare b [.In] [e] pos) (res g) :=
  ⟨PT.imp (pt_cmp (pc_inO g ok M hb he hg hp hL hs hj) hm) fun σ H Q ⟨F, s, q⟩ => ⟨F, s, fun v F' H' x s' rv => ⟨res g, rv, q F' H' x s'⟩⟩⟩
theorem T_ninO.{u} {γ : Type u} {arg : γ → List Ent} {cel : γ → List Cell} {pre : γ → Prop} {res : γ → Bool} (g : γ) (ok : C.Ok k) (M : Ms C.X.prog C.X.w C.X.K C.X.mg C.X.base n C0 "__contains__" (spB C.X.K arg cel pre (fun g => ⟨res g⟩)))
    (hb : E C env L b r2) (he : E C env L e r1) (hg : arg g = [r1, r2]) (hp : pre g) (hL : L.Perm (cel g ++ LR)) (hs : Seen C L r1 C0) (hj : n ≤ k := by decide) (hm : behindInMarks .NotIn e = false := by rfl) : T C env L (.Compare b [.NotIn] [e] pos) (!res g) :=
  ⟨PT.imp (pt_cmp (pc_ninO g ok M hb he hg hp hL hs hj) hm) fun σ H Q ⟨F, s, q⟩ => ⟨F, s, fun v F' H' x s' rv => ⟨!res g, rv, q F' H' x s'⟩⟩⟩
end
end Py

namespace Py
open PySem PySem.Spec PyProof.Rows L2
abbrev f4 : Builtin.Float.FormatSpec := { align := 62, width := some 4 }
abbrev f8 : Builtin.Float.FormatSpec := { align := 60, width := some 8 }
def strI (a : Int) : Str := Str.ofString (toString a)
theorem strI_nat (m : Nat) : strI (m : Int) = ⟨((Nat.toDigits 10 m).map Char.toNat).toArray⟩ := text_ofNat m
theorem strI_len (m : Nat) : (strI (m : Int)).length = (Nat.toDigits 10 m).length := by
  rw [strI_nat]
  show (((Nat.toDigits 10 m).map Char.toNat).toArray).size = _
  rw [List.size_toArray, List.length_map]
theorem strI_le {m k : Nat} (hk : 1 ≤ k) (h : m < 10 ^ k) : (strI (m : Int)).length ≤ k := by
  rw [strI_len]; exact digits10_le hk h
theorem strI_ok (a : Int) (h : (strI a).length ≤ sizeLine) : SOk (strI a) := ⟨h, by
  unfold strI
  rw [Str.ofString_eq_toList]
  simp only [List.all_eq_true]
  intro c hc
  simp at hc
  obtain ⟨d, _, rfl⟩ := hc
  have := d.valid
  refine decide_eq_true ?_
  have h2 := d.val.toNat_lt
  rcases this with z | z
  · have : d.toNat < 0xd800 := z
    omega
  · exact z.2⟩
theorem intField4 (m : Nat) : intSpecText f4 (m : Int) = Txt.rjust (strI (m : Int)) 4 := by
  have hl := strI_len m
  unfold Txt.rjust
  rw [strI_nat] at hl ⊢
  have hp := tDigits_len_ge 10 m
  have hlen : (⟨((Nat.toDigits 10 m).map Char.toNat).toArray⟩ : Str).length = (Nat.toDigits 10 m).length := hl
  rw [hlen]
  have e : intSpecText f4 (m : Int) = ⟨(List.replicate (4 - (Nat.toDigits 10 m).length) 32 ++ (Nat.toDigits 10 m).map Char.toNat).toArray⟩ := by
    unfold intSpecText intField'
    have hneg : decide ((m : Int) < 0) = false := decide_eq_false (by omega)
    have hd : ((Nat.toDigits 10 m).map fun c => (if (100 : Nat) == 88 then c.toUpper else c).toNat).isEmpty = false := by
      cases h : Nat.toDigits 10 m with
      | nil => rw [h] at hp; simp at hp
      | cons _ _ => rfl
    rw [hneg]
    simp [f4, hd]
  rw [e]
  by_cases q : (4 : Int) ≤ ((Nat.toDigits 10 m).length : Int)
  · rw [if_pos q, show 4 - (Nat.toDigits 10 m).length = 0 by omega]; rfl
  · rw [if_neg q]
    unfold Builtin.Str.padded
    simp
open Builtin Builtin.Str Builtin.Int Builtin.Float in
theorem field_intS {prog : Program} {w : World} {A : Around} {E : Value → Shared → Prop} {s : Shared} {a : Int} {t : Tok} {spec : PySem.Str} {f : FormatSpec} {Q : Value → Shared → Prop} (hs : a.natAbs.log2 < 1920) (hf : f = f4) (hp : parseFormatSpec spec.cps.toList "int" 62 = .ok f) (hne : (spec.length == 0) = false)
    (hasc : ((spec.cps.toList.drop 1).any (· ≥ 128) || (spec.cps.getD 0 0 ≥ 128 && !([60, 62, 61, 94] : List Nat).contains (spec.cps.getD 1 0))) = false)
    (hty : f.type.getD (if spec.cps.back? == some 0 then 0 else 100) = 100) (hpr : f.precision = none) (hz : f.noNeg0 = false) (hal : f.alt = false) (hw : f.width.getD 0 ≤ 100000) (hgr : f.grouping = none) (hsg : f.sign = none)
    (hlen : (intSpecText f a).length ≤ sizeLine) (h : ∀ t' k, Q (.str (intSpecText f a) t') { s with toks := k }) (hsz : spec.length ≤ sizeLine) : wpAny (model prog w) A (formatField (.int a t) spec) Q E s := by
  have key : ∀ u, PySem.Gives («int.__format__» ⟨[.int a t, .str spec u], []⟩) (.str (intSpecText f a)) := by
    intro u prog w A R s hq
    unfold Builtin.«int.__format__»
    simp only [selfAndOne, noKeywords, Int.intOfSelf, asInt?, asStr?, List.isEmpty_nil, if_true, pure_bind, bind_pure, bind_assoc, hne, hasc, Bool.false_eq_true, if_false, show (Value.str spec u == Value.none) = false from rfl]
    refine wpAny_bind (wpAny_typeNameOf (T := "str") (typeIs_str _ _ _) (by decide) fun _ => wpAny_bind (wpAny_typeNameOfCut_int ?_))
    simp only [hp, hty]
    rw [if_pos (by decide)]
    show wpAny _ _ (if _ then _ else _) _ _ _; rw [if_neg (by simp [hpr])]
    show wpAny _ _ (if _ then _ else _) _ _ _; rw [if_neg (by simp [hz])]
    show wpAny _ _ (if _ then _ else _) _ _ _; rw [if_neg (by decide)]
    show wpAny _ _ (do let r ← Builtin.overDigitLimit? a; _) _ _ _
    refine wpAny_bind (wpAny_of_eq (PySem.overDigitLimit_small hs) ?_)
    show wpAny _ _ (if _ then _ else _) _ _ _
    rw [if_neg (by simpa using (show ¬ (f.width.getD 0 > 100000) by omega))]
    clear hp hty hw h hpr hz hal hgr hsg
    subst hf
    have e : ∀ (X : Str), X = intSpecText f4 a → wpAny (model prog w) A.in1 (retStr X) (fun fin s' => match fin with | Fin.done f => R (Except.ok f) s' | Fin.again c' => c'.quiet = true ∧ codeAny (model prog w) A c' R s') (fun e s' => R (Except.error e) s') s := by
      rintro X rfl
      exact (PySem.Gives.of_eq (t := retStr (intSpecText f4 a)) rfl) prog w A R s hq
    refine e _ ?_
    clear e hq hlen hs
    conv => lhs; whnf
    unfold intSpecText intField'
    simp only [Bool.false_eq_true, if_false, if_true, show ((10 : Nat) == 10) = true by decide]
    rfl
  exact PySem.wpAny_formatField_spec hne (fun s' => typeIs_int s' a t) PySem.F.slot_int_format PySem.F.entry_int_format PySem.F.args_int_format_2 key (h _ _) hsz hlen
open Builtin Builtin.Str Builtin.Int Builtin.Float in
theorem field_int4 {prog : Program} {w : World} {A : Around} {E : Value → Shared → Prop} {s : Shared} {m : Nat} {t : Tok} {Q : Value → Shared → Prop} (hm : m < 10 ^ 18) (h : ∀ t' k, Q (.str (Txt.rjust (strI (m : Int)) 4) t') { s with toks := k }) : wpAny (model prog w) A (formatField (.int (m : Int) t) (">4" : PySem.Str)) Q E s := by
  have hz : (intSpecText f4 (m : Int)).length ≤ sizeLine := by
    rw [intSpecText_length (m : Int) rfl rfl, sizeLine_eq, if_neg (by omega)]
    have := digits10_le (k := 18) (by decide) hm
    show max 4 (0 + (Nat.toDigits 10 m).length) ≤ 16777216
    omega
  refine field_intS (f := f4) ?_ rfl (by kernel_rfl) (by decide) (by decide +kernel) (by decide +kernel) rfl rfl rfl (by decide) rfl rfl hz (by rw [intField4]; exact h) (by decide)
  have h2 : m < 2 ^ 1920 := Nat.lt_of_lt_of_le hm (by decide +kernel)
  show m.log2 < 1920
  by_cases z : m = 0
  · subst z; decide
  · exact (Nat.log2_lt z).mpr h2
theorem padded_len (x : Str) (a b c : Nat) : (Builtin.Str.padded x a b c).length = a + x.length + b := by
  unfold Builtin.Str.padded
  show (Array.replicate a c ++ x.cps ++ Array.replicate b c).size = _
  rw [Array.size_append, Array.size_append, Array.size_replicate, Array.size_replicate]; rfl
theorem ljust_len (x : Str) (n : Nat) : (Txt.ljust x (n : Int)).length = max n x.length := by
  unfold Txt.ljust
  split
  · omega
  · rw [padded_len]; omega
theorem rjust_len (x : Str) (n : Nat) : (Txt.rjust x (n : Int)).length = max n x.length := by
  unfold Txt.rjust
  split
  · omega
  · rw [padded_len]; omega
theorem padded_ok {x : Str} {a b : Nat} (h : SOk x) (hz : a + x.length + b ≤ sizeLine) : SOk (Builtin.Str.padded x a b 32) := ⟨by rw [padded_len]; exact hz, by
  have := h.ok
  unfold Builtin.Str.padded
  simp only [Array.toList_append, Array.toList_replicate, List.all_append, this, Bool.and_true]
  rw [Bool.and_eq_true, List.all_eq_true, List.all_eq_true]
  exact ⟨fun c hc => by rw [List.eq_of_mem_replicate hc]; decide, fun c hc => by rw [List.eq_of_mem_replicate hc]; decide⟩⟩
theorem ljust_ok {x : Str} {n : Nat} (h : SOk x) (hz : n ≤ sizeLine) : SOk (Txt.ljust x (n : Int)) := by
  have := h.le
  unfold Txt.ljust
  split
  · exact h
  · exact padded_ok h (by omega)
theorem rjust_ok {x : Str} {n : Nat} (h : SOk x) (hz : n ≤ sizeLine) : SOk (Txt.rjust x (n : Int)) := by
  have := h.le
  unfold Txt.rjust
  split
  · exact h
  · exact padded_ok h (by omega)
open Builtin Builtin.Str Builtin.Float in
theorem strField8 (x : Str) : strField x f8 "str" = .ok (if 8 ≤ x.length then none else some (padded x 0 (8 - x.length) 32)) := by
  have e : strSub x 0 x.length = x := by
    unfold strSub
    show (⟨x.cps.extract 0 x.cps.size⟩ : Str) = x
    rw [Array.extract_size]
  unfold strField
  simp only [f8]
  simp
  rw [e]
  split <;> rfl
open Builtin Builtin.Str Builtin.Float in
theorem field_str8 {prog : Program} {w : World} {A : Around} {E : Value → Shared → Prop} {s : Shared} {x : Str} {t : Tok} {Q : Value → Shared → Prop} (hx : x.length ≤ 1000) (h : ∀ t' k, Q (.str (Txt.ljust x 8) t') { s with toks := k }) : wpAny (model prog w) A (formatField (.str x t) ("<8" : PySem.Str)) Q E s := by
  refine PySem.W.KXf.field_str (y := Txt.ljust x 8) rfl rfl (by decide) (by decide) (fun u => ?_) h
  apply PySem.W.KPc.meets_of
  intro prog w A s Q E hQ
  unfold Builtin.«str.__format__»
  refine wpAny_bind (wpAny_of_eq (a := (_, _, _)) rfl (wpAny_bind (wpAny_of_eq (a := some _) rfl ?_)))
  refine wpAny_bind (PySem.W.KXf.cut_str ?_)
  have hp : parseFormatSpec ("<8" : PySem.Str).cps.toList "str" 60 = .ok f8 := by kernel_rfl
  show wpAny _ _ (match (do
      let f ← parseFormatSpec ("<8" : PySem.Str).cps.toList "str" 60
      let f := if f.type.isNone && ("<8" : PySem.Str).cps.back? == some 0 then { f with type := some 0 } else f
      if tooLong (f.width.getD 0) then return none
      return some (← strField x f "str") : Except String (Option (Option Str))) with
    | .error msg => _
    | .ok none => _
    | .ok (some none) => _
    | .ok (some (some text)) => _) _ _ _
  rw [hp]
  show wpAny _ _ (match (do
      let r ← strField x f8 "str"
      return some r : Except String (Option (Option Str))) with
    | .error msg => _
    | .ok none => _
    | .ok (some none) => _
    | .ok (some (some text)) => _) _ _ _
  rw [strField8]
  by_cases q : 8 ≤ x.length
  · rw [if_pos q]
    refine wpAny_bind (wpAny_rule (PySem.W.KXf.ret_same ?_ hQ))
    unfold Txt.ljust
    rw [if_pos (by omega)]
  · rw [if_neg q]
    have e : Txt.ljust x 8 = padded x 0 (8 - x.length) 32 := by
      unfold Txt.ljust
      rw [if_neg (by omega)]; rfl
    refine PySem.W.KXf.ret_text e.symm ?_ hQ
    rw [padded_len, sizeLine_eq]
    omega
section
variable {X : Cx} {e : Expr} {te : TE} {pos p1 p2 : Pos} {kk : Nat}
theorem pe_fmtI4 (he : PE X e te) : PE X (.FormattedValue e (-1) (some (.JoinedStr [.Constant (.str ">4") kk p1] p2)) pos) (fun σ H Q => te σ H fun x H1 => ∃ m : Nat, x = V.int (m : Int) ∧ m < 10 ^ 18 ∧ Q (.str (Txt.rjust (strI (m : Int)) 4)) H1) := by
  refine ⟨fun pins s σ H Q I h => PySem.wpAny_FormattedValue_spec (thn (he.run pins s σ H _ I h) fun v s1 hv => ?_)⟩
  obtain ⟨x, H1, I1, r1, m, rfl, hm, q⟩ := hv
  obtain ⟨t, rfl⟩ := r1
  refine thn ((pe_joined1 (pe_str (X := X))).run pins s1 σ H1 (fun y H' => y = V.str (">4" : PySem.Str) ∧ H' = H1) I1 ⟨rfl, rfl⟩) fun r s2 hr => ?_
  obtain ⟨y, H2, I2, r2, rfl, rfl⟩ := hr
  obtain ⟨t2, rfl⟩ := r2
  exact ⟨_, t2, rfl, field_int4 hm fun t' k => ⟨.str (Txt.rjust (strI (m : Int)) 4), H2, I2.tok k, ⟨t', rfl⟩, q⟩⟩
theorem pe_fmtS8 (he : PE X e te) : PE X (.FormattedValue e (-1) (some (.JoinedStr [.Constant (.str "<8") kk p1] p2)) pos) (fun σ H Q => te σ H fun x H1 => ∃ a : Str, x = V.str a ∧ a.length ≤ 1000 ∧ Q (.str (Txt.ljust a 8)) H1) := by
  refine ⟨fun pins s σ H Q I h => PySem.wpAny_FormattedValue_spec (thn (he.run pins s σ H _ I h) fun v s1 hv => ?_)⟩
  obtain ⟨x, H1, I1, r1, m, rfl, hm, q⟩ := hv
  obtain ⟨t, rfl⟩ := r1
  refine thn ((pe_joined1 (pe_str (X := X))).run pins s1 σ H1 (fun y H' => y = V.str ("<8" : PySem.Str) ∧ H' = H1) I1 ⟨rfl, rfl⟩) fun r s2 hr => ?_
  obtain ⟨y, H2, I2, r2, rfl, rfl⟩ := hr
  obtain ⟨t2, rfl⟩ := r2
  exact ⟨_, t2, rfl, field_str8 hm fun t' k => ⟨.str (Txt.ljust m 8), H2, I2.tok k, ⟨t', rfl⟩, q⟩⟩
end
def catS : List Str → Str
  | [] => Str.empty
  | y :: ys => y ++ catS ys
section
variable {C : Cz} {k j n : Nat} {env : Env} {L : List Cell} {e o : Expr} {es : List Expr} {pos p p1 p2 apos : Pos} {kk : Nat}
/-- the parts of an f-string -/
structure FJ (C : Cz) (env : Env) (L : List Cell) (es : List Expr) (ys : List Str) : Prop where
  h : ∃ ts, PJ C.X es ts ∧ ∀ acc σ H (Q : Str → Hp → Prop) F, Sta C F env L σ H → (acc ++ catS ys).length ≤ sizeLine → (∀ F' H', Gw F H F' H' → Sta C F' env L σ H' → (∀ y ∈ ys, SOk y) → Q (acc ++ catS ys) H') → tJs ts acc σ H Q
theorem FJ_nil : FJ C env L [] [] := ⟨[], .nil, fun acc σ H Q F s _ q => by
  have h := q F H (Gw.rf F H) s fun y hy => by cases hy
  have e : acc ++ catS [] = acc := by show acc ++ Str.empty = acc; exact PySem.Str.append_empty acc
  rw [e] at h
  exact h⟩
theorem FJ_cons {y : Str} {ys : List Str} (h : E C env L e ⟨y⟩) (hr : FJ C env L es ys) : FJ C env L (e :: es) (y :: ys) := by
  obtain ⟨ts, pj, hq⟩ := hr
  refine ⟨_ :: ts, .cons h.p pj, fun acc σ H Q F s hz q => ⟨F, s, fun v F1 H1 x1 s1 rv => ?_⟩⟩
  have ea : acc ++ catS (y :: ys) = (acc ++ y) ++ catS ys := by
    show acc ++ (y ++ catS ys) = _
    rw [PySem.Str.append_assoc]
  rw [ea] at hz q
  refine ⟨y, rv.1, by have := hz; rw [str_len_append] at this; omega, hq _ σ H1 Q F1 s1 hz fun F2 H2 x2 s2 oks => q F2 H2 (x1.tr x2) s2 fun z hz2 => ?_⟩
  rcases List.mem_cons.mp hz2 with r | r
  · rw [r]; exact rv.2
  · exact oks z r
theorem catS_ok : ∀ {ys : List Str}, (∀ y ∈ ys, SOk y) → (catS ys).length ≤ sizeLine → SOk (catS ys)
  | [], _, h => ⟨h, rfl⟩
  | y :: ys, h, hz => by
    have hz2 : (y ++ catS ys).length ≤ sizeLine := hz
    rw [str_len_append] at hz2
    exact sok_append hz2 (h y List.mem_cons_self) (catS_ok (fun z hh => h z (List.mem_cons_of_mem _ hh)) (by omega))
theorem E_fstr {e1 e2 : Expr} {ys : List Str} (h : FJ C env L (e1 :: e2 :: es) ys) (hz : (catS ys).length ≤ sizeLine) : E C env L (.JoinedStr (e1 :: e2 :: es) pos) ⟨catS ys⟩ := by
  obtain ⟨ts, pj, hq⟩ := h
  refine ⟨PE.imp (pe_joined pj) fun σ H Q ⟨F, s, q⟩ => ?_⟩
  have ee : Str.empty ++ catS ys = catS ys := PySem.Str.empty_append _
  refine hq Str.empty σ H (fun out H1 => Q (.str out) H1) F s (by rw [ee]; exact hz) fun F' H' x s' oks => ?_
  rw [ee]
  exact q _ F' H' x s' ⟨rfl, catS_ok oks hz⟩
theorem E_fmtS {y : Str} (h : E C env L e ⟨y⟩) : E C env L (.FormattedValue e (-1) none pos) ⟨y⟩ := ⟨PE.imp (pe_fmt h.p) fun σ H Q ⟨F, s, q⟩ => ⟨F, s, fun v F1 H1 x1 s1 rv => Or.inl ⟨y, rv.1, rv.2.le, q _ F1 H1 x1 s1 ⟨rfl, rv.2⟩⟩⟩⟩
theorem E_fmtI4 {m : Nat} (h : E C env L e ⟨(m : Int)⟩) (hm : m < 10 ^ 18) : E C env L (.FormattedValue e (-1) (some (.JoinedStr [.Constant (.str ">4") kk p1] p2)) pos) ⟨Txt.rjust (strI (m : Int)) 4⟩ := ⟨PE.imp (pe_fmtI4 h.p) fun σ H Q ⟨F, s, q⟩ => ⟨F, s, fun v F1 H1 x1 s1 rv => ⟨m, rv, hm, q _ F1 H1 x1 s1 ⟨rfl, rjust_ok (n := 4) (strI_ok _ (by have := strI_le (k := 18) (by decide) hm; rw [sizeLine_eq]; omega)) (by decide)⟩⟩⟩⟩
theorem E_fmtS8 {y : Str} (h : E C env L e ⟨y⟩) (hy : y.length ≤ 1000) : E C env L (.FormattedValue e (-1) (some (.JoinedStr [.Constant (.str "<8") kk p1] p2)) pos) ⟨Txt.ljust y 8⟩ := ⟨PE.imp (pe_fmtS8 h.p) fun σ H Q ⟨F, s, q⟩ => ⟨F, s, fun v F1 H1 x1 s1 rv => ⟨y, rv.1, hy, q _ F1 H1 x1 s1 ⟨rfl, ljust_ok (n := 8) rv.2 (by decide)⟩⟩⟩⟩
theorem cal_strI {X : Cx} {m : Nat} (hm : m < 10 ^ 18) : Cal X "str" [⟨(m : Int)⟩] ⟨strI (m : Int)⟩ := ⟨⟨_, _, call_str_int, boot_strx, Or.inr ⟨_, rfl⟩, fun F H vs Q e rv q => by
  obtain ⟨v, rfl, rfl⟩ := one_arg rv
  refine ⟨(m : Int), rfl, ?_, q _ F H (Gro.rf e) ⟨rfl, strI_ok _ (by have := strI_le (k := 18) (by decide) hm; rw [sizeLine_eq]; omega)⟩⟩
  have h2 : m < 2 ^ 1920 := Nat.lt_of_lt_of_le hm (by decide +kernel)
  show m.log2 < 1920
  by_cases z : m = 0
  · subst z; decide
  · exact (Nat.log2_lt z).mpr h2⟩⟩
/-- s.rjust(n), s.ljust(n) -/
theorem E_rjust {x : Str} {m : Nat} (ho : E C env L o ⟨x⟩) (he : E C env L e ⟨(m : Int)⟩) (hm : PadOk (m : Int) = true) (hz : m ≤ sizeLine) (hs : starEach [e] C.X.env = [(false, eval e C.X.env)] := by rfl) (hbase : attributeBase o "rjust" C.X.env (eval o C.X.env) = eval o C.X.env := by rfl) (hline : (apos.endLine == pos.line) = true := by rfl) : E C env L (.Call (.Attribute o "rjust" apos) [e] [] pos) ⟨Txt.rjust x (m : Int)⟩ :=
  ⟨PE.imp (pe_m1 PySem.F.slot_str_rjust PySem.F.type_str_rjust mt_rjust ho.p he.p hs hbase hline) fun σ H Q ⟨F, s, q⟩ => ⟨F, s, fun v F1 H1 x1 s1 rv => ⟨⟨x, rv.1⟩, F1, s1, fun w F2 H2 x2 s2 rw' => ⟨x, (m : Int), rv.1, by rw [show w = V.int (m : Int) from rw'], hm, q _ F2 H2 (x1.tr x2) s2 ⟨rfl, rjust_ok rv.2 hz⟩⟩⟩⟩⟩
theorem E_ljust {x : Str} {m : Nat} (ho : E C env L o ⟨x⟩) (he : E C env L e ⟨(m : Int)⟩) (hm : PadOk (m : Int) = true) (hz : m ≤ sizeLine) (hs : starEach [e] C.X.env = [(false, eval e C.X.env)] := by rfl) (hbase : attributeBase o "ljust" C.X.env (eval o C.X.env) = eval o C.X.env := by rfl) (hline : (apos.endLine == pos.line) = true := by rfl) : E C env L (.Call (.Attribute o "ljust" apos) [e] [] pos) ⟨Txt.ljust x (m : Int)⟩ :=
  ⟨PE.imp (pe_m1 PySem.F.slot_str_ljust PySem.F.type_str_ljust mt_ljust ho.p he.p hs hbase hline) fun σ H Q ⟨F, s, q⟩ => ⟨F, s, fun v F1 H1 x1 s1 rv => ⟨⟨x, rv.1⟩, F1, s1, fun w F2 H2 x2 s2 rw' => ⟨x, (m : Int), rv.1, by rw [show w = V.int (m : Int) from rw'], hm, q _ F2 H2 (x1.tr x2) s2 ⟨rfl, ljust_ok rv.2 hz⟩⟩⟩⟩⟩
end
end Py

namespace Py
open PySem PySem.Spec PyProof.Rows L2
/-! ### arguments that make cells -/
def eAM (C : Cz) (env : Env) (L : List Cell) (P : List Ent → List Cell → Prop) : TA := fun σ H Q => ∃ F, Sta C F env L σ H ∧ ∀ vs rs L' F' H', P rs L' → Ex F F' → Sta C F' env L' σ H' → Pr (fun v r => Ent.rp r C.X.K F' v) vs rs → Q vs H'
structure AM (C : Cz) (env : Env) (L : List Cell) (es : List Expr) (P : List Ent → List Cell → Prop) : Prop where
  p : PA C.X es (eAM C env L P)
section
variable {C : Cz} {k j n : Nat} {env : Env} {L LR : List Cell} {e a b o : Expr} {es : List Expr} {r r1 : Ent} {rs : List Ent} {pos p apos : Pos} {x : Str} {C0 : Addr} {PX : List Ent → List Cell → Prop} {P P' : Ent → List Cell → Prop}
theorem A.am (h : A C env L es rs) : AM C env L es (fun rs' L' => rs' = rs ∧ L' = L) := ⟨PA.imp h.p fun σ H Q ⟨F, s, q⟩ => ⟨F, s, fun vs F' H' x s' rv => q vs rs L F' H' ⟨rfl, rfl⟩ x.f s' rv⟩⟩
theorem AM.imp {P1 P2 : List Ent → List Cell → Prop} (h : AM C env L es P1) (i : ∀ rs L', P1 rs L' → P2 rs L') : AM C env L es P2 := ⟨PA.imp h.p fun σ H Q ⟨F, s, q⟩ => ⟨F, s, fun vs rs L' F' H' z => q vs rs L' F' H' (i _ _ z)⟩⟩
theorem AM_cons {P2 : Ent → List Cell → List Ent → List Cell → Prop} (he : EM C env L e P (fun _ _ _ => False)) (hr : ∀ r L', P r L' → AM C env L' es (P2 r L')) (hs : starEach (e :: es) C.X.env = (false, eval e C.X.env) :: starEach es C.X.env := by rfl) : AM C env L (e :: es) (fun rs L'' => ∃ r L' rs', P r L' ∧ P2 r L' rs' L'' ∧ rs = r :: rs') := by
  refine ⟨⟨fun pos pins s σ H Q I ⟨F, st, q⟩ => ?_⟩⟩
  rw [hs]
  show wpAny _ _ (spliced ((false, eval e C.X.env) :: backTo pos (starEach es C.X.env))) _ _ s
  refine Calls.spliced_cons (he.go I st fun u s1 v r L' F1 H1 I1 ru hp x1 st1 rv => ?_)
  exact thn ((hr r L' hp).p.run pos pins s1 σ H1 (fun vs H2 => Q (v :: vs) H2) I1 ⟨F1, st1, fun vs rs' L'' F2 H2 hp2 x2 st2 rvs => q _ _ L'' F2 H2 ⟨r, L', rs', hp, hp2, rfl⟩ (x1.tr x2) st2 (.cons (Ent.mono x2 rv) rvs)⟩) fun us s2 ⟨xs, H2, I2, r2, q2⟩ => ⟨v :: xs, H2, I2, .cons ru r2, q2⟩
/-- f(e, ..), the arguments make cells -/
theorem EM_callA.{u} {γ : Type u} {arg : γ → List Ent} {cel : γ → List Cell} {pre : γ → Prop} {post : γ → Ent → List Cell → Prop} (ok : C.Ok k) (Fn : Hs C.X.prog C.X.w C.X.K C.X.mg C.X.base j x (spM C.X.K arg cel pre post (fun _ _ _ _ => False))) (ha : AM C env L (e :: es) PX)
    (hh : ∀ rs L2, PX rs L2 → ∃ g LR, arg g = rs ∧ pre g ∧ L2.Perm (cel g ++ LR) ∧ ∀ r L1, post g r L1 → P' r (L1 ++ LR)) (hj : j ≤ k := by decide) (hg : Gl C.X x := by rfl)
    (hdb : (x == ("__debug__" : Str)) = false := by decide) (he : starEach (e :: es) C.X.env = (false, eval e C.X.env) :: starEach es C.X.env := by rfl) (hpl : (backTo pos (starEach es C.X.env)).any (·.1) = false := by rfl) :
    EM C env L (.Call (.Name x p) (e :: es) [] pos) P' (fun _ _ _ => False) := by
  obtain ⟨f, fd, ps, hm, hk, hb, F⟩ := Fn.h
  refine ⟨PE.imp (pe_callSD F (ok.room.mono hj) hg hm hk hb .nil (fun σ => passAt ok.tk σ) ha.p hdb he hpl) fun σ H Q ⟨F0, s, q1, q2⟩ => ⟨F0, s, fun vs rs L2 F' H' hp x1 s' rv => ?_⟩⟩
  obtain ⟨g, LR, rfl, hpre, hL, hpo⟩ := hh rs L2 hp
  have z := of_sp1 (post := post) (exc := fun _ _ _ _ => False) g hpre hL s' rv (Q := Q) (fun v r L' F2 H2 hp2 x2 s2 rr => q1 v r _ F2 H2 (hpo r L' hp2) (x1.tr x2) s2 rr) (fun cls d L' F2 H2 hx x2 s2 => hx.elim)
  show spM C.X.K arg cel pre post (fun _ _ _ _ => False) (vs ++ []) H' Q (WE C.W σ)
  rw [List.append_nil]
  exact z
/-- C(e, ..), the arguments make cells -/
theorem EM_makeA.{u} {δ : Type u} {arg : δ → List Ent} {cel : δ → List Cell} {pre : δ → Prop} {post : Addr → Addr → δ → Ent → List Cell → Prop} (ok : C.Ok k)
    (M : Mks C.X.prog C.X.w C.X.K C.X.mg C.X.base j C0 x (spM (γ := Addr × Addr × δ) C.X.K (fun g => ⟨(At.mk g.1)⟩ :: arg g.2.2) (fun g => Cell.obj g.1 C0 g.2.1 [] :: cel g.2.2) (fun g => pre g.2.2) (fun g => post g.1 g.2.1 g.2.2) (fun _ _ _ _ => False)))
    (hpo : ∀ p dx d r L', post p dx d r L' → r = ⟨()⟩) (ha : AM C env L (e :: es) PX) (hh : ∀ rs L2, PX rs L2 → ∃ d LR, arg d = rs ∧ pre d ∧ L2.Perm (cel d ++ LR) ∧ ∀ p dx L1, post p dx d ⟨()⟩ L1 → P' ⟨(At.mk p)⟩ (L1 ++ LR)) (hj : j + 1 ≤ k := by decide) (hg : Gl C.X x := by rfl)
    (hdb : (x == ("__debug__" : Str)) = false := by decide) (he : starEach (e :: es) C.X.env = (false, eval e C.X.env) :: starEach es C.X.env := by rfl) (hpl : (backTo pos (starEach es C.X.env)).any (·.1) = false := by rfl) :
    EM C env L (.Call (.Name x p) (e :: es) [] pos) P' (fun _ _ _ => False) := by
  obtain ⟨f, fd, ps, hM, hm, hb, F⟩ := M.h
  refine ⟨PE.imp (pe_makeS hM F (ok.room.mono hj) hg hm hb (fun σ => passAt ok.tk σ) ha.p hdb he hpl) fun σ H Q ⟨F0, s, q1, q2⟩ => ⟨F0, s, fun vs rs L2 F1 H1 hp x1 s1 rv xx dx h1 h2 h3 => ?_⟩⟩
  obtain ⟨d, LR, rfl, hpre, hL, hpost⟩ := hh rs L2 hp
  have o := s1.ow.made (C0 := C0) h1 h2 h3
  have s2 : Sta C F1 env (Cell.obj xx C0 dx [] :: L2) σ (upd (upd H1 dx (.own xx)) xx (.ins C0 dx [])) := ⟨s1.sl, o⟩
  refine of_sp1 (C := C) (env := env) (LR := LR) (xx, dx, d) hpre (hL.cons _) s2 (.cons (show Ent.rp ⟨(At.mk xx)⟩ _ _ _ from rfl) rv) (fun v r L' F' H' hp2 x2 s' rr => ?_) (fun cls dd L' F' H' hx x2 s' => hx.elim)
  have hr := hpo _ _ _ _ _ hp2
  subst hr
  exact ⟨rr, q1 (.ref xx) _ _ F' H' (hpost xx dx L' hp2) (x1.tr x2) s' rfl⟩
end
end Py

namespace Lw
open PySem PySem.Spec L2
open Py hiding Env
abbrev Env := Py.Env
def top (i : Nat) : Stmt := PySem.Challenge.pw_looksback_k23_block_text.main.body.getD i (.Pass ⟨0, 0, 0, 0⟩)
abbrev FnP (K : PySem.W.Frag) (x qual : Str) (st : Stmt) (f : Addr) (fd : FuncData) : Prop := FunD K x qual (defArgs st) (defBody st) (defScope st) [] [] f fd
abbrev d__wall : Stmt := top 0
abbrev n__wall : List Str := ["k"]
def dd__wall : He.DefD := ⟨("_wall", none), "_wall", "_wall", defArgs d__wall, defBody d__wall, defScope d__wall, [], []⟩
theorem bn__wall {K : PySem.W.Frag} {f : Addr} {fd : FuncData} (F : FnP K "_wall" "_wall" d__wall f fd) : Binds K fd ["k"] [] := F.bindsN fun _ _ _ _ _ _ us hl => match us, hl with | [_], _ => rfl
theorem sc__wall : FnScope n__wall ["k"] (defScope d__wall) := ⟨rfl, rfl, rfl, by decide +kernel, rfl, by decide +kernel, by decide +kernel⟩
abbrev d_NoSuchNode___init__ : Stmt := inClass (top 7) 0
abbrev n_NoSuchNode___init__ : List Str := ["self", "node"]
def dd_NoSuchNode___init__ : He.DefD := ⟨("NoSuchNode", some "__init__"), "__init__", "NoSuchNode.__init__", defArgs d_NoSuchNode___init__, defBody d_NoSuchNode___init__, defScope d_NoSuchNode___init__, [], []⟩
theorem bn_NoSuchNode___init__ {K : PySem.W.Frag} {f : Addr} {fd : FuncData} (F : FnP K "__init__" "NoSuchNode.__init__" d_NoSuchNode___init__ f fd) : Binds K fd ["self", "node"] [] := F.bindsN fun _ _ _ _ _ _ us hl => match us, hl with | [_, _], _ => rfl
abbrev d_NoSuchEdge___init__ : Stmt := inClass (top 8) 0
abbrev n_NoSuchEdge___init__ : List Str := ["self", "edge"]
def dd_NoSuchEdge___init__ : He.DefD := ⟨("NoSuchEdge", some "__init__"), "__init__", "NoSuchEdge.__init__", defArgs d_NoSuchEdge___init__, defBody d_NoSuchEdge___init__, defScope d_NoSuchEdge___init__, [], []⟩
theorem bn_NoSuchEdge___init__ {K : PySem.W.Frag} {f : Addr} {fd : FuncData} (F : FnP K "__init__" "NoSuchEdge.__init__" d_NoSuchEdge___init__ f fd) : Binds K fd ["self", "edge"] [] := F.bindsN fun _ _ _ _ _ _ us hl => match us, hl with | [_, _], _ => rfl
abbrev d_is_letter : Stmt := top 11
abbrev n_is_letter : List Str := ["char"]
def dd_is_letter : He.DefD := ⟨("is_letter", none), "is_letter", "is_letter", defArgs d_is_letter, defBody d_is_letter, defScope d_is_letter, [], []⟩
theorem bn_is_letter {K : PySem.W.Frag} {f : Addr} {fd : FuncData} (F : FnP K "is_letter" "is_letter" d_is_letter f fd) : Binds K fd ["char"] [] := F.bindsN fun _ _ _ _ _ _ us hl => match us, hl with | [_], _ => rfl
theorem sc_is_letter : FnScope n_is_letter ["char"] (defScope d_is_letter) := ⟨rfl, rfl, rfl, by decide +kernel, rfl, by decide +kernel, by decide +kernel⟩
abbrev d_is_label : Stmt := top 12
abbrev n_is_label : List Str := ["text", "char"]
def dd_is_label : He.DefD := ⟨("is_label", none), "is_label", "is_label", defArgs d_is_label, defBody d_is_label, defScope d_is_label, [], []⟩
theorem bn_is_label {K : PySem.W.Frag} {f : Addr} {fd : FuncData} (F : FnP K "is_label" "is_label" d_is_label f fd) : Binds K fd ["text"] [] := F.bindsN fun _ _ _ _ _ _ us hl => match us, hl with | [_], _ => rfl
theorem sc_is_label : FnScope n_is_label ["text"] (defScope d_is_label) := ⟨rfl, rfl, rfl, by decide +kernel, rfl, by decide +kernel, by decide +kernel⟩
abbrev d_with_node : Stmt := top 13
abbrev n_with_node : List Str := ["nodes", "node", "x"]
def dd_with_node : He.DefD := ⟨("with_node", none), "with_node", "with_node", defArgs d_with_node, defBody d_with_node, defScope d_with_node, [], []⟩
theorem bn_with_node {K : PySem.W.Frag} {f : Addr} {fd : FuncData} (F : FnP K "with_node" "with_node" d_with_node f fd) : Binds K fd ["nodes", "node"] [] := F.bindsN fun _ _ _ _ _ _ us hl => match us, hl with | [_, _], _ => rfl
theorem sc_with_node : FnScope n_with_node ["nodes", "node"] (defScope d_with_node) := ⟨rfl, rfl, rfl, by decide +kernel, rfl, by decide +kernel, by decide +kernel⟩
abbrev d_without_node : Stmt := top 14
abbrev n_without_node : List Str := ["nodes", "node", "x"]
def dd_without_node : He.DefD := ⟨("without_node", none), "without_node", "without_node", defArgs d_without_node, defBody d_without_node, defScope d_without_node, [], []⟩
theorem bn_without_node {K : PySem.W.Frag} {f : Addr} {fd : FuncData} (F : FnP K "without_node" "without_node" d_without_node f fd) : Binds K fd ["nodes", "node"] [] := F.bindsN fun _ _ _ _ _ _ us hl => match us, hl with | [_, _], _ => rfl
theorem sc_without_node : FnScope n_without_node ["nodes", "node"] (defScope d_without_node) := ⟨rfl, rfl, rfl, by decide +kernel, rfl, by decide +kernel, by decide +kernel⟩
abbrev d_Graph___init__ : Stmt := inClass (top 15) 1
abbrev n_Graph___init__ : List Str := ["self"]
def dd_Graph___init__ : He.DefD := ⟨("Graph", some "__init__"), "__init__", "Graph.__init__", defArgs d_Graph___init__, defBody d_Graph___init__, defScope d_Graph___init__, [], []⟩
theorem bn_Graph___init__ {K : PySem.W.Frag} {f : Addr} {fd : FuncData} (F : FnP K "__init__" "Graph.__init__" d_Graph___init__ f fd) : Binds K fd ["self"] [] := F.bindsN fun _ _ _ _ _ _ us hl => match us, hl with | [_], _ => rfl
theorem sc_Graph___init__ : FnScope n_Graph___init__ ["self"] (defScope d_Graph___init__) := ⟨rfl, rfl, rfl, by decide +kernel, rfl, by decide +kernel, by decide +kernel⟩
abbrev d_Graph___iter__ : Stmt := inClass (top 15) 2
abbrev n_Graph___iter__ : List Str := ["self"]
def dd_Graph___iter__ : He.DefD := ⟨("Graph", some "__iter__"), "__iter__", "Graph.__iter__", defArgs d_Graph___iter__, defBody d_Graph___iter__, defScope d_Graph___iter__, [], []⟩
theorem bn_Graph___iter__ {K : PySem.W.Frag} {f : Addr} {fd : FuncData} (F : FnP K "__iter__" "Graph.__iter__" d_Graph___iter__ f fd) : Binds K fd ["self"] [] := F.bindsN fun _ _ _ _ _ _ us hl => match us, hl with | [_], _ => rfl
theorem sc_Graph___iter__ : FnScope n_Graph___iter__ ["self"] (defScope d_Graph___iter__) := ⟨rfl, rfl, rfl, by decide +kernel, rfl, by decide +kernel, by decide +kernel⟩
abbrev d_Graph___len__ : Stmt := inClass (top 15) 3
abbrev n_Graph___len__ : List Str := ["self"]
def dd_Graph___len__ : He.DefD := ⟨("Graph", some "__len__"), "__len__", "Graph.__len__", defArgs d_Graph___len__, defBody d_Graph___len__, defScope d_Graph___len__, [], []⟩
theorem bn_Graph___len__ {K : PySem.W.Frag} {f : Addr} {fd : FuncData} (F : FnP K "__len__" "Graph.__len__" d_Graph___len__ f fd) : Binds K fd ["self"] [] := F.bindsN fun _ _ _ _ _ _ us hl => match us, hl with | [_], _ => rfl
theorem sc_Graph___len__ : FnScope n_Graph___len__ ["self"] (defScope d_Graph___len__) := ⟨rfl, rfl, rfl, by decide +kernel, rfl, by decide +kernel, by decide +kernel⟩
abbrev d_Graph___contains__ : Stmt := inClass (top 15) 4
abbrev n_Graph___contains__ : List Str := ["self", "node"]
def dd_Graph___contains__ : He.DefD := ⟨("Graph", some "__contains__"), "__contains__", "Graph.__contains__", defArgs d_Graph___contains__, defBody d_Graph___contains__, defScope d_Graph___contains__, [], []⟩
theorem bn_Graph___contains__ {K : PySem.W.Frag} {f : Addr} {fd : FuncData} (F : FnP K "__contains__" "Graph.__contains__" d_Graph___contains__ f fd) : Binds K fd ["self", "node"] [] := F.bindsN fun _ _ _ _ _ _ us hl => match us, hl with | [_, _], _ => rfl
theorem sc_Graph___contains__ : FnScope n_Graph___contains__ ["self", "node"] (defScope d_Graph___contains__) := ⟨rfl, rfl, rfl, by decide +kernel, rfl, by decide +kernel, by decide +kernel⟩
abbrev d_Graph___eq__ : Stmt := inClass (top 15) 5
abbrev n_Graph___eq__ : List Str := ["self", "other"]
def dd_Graph___eq__ : He.DefD := ⟨("Graph", some "__eq__"), "__eq__", "Graph.__eq__", defArgs d_Graph___eq__, defBody d_Graph___eq__, defScope d_Graph___eq__, [], []⟩
theorem bn_Graph___eq__ {K : PySem.W.Frag} {f : Addr} {fd : FuncData} (F : FnP K "__eq__" "Graph.__eq__" d_Graph___eq__ f fd) : Binds K fd ["self", "other"] [] := F.bindsN fun _ _ _ _ _ _ us hl => match us, hl with | [_, _], _ => rfl
theorem sc_Graph___eq__ : FnScope n_Graph___eq__ ["self", "other"] (defScope d_Graph___eq__) := ⟨rfl, rfl, rfl, by decide +kernel, rfl, by decide +kernel, by decide +kernel⟩
abbrev d_Graph___getitem__ : Stmt := inClass (top 15) 6
abbrev n_Graph___getitem__ : List Str := ["self", "node"]
def dd_Graph___getitem__ : He.DefD := ⟨("Graph", some "__getitem__"), "__getitem__", "Graph.__getitem__", defArgs d_Graph___getitem__, defBody d_Graph___getitem__, defScope d_Graph___getitem__, [], []⟩
theorem bn_Graph___getitem__ {K : PySem.W.Frag} {f : Addr} {fd : FuncData} (F : FnP K "__getitem__" "Graph.__getitem__" d_Graph___getitem__ f fd) : Binds K fd ["self", "node"] [] := F.bindsN fun _ _ _ _ _ _ us hl => match us, hl with | [_, _], _ => rfl
theorem sc_Graph___getitem__ : FnScope n_Graph___getitem__ ["self", "node"] (defScope d_Graph___getitem__) := ⟨rfl, rfl, rfl, by decide +kernel, rfl, by decide +kernel, by decide +kernel⟩
abbrev d_Graph___setitem__ : Stmt := inClass (top 15) 7
abbrev n_Graph___setitem__ : List Str := ["self", "node", "label"]
def dd_Graph___setitem__ : He.DefD := ⟨("Graph", some "__setitem__"), "__setitem__", "Graph.__setitem__", defArgs d_Graph___setitem__, defBody d_Graph___setitem__, defScope d_Graph___setitem__, [], []⟩
theorem bn_Graph___setitem__ {K : PySem.W.Frag} {f : Addr} {fd : FuncData} (F : FnP K "__setitem__" "Graph.__setitem__" d_Graph___setitem__ f fd) : Binds K fd ["self", "node", "label"] [] := F.bindsN fun _ _ _ _ _ _ us hl => match us, hl with | [_, _, _], _ => rfl
theorem sc_Graph___setitem__ : FnScope n_Graph___setitem__ ["self", "node", "label"] (defScope d_Graph___setitem__) := ⟨rfl, rfl, rfl, by decide +kernel, rfl, by decide +kernel, by decide +kernel⟩
abbrev d_Graph_must_have : Stmt := inClass (top 15) 8
abbrev n_Graph_must_have : List Str := ["self", "edge", "node"]
def dd_Graph_must_have : He.DefD := ⟨("Graph", some "must_have"), "must_have", "Graph.must_have", defArgs d_Graph_must_have, defBody d_Graph_must_have, defScope d_Graph_must_have, [], []⟩
theorem bn_Graph_must_have {K : PySem.W.Frag} {f : Addr} {fd : FuncData} (F : FnP K "must_have" "Graph.must_have" d_Graph_must_have f fd) : Binds K fd ["self", "edge"] [] := F.bindsN fun _ _ _ _ _ _ us hl => match us, hl with | [_, _], _ => rfl
theorem sc_Graph_must_have : FnScope n_Graph_must_have ["self", "edge"] (defScope d_Graph_must_have) := ⟨rfl, rfl, rfl, by decide +kernel, rfl, by decide +kernel, by decide +kernel⟩
abbrev d_Graph___iadd__ : Stmt := inClass (top 15) 9
abbrev n_Graph___iadd__ : List Str := ["self", "edge", "parent", "child"]
def dd_Graph___iadd__ : He.DefD := ⟨("Graph", some "__iadd__"), "__iadd__", "Graph.__iadd__", defArgs d_Graph___iadd__, defBody d_Graph___iadd__, defScope d_Graph___iadd__, [], []⟩
theorem bn_Graph___iadd__ {K : PySem.W.Frag} {f : Addr} {fd : FuncData} (F : FnP K "__iadd__" "Graph.__iadd__" d_Graph___iadd__ f fd) : Binds K fd ["self", "edge"] [] := F.bindsN fun _ _ _ _ _ _ us hl => match us, hl with | [_, _], _ => rfl
theorem sc_Graph___iadd__ : FnScope n_Graph___iadd__ ["self", "edge"] (defScope d_Graph___iadd__) := ⟨rfl, rfl, rfl, by decide +kernel, rfl, by decide +kernel, by decide +kernel⟩
abbrev d_Graph___isub__ : Stmt := inClass (top 15) 10
abbrev n_Graph___isub__ : List Str := ["self", "edge", "parent", "child"]
def dd_Graph___isub__ : He.DefD := ⟨("Graph", some "__isub__"), "__isub__", "Graph.__isub__", defArgs d_Graph___isub__, defBody d_Graph___isub__, defScope d_Graph___isub__, [], []⟩
theorem bn_Graph___isub__ {K : PySem.W.Frag} {f : Addr} {fd : FuncData} (F : FnP K "__isub__" "Graph.__isub__" d_Graph___isub__ f fd) : Binds K fd ["self", "edge"] [] := F.bindsN fun _ _ _ _ _ _ us hl => match us, hl with | [_, _], _ => rfl
theorem sc_Graph___isub__ : FnScope n_Graph___isub__ ["self", "edge"] (defScope d_Graph___isub__) := ⟨rfl, rfl, rfl, by decide +kernel, rfl, by decide +kernel, by decide +kernel⟩
abbrev d_Graph_strike : Stmt := inClass (top 15) 11
abbrev n_Graph_strike : List Str := ["self", "node"]
def dd_Graph_strike : He.DefD := ⟨("Graph", some "strike"), "strike", "Graph.strike", defArgs d_Graph_strike, defBody d_Graph_strike, defScope d_Graph_strike, [], []⟩
theorem bn_Graph_strike {K : PySem.W.Frag} {f : Addr} {fd : FuncData} (F : FnP K "strike" "Graph.strike" d_Graph_strike f fd) : Binds K fd ["self", "node"] [] := F.bindsN fun _ _ _ _ _ _ us hl => match us, hl with | [_, _], _ => rfl
theorem sc_Graph_strike : FnScope n_Graph_strike ["self", "node"] (defScope d_Graph_strike) := ⟨rfl, rfl, rfl, by decide +kernel, rfl, by decide +kernel, by decide +kernel⟩
abbrev d_Graph_parents : Stmt := inClass (top 15) 12
abbrev n_Graph_parents : List Str := ["self", "node"]
def dd_Graph_parents : He.DefD := ⟨("Graph", some "parents"), "parents", "Graph.parents", defArgs d_Graph_parents, defBody d_Graph_parents, defScope d_Graph_parents, [], []⟩
theorem bn_Graph_parents {K : PySem.W.Frag} {f : Addr} {fd : FuncData} (F : FnP K "parents" "Graph.parents" d_Graph_parents f fd) : Binds K fd ["self", "node"] [] := F.bindsN fun _ _ _ _ _ _ us hl => match us, hl with | [_, _], _ => rfl
theorem sc_Graph_parents : FnScope n_Graph_parents ["self", "node"] (defScope d_Graph_parents) := ⟨rfl, rfl, rfl, by decide +kernel, rfl, by decide +kernel, by decide +kernel⟩
abbrev d_Graph_children : Stmt := inClass (top 15) 13
abbrev n_Graph_children : List Str := ["self", "node"]
def dd_Graph_children : He.DefD := ⟨("Graph", some "children"), "children", "Graph.children", defArgs d_Graph_children, defBody d_Graph_children, defScope d_Graph_children, [], []⟩
theorem bn_Graph_children {K : PySem.W.Frag} {f : Addr} {fd : FuncData} (F : FnP K "children" "Graph.children" d_Graph_children f fd) : Binds K fd ["self", "node"] [] := F.bindsN fun _ _ _ _ _ _ us hl => match us, hl with | [_, _], _ => rfl
theorem sc_Graph_children : FnScope n_Graph_children ["self", "node"] (defScope d_Graph_children) := ⟨rfl, rfl, rfl, by decide +kernel, rfl, by decide +kernel, by decide +kernel⟩
abbrev d_Graph_edges : Stmt := inClass (top 15) 14
abbrev n_Graph_edges : List Str := ["self", "node", "child"]
def dd_Graph_edges : He.DefD := ⟨("Graph", some "edges"), "edges", "Graph.edges", defArgs d_Graph_edges, defBody d_Graph_edges, defScope d_Graph_edges, [], []⟩
theorem bn_Graph_edges {K : PySem.W.Frag} {f : Addr} {fd : FuncData} (F : FnP K "edges" "Graph.edges" d_Graph_edges f fd) : Binds K fd ["self"] [] := F.bindsN fun _ _ _ _ _ _ us hl => match us, hl with | [_], _ => rfl
abbrev d_Graph_copied : Stmt := inClass (top 15) 15
abbrev n_Graph_copied : List Str := ["self", "twin", "node"]
def dd_Graph_copied : He.DefD := ⟨("Graph", some "copied"), "copied", "Graph.copied", defArgs d_Graph_copied, defBody d_Graph_copied, defScope d_Graph_copied, [], []⟩
theorem bn_Graph_copied {K : PySem.W.Frag} {f : Addr} {fd : FuncData} (F : FnP K "copied" "Graph.copied" d_Graph_copied f fd) : Binds K fd ["self"] [] := F.bindsN fun _ _ _ _ _ _ us hl => match us, hl with | [_], _ => rfl
theorem sc_Graph_copied : FnScope n_Graph_copied ["self"] (defScope d_Graph_copied) := ⟨rfl, rfl, rfl, by decide +kernel, rfl, by decide +kernel, by decide +kernel⟩
abbrev d_Word___init__ : Stmt := inClass (top 18) 1
abbrev n_Word___init__ : List Str := ["self", "text", "letter"]
def dd_Word___init__ : He.DefD := ⟨("Word", some "__init__"), "__init__", "Word.__init__", defArgs d_Word___init__, defBody d_Word___init__, defScope d_Word___init__, [], []⟩
theorem bn_Word___init__ {K : PySem.W.Frag} {f : Addr} {fd : FuncData} (F : FnP K "__init__" "Word.__init__" d_Word___init__ f fd) : Binds K fd ["self", "text"] [] := F.bindsN fun _ _ _ _ _ _ us hl => match us, hl with | [_, _], _ => rfl
theorem sc_Word___init__ : FnScope n_Word___init__ ["self", "text"] (defScope d_Word___init__) := ⟨rfl, rfl, rfl, by decide +kernel, rfl, by decide +kernel, by decide +kernel⟩
abbrev d_Word___str__ : Stmt := inClass (top 18) 2
abbrev n_Word___str__ : List Str := ["self"]
def dd_Word___str__ : He.DefD := ⟨("Word", some "__str__"), "__str__", "Word.__str__", defArgs d_Word___str__, defBody d_Word___str__, defScope d_Word___str__, [], []⟩
theorem bn_Word___str__ {K : PySem.W.Frag} {f : Addr} {fd : FuncData} (F : FnP K "__str__" "Word.__str__" d_Word___str__ f fd) : Binds K fd ["self"] [] := F.bindsN fun _ _ _ _ _ _ us hl => match us, hl with | [_], _ => rfl
theorem sc_Word___str__ : FnScope n_Word___str__ ["self"] (defScope d_Word___str__) := ⟨rfl, rfl, rfl, by decide +kernel, rfl, by decide +kernel, by decide +kernel⟩
abbrev d_Word___len__ : Stmt := inClass (top 18) 3
abbrev n_Word___len__ : List Str := ["self"]
def dd_Word___len__ : He.DefD := ⟨("Word", some "__len__"), "__len__", "Word.__len__", defArgs d_Word___len__, defBody d_Word___len__, defScope d_Word___len__, [], []⟩
theorem bn_Word___len__ {K : PySem.W.Frag} {f : Addr} {fd : FuncData} (F : FnP K "__len__" "Word.__len__" d_Word___len__ f fd) : Binds K fd ["self"] [] := F.bindsN fun _ _ _ _ _ _ us hl => match us, hl with | [_], _ => rfl
theorem sc_Word___len__ : FnScope n_Word___len__ ["self"] (defScope d_Word___len__) := ⟨rfl, rfl, rfl, by decide +kernel, rfl, by decide +kernel, by decide +kernel⟩
abbrev d_Word___iter__ : Stmt := inClass (top 18) 4
abbrev n_Word___iter__ : List Str := ["self"]
def dd_Word___iter__ : He.DefD := ⟨("Word", some "__iter__"), "__iter__", "Word.__iter__", defArgs d_Word___iter__, defBody d_Word___iter__, defScope d_Word___iter__, [], []⟩
theorem bn_Word___iter__ {K : PySem.W.Frag} {f : Addr} {fd : FuncData} (F : FnP K "__iter__" "Word.__iter__" d_Word___iter__ f fd) : Binds K fd ["self"] [] := F.bindsN fun _ _ _ _ _ _ us hl => match us, hl with | [_], _ => rfl
theorem sc_Word___iter__ : FnScope n_Word___iter__ ["self"] (defScope d_Word___iter__) := ⟨rfl, rfl, rfl, by decide +kernel, rfl, by decide +kernel, by decide +kernel⟩
abbrev d_Word___getitem__ : Stmt := inClass (top 18) 5
abbrev n_Word___getitem__ : List Str := ["self", "at"]
def dd_Word___getitem__ : He.DefD := ⟨("Word", some "__getitem__"), "__getitem__", "Word.__getitem__", defArgs d_Word___getitem__, defBody d_Word___getitem__, defScope d_Word___getitem__, [], []⟩
theorem bn_Word___getitem__ {K : PySem.W.Frag} {f : Addr} {fd : FuncData} (F : FnP K "__getitem__" "Word.__getitem__" d_Word___getitem__ f fd) : Binds K fd ["self", "at"] [] := F.bindsN fun _ _ _ _ _ _ us hl => match us, hl with | [_, _], _ => rfl
theorem sc_Word___getitem__ : FnScope n_Word___getitem__ ["self", "at"] (defScope d_Word___getitem__) := ⟨rfl, rfl, rfl, by decide +kernel, rfl, by decide +kernel, by decide +kernel⟩
abbrev d_Word___eq__ : Stmt := inClass (top 18) 6
abbrev n_Word___eq__ : List Str := ["self", "other"]
def dd_Word___eq__ : He.DefD := ⟨("Word", some "__eq__"), "__eq__", "Word.__eq__", defArgs d_Word___eq__, defBody d_Word___eq__, defScope d_Word___eq__, [], []⟩
theorem bn_Word___eq__ {K : PySem.W.Frag} {f : Addr} {fd : FuncData} (F : FnP K "__eq__" "Word.__eq__" d_Word___eq__ f fd) : Binds K fd ["self", "other"] [] := F.bindsN fun _ _ _ _ _ _ us hl => match us, hl with | [_, _], _ => rfl
theorem sc_Word___eq__ : FnScope n_Word___eq__ ["self", "other"] (defScope d_Word___eq__) := ⟨rfl, rfl, rfl, by decide +kernel, rfl, by decide +kernel, by decide +kernel⟩
abbrev d_Word___le__ : Stmt := inClass (top 18) 7
abbrev n_Word___le__ : List Str := ["self", "other", "found", "letter"]
def dd_Word___le__ : He.DefD := ⟨("Word", some "__le__"), "__le__", "Word.__le__", defArgs d_Word___le__, defBody d_Word___le__, defScope d_Word___le__, [], []⟩
theorem bn_Word___le__ {K : PySem.W.Frag} {f : Addr} {fd : FuncData} (F : FnP K "__le__" "Word.__le__" d_Word___le__ f fd) : Binds K fd ["self", "other"] [] := F.bindsN fun _ _ _ _ _ _ us hl => match us, hl with | [_, _], _ => rfl
theorem sc_Word___le__ : FnScope n_Word___le__ ["self", "other"] (defScope d_Word___le__) := ⟨rfl, rfl, rfl, by decide +kernel, rfl, by decide +kernel, by decide +kernel⟩
abbrev d_Word___lt__ : Stmt := inClass (top 18) 8
abbrev n_Word___lt__ : List Str := ["self", "other"]
def dd_Word___lt__ : He.DefD := ⟨("Word", some "__lt__"), "__lt__", "Word.__lt__", defArgs d_Word___lt__, defBody d_Word___lt__, defScope d_Word___lt__, [], []⟩
theorem bn_Word___lt__ {K : PySem.W.Frag} {f : Addr} {fd : FuncData} (F : FnP K "__lt__" "Word.__lt__" d_Word___lt__ f fd) : Binds K fd ["self", "other"] [] := F.bindsN fun _ _ _ _ _ _ us hl => match us, hl with | [_, _], _ => rfl
theorem sc_Word___lt__ : FnScope n_Word___lt__ ["self", "other"] (defScope d_Word___lt__) := ⟨rfl, rfl, rfl, by decide +kernel, rfl, by decide +kernel, by decide +kernel⟩
abbrev d_Word___add__ : Stmt := inClass (top 18) 9
abbrev n_Word___add__ : List Str := ["self", "other"]
def dd_Word___add__ : He.DefD := ⟨("Word", some "__add__"), "__add__", "Word.__add__", defArgs d_Word___add__, defBody d_Word___add__, defScope d_Word___add__, [], []⟩
theorem bn_Word___add__ {K : PySem.W.Frag} {f : Addr} {fd : FuncData} (F : FnP K "__add__" "Word.__add__" d_Word___add__ f fd) : Binds K fd ["self", "other"] [] := F.bindsN fun _ _ _ _ _ _ us hl => match us, hl with | [_, _], _ => rfl
theorem sc_Word___add__ : FnScope n_Word___add__ ["self", "other"] (defScope d_Word___add__) := ⟨rfl, rfl, rfl, by decide +kernel, rfl, by decide +kernel, by decide +kernel⟩
abbrev d_numbered : Stmt := top 20
abbrev n_numbered : List Str := ["marks", "nodes", "known", "found", "node", "mark"]
def dd_numbered : He.DefD := ⟨("numbered", none), "numbered", "numbered", defArgs d_numbered, defBody d_numbered, defScope d_numbered, [], []⟩
theorem bn_numbered {K : PySem.W.Frag} {f : Addr} {fd : FuncData} (F : FnP K "numbered" "numbered" d_numbered f fd) : Binds K fd ["marks", "nodes"] [] := F.bindsN fun _ _ _ _ _ _ us hl => match us, hl with | [_, _], _ => rfl
theorem sc_numbered : FnScope n_numbered ["marks", "nodes"] (defScope d_numbered) := ⟨rfl, rfl, rfl, by decide +kernel, rfl, by decide +kernel, by decide +kernel⟩
abbrev d_seen : Stmt := top 21
abbrev n_seen : List Str := ["kinds", "nodes", "node"]
def dd_seen : He.DefD := ⟨("seen", none), "seen", "seen", defArgs d_seen, defBody d_seen, defScope d_seen, [], []⟩
theorem bn_seen {K : PySem.W.Frag} {f : Addr} {fd : FuncData} (F : FnP K "seen" "seen" d_seen f fd) : Binds K fd ["kinds", "nodes"] [] := F.bindsN fun _ _ _ _ _ _ us hl => match us, hl with | [_, _], _ => rfl
theorem sc_seen : FnScope n_seen ["kinds", "nodes"] (defScope d_seen) := ⟨rfl, rfl, rfl, by decide +kernel, rfl, by decide +kernel, by decide +kernel⟩
abbrev d_kinds_of : Stmt := top 22
abbrev n_kinds_of : List Str := ["graph", "word", "kinds", "letter", "near", "marks", "node"]
def dd_kinds_of : He.DefD := ⟨("kinds_of", none), "kinds_of", "kinds_of", defArgs d_kinds_of, defBody d_kinds_of, defScope d_kinds_of, [], []⟩
theorem bn_kinds_of {K : PySem.W.Frag} {f : Addr} {fd : FuncData} (F : FnP K "kinds_of" "kinds_of" d_kinds_of f fd) : Binds K fd ["graph", "word"] [] := F.bindsN fun _ _ _ _ _ _ us hl => match us, hl with | [_, _], _ => rfl
theorem sc_kinds_of : FnScope n_kinds_of ["graph", "word"] (defScope d_kinds_of) := ⟨rfl, rfl, rfl, by decide +kernel, rfl, by decide +kernel, by decide +kernel⟩
abbrev d_classes : Stmt := top 23
abbrev n_classes : List Str := ["graph", "word", "kinds", "groups", "node", "kind"]
def dd_classes : He.DefD := ⟨("classes", none), "classes", "classes", defArgs d_classes, defBody d_classes, defScope d_classes, [], []⟩
theorem bn_classes {K : PySem.W.Frag} {f : Addr} {fd : FuncData} (F : FnP K "classes" "classes" d_classes f fd) : Binds K fd ["graph", "word"] [] := F.bindsN fun _ _ _ _ _ _ us hl => match us, hl with | [_, _], _ => rfl
theorem sc_classes : FnScope n_classes ["graph", "word"] (defScope d_classes) := ⟨rfl, rfl, rfl, by decide +kernel, rfl, by decide +kernel, by decide +kernel⟩
abbrev d_Block___init__ : Stmt := inClass (top 24) 0
abbrev n_Block___init__ : List Str := ["self", "number", "label", "members"]
def dd_Block___init__ : He.DefD := ⟨("Block", some "__init__"), "__init__", "Block.__init__", defArgs d_Block___init__, defBody d_Block___init__, defScope d_Block___init__, [], []⟩
theorem bn_Block___init__ {K : PySem.W.Frag} {f : Addr} {fd : FuncData} (F : FnP K "__init__" "Block.__init__" d_Block___init__ f fd) : Binds K fd ["self", "number", "label", "members"] [] := F.bindsN fun _ _ _ _ _ _ us hl => match us, hl with | [_, _, _, _], _ => rfl
theorem sc_Block___init__ : FnScope n_Block___init__ ["self", "number", "label", "members"] (defScope d_Block___init__) := ⟨rfl, rfl, rfl, by decide +kernel, rfl, by decide +kernel, by decide +kernel⟩
abbrev d_Block___iter__ : Stmt := inClass (top 24) 1
abbrev n_Block___iter__ : List Str := ["self"]
def dd_Block___iter__ : He.DefD := ⟨("Block", some "__iter__"), "__iter__", "Block.__iter__", defArgs d_Block___iter__, defBody d_Block___iter__, defScope d_Block___iter__, [], []⟩
theorem bn_Block___iter__ {K : PySem.W.Frag} {f : Addr} {fd : FuncData} (F : FnP K "__iter__" "Block.__iter__" d_Block___iter__ f fd) : Binds K fd ["self"] [] := F.bindsN fun _ _ _ _ _ _ us hl => match us, hl with | [_], _ => rfl
theorem sc_Block___iter__ : FnScope n_Block___iter__ ["self"] (defScope d_Block___iter__) := ⟨rfl, rfl, rfl, by decide +kernel, rfl, by decide +kernel, by decide +kernel⟩
abbrev d_Block___len__ : Stmt := inClass (top 24) 2
abbrev n_Block___len__ : List Str := ["self"]
def dd_Block___len__ : He.DefD := ⟨("Block", some "__len__"), "__len__", "Block.__len__", defArgs d_Block___len__, defBody d_Block___len__, defScope d_Block___len__, [], []⟩
theorem bn_Block___len__ {K : PySem.W.Frag} {f : Addr} {fd : FuncData} (F : FnP K "__len__" "Block.__len__" d_Block___len__ f fd) : Binds K fd ["self"] [] := F.bindsN fun _ _ _ _ _ _ us hl => match us, hl with | [_], _ => rfl
theorem sc_Block___len__ : FnScope n_Block___len__ ["self"] (defScope d_Block___len__) := ⟨rfl, rfl, rfl, by decide +kernel, rfl, by decide +kernel, by decide +kernel⟩
abbrev d_Block___contains__ : Stmt := inClass (top 24) 3
abbrev n_Block___contains__ : List Str := ["self", "node"]
def dd_Block___contains__ : He.DefD := ⟨("Block", some "__contains__"), "__contains__", "Block.__contains__", defArgs d_Block___contains__, defBody d_Block___contains__, defScope d_Block___contains__, [], []⟩
theorem bn_Block___contains__ {K : PySem.W.Frag} {f : Addr} {fd : FuncData} (F : FnP K "__contains__" "Block.__contains__" d_Block___contains__ f fd) : Binds K fd ["self", "node"] [] := F.bindsN fun _ _ _ _ _ _ us hl => match us, hl with | [_, _], _ => rfl
theorem sc_Block___contains__ : FnScope n_Block___contains__ ["self", "node"] (defScope d_Block___contains__) := ⟨rfl, rfl, rfl, by decide +kernel, rfl, by decide +kernel, by decide +kernel⟩
abbrev d_Block___str__ : Stmt := inClass (top 24) 4
abbrev n_Block___str__ : List Str := ["self", "members", "node"]
def dd_Block___str__ : He.DefD := ⟨("Block", some "__str__"), "__str__", "Block.__str__", defArgs d_Block___str__, defBody d_Block___str__, defScope d_Block___str__, [], []⟩
theorem bn_Block___str__ {K : PySem.W.Frag} {f : Addr} {fd : FuncData} (F : FnP K "__str__" "Block.__str__" d_Block___str__ f fd) : Binds K fd ["self"] [] := F.bindsN fun _ _ _ _ _ _ us hl => match us, hl with | [_], _ => rfl
theorem sc_Block___str__ : FnScope n_Block___str__ ["self"] (defScope d_Block___str__) := ⟨rfl, rfl, rfl, by decide +kernel, rfl, by decide +kernel, by decide +kernel⟩
abbrev d_Index___init__ : Stmt := inClass (top 25) 0
abbrev n_Index___init__ : List Str := ["self", "graph", "word"]
def dd_Index___init__ : He.DefD := ⟨("Index", some "__init__"), "__init__", "Index.__init__", defArgs d_Index___init__, defBody d_Index___init__, defScope d_Index___init__, [], []⟩
theorem bn_Index___init__ {K : PySem.W.Frag} {f : Addr} {fd : FuncData} (F : FnP K "__init__" "Index.__init__" d_Index___init__ f fd) : Binds K fd ["self", "graph", "word"] [] := F.bindsN fun _ _ _ _ _ _ us hl => match us, hl with | [_, _, _], _ => rfl
theorem sc_Index___init__ : FnScope n_Index___init__ ["self", "graph", "word"] (defScope d_Index___init__) := ⟨rfl, rfl, rfl, by decide +kernel, rfl, by decide +kernel, by decide +kernel⟩
abbrev d_Index_renew : Stmt := inClass (top 25) 1
abbrev n_Index_renew : List Str := ["self", "old", "kept", "made", "members", "mark", "block", "node"]
def dd_Index_renew : He.DefD := ⟨("Index", some "renew"), "renew", "Index.renew", defArgs d_Index_renew, defBody d_Index_renew, defScope d_Index_renew, [], []⟩
theorem bn_Index_renew {K : PySem.W.Frag} {f : Addr} {fd : FuncData} (F : FnP K "renew" "Index.renew" d_Index_renew f fd) : Binds K fd ["self"] [] := F.bindsN fun _ _ _ _ _ _ us hl => match us, hl with | [_], _ => rfl
theorem sc_Index_renew : FnScope n_Index_renew ["self"] (defScope d_Index_renew) := ⟨rfl, rfl, rfl, by decide +kernel, rfl, by decide +kernel, by decide +kernel⟩
abbrev d_Index___iter__ : Stmt := inClass (top 25) 2
abbrev n_Index___iter__ : List Str := ["self"]
def dd_Index___iter__ : He.DefD := ⟨("Index", some "__iter__"), "__iter__", "Index.__iter__", defArgs d_Index___iter__, defBody d_Index___iter__, defScope d_Index___iter__, [], []⟩
theorem bn_Index___iter__ {K : PySem.W.Frag} {f : Addr} {fd : FuncData} (F : FnP K "__iter__" "Index.__iter__" d_Index___iter__ f fd) : Binds K fd ["self"] [] := F.bindsN fun _ _ _ _ _ _ us hl => match us, hl with | [_], _ => rfl
theorem sc_Index___iter__ : FnScope n_Index___iter__ ["self"] (defScope d_Index___iter__) := ⟨rfl, rfl, rfl, by decide +kernel, rfl, by decide +kernel, by decide +kernel⟩
abbrev d_Index___len__ : Stmt := inClass (top 25) 3
abbrev n_Index___len__ : List Str := ["self"]
def dd_Index___len__ : He.DefD := ⟨("Index", some "__len__"), "__len__", "Index.__len__", defArgs d_Index___len__, defBody d_Index___len__, defScope d_Index___len__, [], []⟩
theorem bn_Index___len__ {K : PySem.W.Frag} {f : Addr} {fd : FuncData} (F : FnP K "__len__" "Index.__len__" d_Index___len__ f fd) : Binds K fd ["self"] [] := F.bindsN fun _ _ _ _ _ _ us hl => match us, hl with | [_], _ => rfl
theorem sc_Index___len__ : FnScope n_Index___len__ ["self"] (defScope d_Index___len__) := ⟨rfl, rfl, rfl, by decide +kernel, rfl, by decide +kernel, by decide +kernel⟩
abbrev d_Index___contains__ : Stmt := inClass (top 25) 4
abbrev n_Index___contains__ : List Str := ["self", "node"]
def dd_Index___contains__ : He.DefD := ⟨("Index", some "__contains__"), "__contains__", "Index.__contains__", defArgs d_Index___contains__, defBody d_Index___contains__, defScope d_Index___contains__, [], []⟩
theorem bn_Index___contains__ {K : PySem.W.Frag} {f : Addr} {fd : FuncData} (F : FnP K "__contains__" "Index.__contains__" d_Index___contains__ f fd) : Binds K fd ["self", "node"] [] := F.bindsN fun _ _ _ _ _ _ us hl => match us, hl with | [_, _], _ => rfl
theorem sc_Index___contains__ : FnScope n_Index___contains__ ["self", "node"] (defScope d_Index___contains__) := ⟨rfl, rfl, rfl, by decide +kernel, rfl, by decide +kernel, by decide +kernel⟩
abbrev d_Index___getitem__ : Stmt := inClass (top 25) 5
abbrev n_Index___getitem__ : List Str := ["self", "node"]
def dd_Index___getitem__ : He.DefD := ⟨("Index", some "__getitem__"), "__getitem__", "Index.__getitem__", defArgs d_Index___getitem__, defBody d_Index___getitem__, defScope d_Index___getitem__, [], []⟩
theorem bn_Index___getitem__ {K : PySem.W.Frag} {f : Addr} {fd : FuncData} (F : FnP K "__getitem__" "Index.__getitem__" d_Index___getitem__ f fd) : Binds K fd ["self", "node"] [] := F.bindsN fun _ _ _ _ _ _ us hl => match us, hl with | [_, _], _ => rfl
theorem sc_Index___getitem__ : FnScope n_Index___getitem__ ["self", "node"] (defScope d_Index___getitem__) := ⟨rfl, rfl, rfl, by decide +kernel, rfl, by decide +kernel, by decide +kernel⟩
abbrev d_Index___setitem__ : Stmt := inClass (top 25) 6
abbrev n_Index___setitem__ : List Str := ["self", "node", "label"]
def dd_Index___setitem__ : He.DefD := ⟨("Index", some "__setitem__"), "__setitem__", "Index.__setitem__", defArgs d_Index___setitem__, defBody d_Index___setitem__, defScope d_Index___setitem__, [], []⟩
theorem bn_Index___setitem__ {K : PySem.W.Frag} {f : Addr} {fd : FuncData} (F : FnP K "__setitem__" "Index.__setitem__" d_Index___setitem__ f fd) : Binds K fd ["self", "node", "label"] [] := F.bindsN fun _ _ _ _ _ _ us hl => match us, hl with | [_, _, _], _ => rfl
theorem sc_Index___setitem__ : FnScope n_Index___setitem__ ["self", "node", "label"] (defScope d_Index___setitem__) := ⟨rfl, rfl, rfl, by decide +kernel, rfl, by decide +kernel, by decide +kernel⟩
abbrev d_Index___iadd__ : Stmt := inClass (top 25) 7
abbrev n_Index___iadd__ : List Str := ["self", "edge"]
def dd_Index___iadd__ : He.DefD := ⟨("Index", some "__iadd__"), "__iadd__", "Index.__iadd__", defArgs d_Index___iadd__, defBody d_Index___iadd__, defScope d_Index___iadd__, [], []⟩
theorem bn_Index___iadd__ {K : PySem.W.Frag} {f : Addr} {fd : FuncData} (F : FnP K "__iadd__" "Index.__iadd__" d_Index___iadd__ f fd) : Binds K fd ["self", "edge"] [] := F.bindsN fun _ _ _ _ _ _ us hl => match us, hl with | [_, _], _ => rfl
theorem sc_Index___iadd__ : FnScope n_Index___iadd__ ["self", "edge"] (defScope d_Index___iadd__) := ⟨rfl, rfl, rfl, by decide +kernel, rfl, by decide +kernel, by decide +kernel⟩
abbrev d_Index___isub__ : Stmt := inClass (top 25) 8
abbrev n_Index___isub__ : List Str := ["self", "edge"]
def dd_Index___isub__ : He.DefD := ⟨("Index", some "__isub__"), "__isub__", "Index.__isub__", defArgs d_Index___isub__, defBody d_Index___isub__, defScope d_Index___isub__, [], []⟩
theorem bn_Index___isub__ {K : PySem.W.Frag} {f : Addr} {fd : FuncData} (F : FnP K "__isub__" "Index.__isub__" d_Index___isub__ f fd) : Binds K fd ["self", "edge"] [] := F.bindsN fun _ _ _ _ _ _ us hl => match us, hl with | [_, _], _ => rfl
theorem sc_Index___isub__ : FnScope n_Index___isub__ ["self", "edge"] (defScope d_Index___isub__) := ⟨rfl, rfl, rfl, by decide +kernel, rfl, by decide +kernel, by decide +kernel⟩
abbrev d_Index_strike : Stmt := inClass (top 25) 9
abbrev n_Index_strike : List Str := ["self", "node"]
def dd_Index_strike : He.DefD := ⟨("Index", some "strike"), "strike", "Index.strike", defArgs d_Index_strike, defBody d_Index_strike, defScope d_Index_strike, [], []⟩
theorem bn_Index_strike {K : PySem.W.Frag} {f : Addr} {fd : FuncData} (F : FnP K "strike" "Index.strike" d_Index_strike f fd) : Binds K fd ["self", "node"] [] := F.bindsN fun _ _ _ _ _ _ us hl => match us, hl with | [_, _], _ => rfl
theorem sc_Index_strike : FnScope n_Index_strike ["self", "node"] (defScope d_Index_strike) := ⟨rfl, rfl, rfl, by decide +kernel, rfl, by decide +kernel, by decide +kernel⟩
abbrev d_Index_changed : Stmt := inClass (top 25) 10
abbrev n_Index_changed : List Str := ["self"]
def dd_Index_changed : He.DefD := ⟨("Index", some "changed"), "changed", "Index.changed", defArgs d_Index_changed, defBody d_Index_changed, defScope d_Index_changed, [], []⟩
theorem bn_Index_changed {K : PySem.W.Frag} {f : Addr} {fd : FuncData} (F : FnP K "changed" "Index.changed" d_Index_changed f fd) : Binds K fd ["self"] [] := F.bindsN fun _ _ _ _ _ _ us hl => match us, hl with | [_], _ => rfl
theorem sc_Index_changed : FnScope n_Index_changed ["self"] (defScope d_Index_changed) := ⟨rfl, rfl, rfl, by decide +kernel, rfl, by decide +kernel, by decide +kernel⟩
abbrev d_Index_links : Stmt := inClass (top 25) 11
abbrev n_Index_links : List Str := ["self"]
def dd_Index_links : He.DefD := ⟨("Index", some "links"), "links", "Index.links", defArgs d_Index_links, defBody d_Index_links, defScope d_Index_links, [], []⟩
theorem bn_Index_links {K : PySem.W.Frag} {f : Addr} {fd : FuncData} (F : FnP K "links" "Index.links" d_Index_links f fd) : Binds K fd ["self"] [] := F.bindsN fun _ _ _ _ _ _ us hl => match us, hl with | [_], _ => rfl
theorem sc_Index_links : FnScope n_Index_links ["self"] (defScope d_Index_links) := ⟨rfl, rfl, rfl, by decide +kernel, rfl, by decide +kernel, by decide +kernel⟩
abbrev d_Index_as_graph : Stmt := inClass (top 25) 12
abbrev n_Index_as_graph : List Str := ["self"]
def dd_Index_as_graph : He.DefD := ⟨("Index", some "as_graph"), "as_graph", "Index.as_graph", defArgs d_Index_as_graph, defBody d_Index_as_graph, defScope d_Index_as_graph, [], []⟩
theorem bn_Index_as_graph {K : PySem.W.Frag} {f : Addr} {fd : FuncData} (F : FnP K "as_graph" "Index.as_graph" d_Index_as_graph f fd) : Binds K fd ["self"] [] := F.bindsN fun _ _ _ _ _ _ us hl => match us, hl with | [_], _ => rfl
theorem sc_Index_as_graph : FnScope n_Index_as_graph ["self"] (defScope d_Index_as_graph) := ⟨rfl, rfl, rfl, by decide +kernel, rfl, by decide +kernel, by decide +kernel⟩
abbrev d_Index_ask : Stmt := inClass (top 25) 13
abbrev n_Index_ask : List Str := ["self", "question"]
def dd_Index_ask : He.DefD := ⟨("Index", some "ask"), "ask", "Index.ask", defArgs d_Index_ask, defBody d_Index_ask, defScope d_Index_ask, [], []⟩
theorem bn_Index_ask {K : PySem.W.Frag} {f : Addr} {fd : FuncData} (F : FnP K "ask" "Index.ask" d_Index_ask f fd) : Binds K fd ["self", "question"] [] := F.bindsN fun _ _ _ _ _ _ us hl => match us, hl with | [_, _], _ => rfl
theorem sc_Index_ask : FnScope n_Index_ask ["self", "question"] (defScope d_Index_ask) := ⟨rfl, rfl, rfl, by decide +kernel, rfl, by decide +kernel, by decide +kernel⟩
abbrev d_Index_settle : Stmt := inClass (top 25) 14
abbrev n_Index_settle : List Str := ["self", "question"]
def dd_Index_settle : He.DefD := ⟨("Index", some "settle"), "settle", "Index.settle", defArgs d_Index_settle, defBody d_Index_settle, defScope d_Index_settle, [], []⟩
theorem bn_Index_settle {K : PySem.W.Frag} {f : Addr} {fd : FuncData} (F : FnP K "settle" "Index.settle" d_Index_settle f fd) : Binds K fd ["self", "question"] [] := F.bindsN fun _ _ _ _ _ _ us hl => match us, hl with | [_, _], _ => rfl
theorem sc_Index_settle : FnScope n_Index_settle ["self", "question"] (defScope d_Index_settle) := ⟨rfl, rfl, rfl, by decide +kernel, rfl, by decide +kernel, by decide +kernel⟩
abbrev d__law_cell : Stmt := top 27
abbrev n__law_cell : List Str := ["_law_script", "_law_k"]
def dd__law_cell : He.DefD := ⟨("_law_cell", none), "_law_cell", "_law_cell", defArgs d__law_cell, defBody d__law_cell, defScope d__law_cell, [], []⟩
theorem bn__law_cell {K : PySem.W.Frag} {f : Addr} {fd : FuncData} (F : FnP K "_law_cell" "_law_cell" d__law_cell f fd) : Binds K fd ["_law_script", "_law_k"] [] := F.bindsN fun _ _ _ _ _ _ us hl => match us, hl with | [_, _], _ => rfl
theorem sc__law_cell : FnScope n__law_cell ["_law_script", "_law_k"] (defScope d__law_cell) := ⟨rfl, rfl, rfl, by decide +kernel, rfl, by decide +kernel, by decide +kernel⟩
abbrev d__law_row : Stmt := top 28
abbrev n__law_row : List Str := ["_law_cell_here", "_law_count", "_law_row_here", "_law_left", "_law_great", "_law_k", "_law_mixed"]
def dd__law_row : He.DefD := ⟨("_law_row", none), "_law_row", "_law_row", defArgs d__law_row, defBody d__law_row, defScope d__law_row, [], []⟩
theorem bn__law_row {K : PySem.W.Frag} {f : Addr} {fd : FuncData} (F : FnP K "_law_row" "_law_row" d__law_row f fd) : Binds K fd ["_law_cell_here", "_law_count"] [] := F.bindsN fun _ _ _ _ _ _ us hl => match us, hl with | [_, _], _ => rfl
theorem sc__law_row : FnScope n__law_row ["_law_cell_here", "_law_count"] (defScope d__law_row) := ⟨rfl, rfl, rfl, by decide +kernel, rfl, by decide +kernel, by decide +kernel⟩
abbrev d__law_names : Stmt := top 29
abbrev n__law_names : List Str := ["_law_draw", "_law_long", "_law_place", "_law_x"]
def dd__law_names : He.DefD := ⟨("_law_names", none), "_law_names", "_law_names", defArgs d__law_names, defBody d__law_names, defScope d__law_names, [], []⟩
theorem bn__law_names {K : PySem.W.Frag} {f : Addr} {fd : FuncData} (F : FnP K "_law_names" "_law_names" d__law_names f fd) : Binds K fd ["_law_draw"] [] := F.bindsN fun _ _ _ _ _ _ us hl => match us, hl with | [_], _ => rfl
theorem sc__law_names : FnScope n__law_names ["_law_draw"] (defScope d__law_names) := ⟨rfl, rfl, rfl, by decide +kernel, rfl, by decide +kernel, by decide +kernel⟩
abbrev d__law_graph : Stmt := top 30
abbrev n__law_graph : List Str := ["_law_cell_here", "_law_most", "_law_names_here", "_law_row_here", "_law_count", "_law_bits", "_law_many", "_law_style", "_law_spread", "_law_numbers", "_law_labels", "_law_net", "_law_a", "_law_masks", "_law_b", "_law_x"]
def dd__law_graph : He.DefD := ⟨("_law_graph", none), "_law_graph", "_law_graph", defArgs d__law_graph, defBody d__law_graph, defScope d__law_graph, [], []⟩
theorem bn__law_graph {K : PySem.W.Frag} {f : Addr} {fd : FuncData} (F : FnP K "_law_graph" "_law_graph" d__law_graph f fd) : Binds K fd ["_law_cell_here", "_law_most", "_law_names_here"] [] := F.bindsN fun _ _ _ _ _ _ us hl => match us, hl with | [_, _, _], _ => rfl
theorem sc__law_graph : FnScope n__law_graph ["_law_cell_here", "_law_most", "_law_names_here"] (defScope d__law_graph) := ⟨rfl, rfl, rfl, by decide +kernel, rfl, by decide +kernel, by decide +kernel⟩
abbrev d__law_wide : Stmt := top 31
abbrev n__law_wide : List Str := ["_law_cell_here", "_law_names_here", "_law_row_here", "_law_count", "_law_many", "_law_labels", "_law_net", "_law_a", "_law_to", "_law_b"]
def dd__law_wide : He.DefD := ⟨("_law_wide", none), "_law_wide", "_law_wide", defArgs d__law_wide, defBody d__law_wide, defScope d__law_wide, [], []⟩
theorem bn__law_wide {K : PySem.W.Frag} {f : Addr} {fd : FuncData} (F : FnP K "_law_wide" "_law_wide" d__law_wide f fd) : Binds K fd ["_law_cell_here", "_law_names_here"] [] := F.bindsN fun _ _ _ _ _ _ us hl => match us, hl with | [_, _], _ => rfl
theorem sc__law_wide : FnScope n__law_wide ["_law_cell_here", "_law_names_here"] (defScope d__law_wide) := ⟨rfl, rfl, rfl, by decide +kernel, rfl, by decide +kernel, by decide +kernel⟩
abbrev d__law_any_graph : Stmt := top 32
abbrev n__law_any_graph : List Str := ["_law_script", "_law_k", "_law_names_here"]
def dd__law_any_graph : He.DefD := ⟨("_law_any_graph", none), "_law_any_graph", "_law_any_graph", defArgs d__law_any_graph, defBody d__law_any_graph, defScope d__law_any_graph, [], []⟩
theorem bn__law_any_graph {K : PySem.W.Frag} {f : Addr} {fd : FuncData} (F : FnP K "_law_any_graph" "_law_any_graph" d__law_any_graph f fd) : Binds K fd ["_law_script", "_law_k", "_law_names_here"] [] := F.bindsN fun _ _ _ _ _ _ us hl => match us, hl with | [_, _, _], _ => rfl
theorem sc__law_any_graph : FnScope n__law_any_graph ["_law_script", "_law_k", "_law_names_here"] (defScope d__law_any_graph) := ⟨rfl, rfl, rfl, by decide +kernel, rfl, by decide +kernel, by decide +kernel⟩
abbrev d__law_made : Stmt := top 33
abbrev n__law_made : List Str := ["_law_numbers", "_law_labels", "_law_net", "_law_graph_here", "_law_a", "_law_b"]
def dd__law_made : He.DefD := ⟨("_law_made", none), "_law_made", "_law_made", defArgs d__law_made, defBody d__law_made, defScope d__law_made, [], []⟩
theorem bn__law_made {K : PySem.W.Frag} {f : Addr} {fd : FuncData} (F : FnP K "_law_made" "_law_made" d__law_made f fd) : Binds K fd ["_law_numbers", "_law_labels", "_law_net"] [] := F.bindsN fun _ _ _ _ _ _ us hl => match us, hl with | [_, _, _], _ => rfl
theorem sc__law_made : FnScope n__law_made ["_law_numbers", "_law_labels", "_law_net"] (defScope d__law_made) := ⟨rfl, rfl, rfl, by decide +kernel, rfl, by decide +kernel, by decide +kernel⟩
abbrev d__law_word : Stmt := top 34
abbrev n__law_word : List Str := ["_law_cell_here", "_law_most", "_law_row_here", "_law_text", "_law_k"]
def dd__law_word : He.DefD := ⟨("_law_word", none), "_law_word", "_law_word", defArgs d__law_word, defBody d__law_word, defScope d__law_word, [], []⟩
theorem bn__law_word {K : PySem.W.Frag} {f : Addr} {fd : FuncData} (F : FnP K "_law_word" "_law_word" d__law_word f fd) : Binds K fd ["_law_cell_here", "_law_most"] [] := F.bindsN fun _ _ _ _ _ _ us hl => match us, hl with | [_, _], _ => rfl
theorem sc__law_word : FnScope n__law_word ["_law_cell_here", "_law_most"] (defScope d__law_word) := ⟨rfl, rfl, rfl, by decide +kernel, rfl, by decide +kernel, by decide +kernel⟩
abbrev d__law_kinds : Stmt := top 35
abbrev n__law_kinds : List Str := ["_law_labels", "_law_net", "_law_text", "_law_kinds_here", "_law_letter", "_law_marks", "_law_v", "_law_near", "_law_met", "_law_x", "_law_u", "_law_k"]
def dd__law_kinds : He.DefD := ⟨("_law_kinds", none), "_law_kinds", "_law_kinds", defArgs d__law_kinds, defBody d__law_kinds, defScope d__law_kinds, [], []⟩
theorem bn__law_kinds {K : PySem.W.Frag} {f : Addr} {fd : FuncData} (F : FnP K "_law_kinds" "_law_kinds" d__law_kinds f fd) : Binds K fd ["_law_labels", "_law_net", "_law_text"] [] := F.bindsN fun _ _ _ _ _ _ us hl => match us, hl with | [_, _, _], _ => rfl
theorem sc__law_kinds : FnScope n__law_kinds ["_law_labels", "_law_net", "_law_text"] (defScope d__law_kinds) := ⟨rfl, rfl, rfl, by decide +kernel, rfl, by decide +kernel, by decide +kernel⟩
abbrev d__law_groups : Stmt := top 36
abbrev n__law_groups : List Str := ["_law_drawn", "_law_kinds_here", "_law_met", "_law_groups_here", "_law_x", "_law_kind", "_law_n"]
def dd__law_groups : He.DefD := ⟨("_law_groups", none), "_law_groups", "_law_groups", defArgs d__law_groups, defBody d__law_groups, defScope d__law_groups, [], []⟩
theorem bn__law_groups {K : PySem.W.Frag} {f : Addr} {fd : FuncData} (F : FnP K "_law_groups" "_law_groups" d__law_groups f fd) : Binds K fd ["_law_drawn", "_law_kinds_here"] [] := F.bindsN fun _ _ _ _ _ _ us hl => match us, hl with | [_, _], _ => rfl
theorem sc__law_groups : FnScope n__law_groups ["_law_drawn", "_law_kinds_here"] (defScope d__law_groups) := ⟨rfl, rfl, rfl, by decide +kernel, rfl, by decide +kernel, by decide +kernel⟩
abbrev d_law : Stmt := top 37
abbrev n_law : List Str := ["_law_script", "_law_names_here", "_law_drawn", "_law_text", "_law_groups_here", "_law_index", "_law_lines", "_law_k", "_law_label", "_law_members", "_law_told", "_law_x", "_law_block"]
def dd_law : He.DefD := ⟨("law", none), "law", "law", defArgs d_law, defBody d_law, defScope d_law, [], []⟩
theorem bn_law {K : PySem.W.Frag} {f : Addr} {fd : FuncData} (F : FnP K "law" "law" d_law f fd) : Binds K fd ["_law_script"] [] := F.bindsN fun _ _ _ _ _ _ us hl => match us, hl with | [_], _ => rfl
theorem sc_law : FnScope n_law ["_law_script"] (defScope d_law) := ⟨rfl, rfl, rfl, by decide +kernel, rfl, by decide +kernel, by decide +kernel⟩
def cellF (ns : List Int) (i : Nat) : Int := ns.getD i 0
theorem at_row {ns : List Int} {j : Int} (h0 : 0 ≤ j) (h : j < (ns.length : Int)) : atI ns j = some (cellF ns j.toNat) := by
  have hi : j.toNat < ns.length := by omega
  exact atI_nat' h0 (by simp [cellF, hi])
def spCell (K : PySem.W.Frag) : Sp := spF (γ := List Int × Nat) K (fun g => [⟨(Scr.mk g.1)⟩, ⟨(g.2 : Int)⟩]) (fun _ => True) (fun g => ⟨cellF g.1 g.2⟩)
section
variable {P : Program} {w : World} {K : PySem.W.Frag} {mg : Str → Option Value} {base : Heap} {f : Addr} {fd : FuncData}
theorem ok_law_cell (F : FnP K "_law_cell" "_law_cell" d__law_cell f fd) (hlen : mg "len" = none) : FnOk P w K mg base (L2.CX P w) 2 f fd ["_law_script", "_law_k"]
    (spCell K) := by
  refine fn_spM F sc__law_cell (fun _ => rfl) ?_
  rintro ⟨ns, i⟩ _ cdv A outer s H E R C ok
  show S _ [some ⟨(Scr.mk ns)⟩, some ⟨(i : Int)⟩] _ _ _
  refine S_if (T_cmp (E_var 1) (E_biR calR_len (E_var 0).scr hlen) cmp_ltI (nomark _)) (fun h => ?_) (fun h => ?_)
  · have h := of_decide_eq_true h
    have hi : i < ns.length := by omega
    exact S_ret (E_ix (E_var 0).scr (E_var 1) (atI_nat' (by omega) (a := ns[i]) (by simp [hi]))) ⟨by simp [cellF, hi], rfl⟩
  · have h := of_decide_eq_false h
    have hi : ns.length ≤ i := by omega
    exact S_nil (S_ret E_int ⟨by simp [cellF, hi], rfl⟩)
/-! the row of drawn numbers -/
def absI (c : Int) : Int := if c < 0 then -c else c
def mixF (c : Int) (k : Nat) : Int := ((((absI c * 48271 + ((k : Int) + 1) * 69621) % 2147483647) * ((absI c * 48271 + ((k : Int) + 1) * 69621) % 2147483647) + (k : Int) * 40692 + 13) % 2147483399) / 7 % 1000
def rowS (c : Int) : Nat → List Int × Int
  | 0 => ([], absI c)
  | k + 1 => if (decide ((10 : Int) ^ 18 ≤ absI c) && decide (0 < (rowS c k).2)) = true then ((rowS c k).1 ++ [(rowS c k).2 % 1000], (rowS c k).2 / 1000) else ((rowS c k).1 ++ [mixF c k], (rowS c k).2)
def rowF (c : Int) (n : Nat) : List Int := (rowS c n).1
def spRow (K : PySem.W.Frag) : Sp := spF (γ := Int × Nat) K (fun g => [⟨g.1⟩, ⟨(g.2 : Int)⟩]) (fun g => g.2 ≤ 1000) (fun g => ⟨rowF g.1 g.2⟩)
theorem rowS_len (c : Int) : ∀ n, (rowS c n).1.length = n
  | 0 => rfl
  | k + 1 => by unfold rowS; split <;> simp [rowS_len c k]
theorem rowF_len (c : Int) (n : Nat) : (rowF c n).length = n := rowS_len c n
theorem ok_law_row (F : FnP K "_law_row" "_law_row" d__law_row f fd) (habs : mg "abs" = none) (hrange : mg "range" = none) (hint : mg "int" = none) : FnOk P w K mg base (L2.CX P w) 2 f fd ["_law_cell_here", "_law_count"]
    (spRow K) := by
  refine fn_spM F sc__law_row (fun _ => rfl) ?_
  rintro ⟨c, n⟩ hn cdv A outer s H E R C ok
  have hn : n ≤ 1000 := hn
  show S _ [some ⟨c⟩, some ⟨(n : Int)⟩, none, none, none, none, none] _ _ _
  refine S_newL 2 ([] : List Int) ok.nd A_nil (fun l => ?_)
  refine S_set 3 ok.nd (E_bi cal_abs (A_cons (E_var 0) A_nil) habs) ?_
  refine S_set 4 ok.nd (E_cmp (E_var 3) (E_bin E_int E_int (bin_powI ⟨by decide, by decide, by decide⟩)) cmp_geI (nomark _)) ?_
  refine S_for ok (fun i env L => ∃ m : Option Ent, ∃ o : Option Ent, env = [some ⟨c⟩, some ⟨(n : Int)⟩, some ⟨(At.mk l)⟩, some ⟨(rowS c i).2⟩, some ⟨decide ((10 : Int) ^ 18 ≤ absI c)⟩, o, m] ∧ L = [Cell.lst l (rowS c i).1]) (EI_rng1 (E_var 1) hrange (by omega)) ⟨none, none, rfl, rfl⟩ ?_ ?_
  · rintro i a env' L' ha ⟨m, o, rfl, rfl⟩
    obtain ⟨hi, rfl⟩ := rng0_of ha
    refine ⟨_, _, G_name 5 ok.nd, ?_⟩
    refine S_if (T_w (T_and (T_val (E_var 4)) (fun _ => T_and1 (T_cmp (E_var 3) E_int cmp_gtI (nomark _))))) (fun h => ?_) (fun h => ?_)
    · refine S_app 0 (E_var 2) (E_bin (E_bi cal_intI (A_cons (E_var 3) A_nil) hint) E_int (bin_modI (by decide))) rfl (by rw [rowS_len, sizeLine_eq]; omega) ?_
      refine S_set 3 ok.nd (E_bin (E_var 3) E_int (bin_fdivI (by decide))) ?_
      have e : rowS c (i + 1) = ((rowS c i).1 ++ [(rowS c i).2 % 1000], (rowS c i).2 / 1000) := by rw [rowS, if_pos h]
      refine S_nil (S_nil ?_)
      simp only [e]
      exact ⟨_, _, rfl, rfl⟩
    · refine S_set 6 ok.nd (E_bin (E_bi cal_intI (A_cons (E_bin (E_bin (E_bi cal_abs (A_cons (E_var 0) A_nil) habs) E_int (bin_mulI (by unfold CMul; omega))) (E_bin (E_bin (E_var 5) E_int bin_addI) E_int (bin_mulI (by unfold CMul; omega))) bin_addI) A_nil) hint) E_int (bin_modI (by decide))) ?_
      refine S_set 6 ok.nd (E_bin (E_bi cal_intI (A_cons (E_bin (E_bin (E_bin (E_var 6) (E_var 6) (bin_mulI (by unfold CMul; omega))) (E_bin (E_var 5) E_int (bin_mulI (by unfold CMul; omega))) bin_addI) E_int bin_addI) A_nil) hint) E_int (bin_modI (by decide))) ?_
      refine S_app 0 (E_var 2) (E_bin (E_bi cal_intI (A_cons (E_bin (E_var 6) E_int (bin_fdivI (by decide))) A_nil) hint) E_int (bin_modI (by decide))) rfl (by rw [rowS_len, sizeLine_eq]; omega) ?_
      have e : rowS c (i + 1) = ((rowS c i).1 ++ [mixF c i], (rowS c i).2) := by rw [rowS, if_neg (by rw [h]; decide)]
      refine S_nil (S_nil ?_)
      simp only [e]
      exact ⟨_, _, rfl, rfl⟩
  · rintro env' L' ⟨m, o, rfl, rfl⟩
    rw [rng_len, Int.toNat_natCast]
    refine S_frz 2 0 rfl rfl ?_
    exact S_ret (E_var 2) ⟨rfl, rfl⟩
end

def spTruth (K : PySem.W.Frag) : Sp := spF (γ := Bool × Bool) K (fun g => [⟨g.1⟩, ⟨g.2⟩]) (fun _ => True) (fun g => ⟨(g.1 == g.2)⟩)
section
variable {P : Program} {w : World} {K : PySem.W.Frag} {mg : Str → Option Value} {base : Heap} {f : Addr} {fd : FuncData}
end

/-! ### words -/
def okC (c : Nat) : Bool := c == 68 || c == 85
def okW (t : Str) : Bool := t.cps.toList.all okC
structure Wd where
  t : Str
instance : Rep Wd := ⟨fun K F v w => ∃ p dx r, v = .ref p ∧ F p = some (.ins (He.ga K "Word") dx [("rows", .ref r)]) ∧ F r = some (.lst ((signs w.t).map V.str)) ∧ okW w.t = true ∧ w.t.length ≤ 12, fun e ⟨p, dx, r, h1, h2, h3, h4⟩ => ⟨p, dx, r, h1, e _ _ h2, e _ _ h3, h4⟩⟩
structure WordT (K : PySem.W.Frag) (mg : Str → Option Value) : Prop where
  cl : Cls K (He.ga K "Word")
  na : NoAttr K (He.ga K "Word") "rows"
  gW : mg "Word" = some (.ref (He.ga K "Word"))
  gS : mg "STEPS" = some (.ref (He.ga K "STEPS"))
  st : ∀ H, SqT K H (He.ga K "STEPS") ([("D" : Str), "U"].map V.str)
  cr : ∃ mc, ClX.CRead K (He.ga K "Word") mc ∧ ∃ u, ClX.CVal K (He.ga K "Word") mc "LONGEST" (.int 12) u
  ic : C8.InsC K (He.ga K "Word")
  sf : PySem.W.selfFirst K (He.ga K "Word") = true
  bw : ExcT K mg "BadWord" (He.ga K "BadWord")
  len : mg "len" = none
  list : mg "list" = none
  isi : mg "isinstance" = none
  str : mg "str" = none
theorem sign_in (c : Nat) : decide ((⟨#[c]⟩ : Str) ∈ [("D" : Str), "U"]) = okC c := by
  have h1 : ("D" : Str) = ⟨#[68]⟩ := by decide +kernel
  have h2 : ("U" : Str) = ⟨#[85]⟩ := by decide +kernel
  rw [h1, h2]
  unfold okC
  by_cases a : c = 68
  · subst a; simp
  · by_cases b : c = 85
    · subst b; simp
    · have e1 : (⟨#[c]⟩ : Str) ≠ ⟨#[68]⟩ := fun e => a (by injection e with e; simpa using e)
      have e2 : (⟨#[c]⟩ : Str) ≠ ⟨#[85]⟩ := fun e => b (by injection e with e; simpa using e)
      simp [a, b, e1, e2]
theorem signs_get {t : Str} {i : Nat} {a : Str} (h : (signs t)[i]? = some a) : ∃ c, t.cps.toList[i]? = some c ∧ a = ⟨#[c]⟩ := by
  unfold signs at h
  rw [List.getElem?_map] at h
  cases q : t.cps.toList[i]? with
  | none => rw [q] at h; cases h
  | some c => rw [q] at h; exact ⟨c, rfl, (Option.some.inj h).symm⟩
theorem signs_len (t : Str) : (signs t).length = t.length := by unfold signs; rw [List.length_map, Array.length_toList]; rfl
theorem okC_lt {c : Nat} (h : okC c = true) : c < 0x110000 := by
  unfold okC at h
  simp at h
  omega
theorem sok_W {t : Str} (h : okW t = true) (hl : t.length ≤ 12) : SOk t := ⟨Nat.le_trans hl (by decide), List.all_eq_true.mpr fun c hc => decide_eq_true (okC_lt (List.all_eq_true.mp h c hc))⟩
theorem sok_steps : ∀ z ∈ [("D" : Str), "U"], SOk z := fun z hz => by
  rcases List.mem_cons.mp hz with rfl | hz
  · exact ⟨by decide, by decide +kernel⟩
  · rw [List.mem_singleton.mp hz]; exact ⟨by decide, by decide +kernel⟩
theorem isI_Wd {K : PySem.W.Frag} {w : Wd} : IsI K ⟨w⟩ (He.ga K "Word") := fun F v ⟨p, dx, r, h1, h2, _⟩ => ⟨p, dx, _, h1, h2⟩
theorem wd_rows {K : PySem.W.Frag} {w : Wd} : ∀ F v, Rep.rp K F v w → ∃ p dx fs x, v = .ref p ∧ F p = some (.ins (He.ga K "Word") dx fs) ∧ fs.lookup ("rows" : Str) = some x ∧ Rep.rp K F x (signs w.t) := fun F v ⟨p, dx, r, h1, h2, h3, h4, h5⟩ =>
  ⟨p, dx, _, .ref r, h1, h2, by simp [List.lookup], r, _, rfl, h3, Pr.ofStrs _ (sok_signs (sok_W h4 h5)), by rw [signs_len]; exact Nat.le_trans h5 (by decide)⟩
def spWordInit (K : PySem.W.Frag) : Sp := spM (γ := Addr × Addr × Str) K (fun g => [⟨(At.mk g.1)⟩, ⟨g.2.2⟩]) (fun g => [Cell.obj g.1 (He.ga K "Word") g.2.1 []]) (fun _ => True)
  (fun g r L' => r = ⟨()⟩ ∧ (okW g.2.2 = true ∧ g.2.2.length ≤ 12) ∧ L' = [Cell.obj g.1 (He.ga K "Word") g.2.1 [("rows", ⟨signs g.2.2⟩)]])
  (fun g cls d L' => ¬ (okW g.2.2 = true ∧ g.2.2.length ≤ 12) ∧ cls = .ref (He.ga K "BadWord") ∧ d = none ∧ L' = [Cell.obj g.1 (He.ga K "Word") g.2.1 []])
section
variable {P : Program} {w : World} {K : PySem.W.Frag} {mg : Str → Option Value} {base : Heap} {f : Addr} {fd : FuncData}
theorem take_all_succ {l : List Nat} {i c : Nat} (h : l[i]? = some c) (h1 : (l.take i).all okC = true) (h2 : okC c = true) : (l.take (i + 1)).all okC = true := by
  rw [List.take_add_one, h]
  simp [List.all_append, h1, h2]
theorem ok_Word_init (Fn : FnP K "__init__" "Word.__init__" d_Word___init__ f fd) (T : WordT K mg) : FnOk P w K mg base (L2.CX P w) 2 f fd ["self", "text"] (spWordInit K) := by
  refine fn_spM Fn sc_Word___init__ (fun _ => rfl) ?_
  rintro ⟨p, dx, t⟩ _ cdv A outer s H E R C ok
  show S _ [some ⟨(At.mk p)⟩, some ⟨t⟩, none] [Cell.obj p (He.ga K "Word") dx []] _ _
  obtain ⟨mc, cr, u, cv⟩ := T.cr
  refine S_for ok (fun i env L => ∃ o : Option Ent, env = [some ⟨(At.mk p)⟩, some ⟨t⟩, o] ∧ L = [Cell.obj p (He.ga K "Word") dx []] ∧ (t.cps.toList.take i).all okC = true) (EI_str (E_var 1)) ⟨none, rfl, rfl, by simp⟩ ?_ ?_
  · rintro i a env' L' ha ⟨o, rfl, rfl, hall⟩
    obtain ⟨c, hc, rfl⟩ := signs_get ha
    refine ⟨_, _, G_name 2 ok.nd, ?_⟩
    refine S_if (T_cmp (E_var 2) (E_gloT T.gS T.st sok_steps) cmp_ninST rfl) (fun h => ?_) (fun h => ?_)
    · refine S_raise ok T.bw ⟨?_, rfl, rfl, rfl⟩
      rw [sign_in] at h
      rintro ⟨h1, _⟩
      unfold okW at h1
      have := List.all_eq_true.mp h1 c (List.mem_of_getElem? hc)
      rw [this] at h; cases h
    · rw [sign_in] at h
      refine S_nil (S_nil ⟨_, rfl, rfl, take_all_succ hc hall (by simpa using h)⟩)
  · rintro env' L' ⟨o, rfl, rfl, hall⟩
    rw [signs_len, show t.length = t.cps.toList.length from (Array.length_toList).symm, List.take_length] at hall
    refine S_if (T_cmp (E_bi cal_lenS (A_cons (E_var 1) A_nil) T.len) (E_cval cr cv (E_glo T.gW)) cmp_gtI (nomark _)) (fun h => ?_) (fun h => ?_)
    · refine S_raise ok T.bw ⟨?_, rfl, rfl, rfl⟩
      have h := of_decide_eq_true h
      rintro ⟨_, h2⟩
      have h2 : t.length ≤ 12 := h2
      omega
    · have h := of_decide_eq_false h
      refine S_nil (S_fld 0 T.cl T.na (E_var 0) (E_bi (cal_listS ok.calm) (A_cons (E_var 1) A_nil) T.list) rfl ?_)
      exact S_nil ⟨rfl, ⟨hall, by show t.length ≤ 12; omega⟩, rfl⟩
end
def wordFa : List He.Fa := [.glo "Word", .glo "STEPS", .cls "Word", .noat "Word" "rows", .glo "BadWord", .exc "BadWord", .free "len", .free "list", .free "isinstance", .free "str", .mkr "Word"]
def wordB (K : PySem.W.Frag) : Bool := faB wordFa K && (He.tupB K "STEPS" [.str "D", .str "U"] && (creadB "Word" K && (cvalB "Word" "LONGEST" (.int 12) K && (insB "Word" K && PySem.W.selfFirst K (He.ga K "Word")))))
theorem wordT_of {K : PySem.W.Frag} {h : Heap} {mg : Str → Option Value} (X : K.In h) (G : h.Ns mainGlobals mg) (c : wordB K = true) : WordT K mg ∧ Mk K (He.ga K "Word") (He.ma K (He.ga K "Word") "__init__") := by
  obtain ⟨c1, c⟩ := He.ba c
  obtain ⟨c2, c⟩ := He.ba c
  obtain ⟨c3, c⟩ := He.ba c
  obtain ⟨c4, c⟩ := He.ba c
  obtain ⟨c5, c6⟩ := He.ba c
  exact ⟨⟨He.cls_ok (faB_at c1 2), He.noat_ok (faB_at c1 3), He.glo_ok X G (faB_at c1 0), He.glo_ok X G (faB_at c1 1), fun H => He.tupB_ok c2 H, ⟨_, creadB_ok c3, cvalB_ok c4⟩, insB_ok c5, c6, excT_of X G (faB_at c1 4) (faB_at c1 5), He.free_ok X G (faB_at c1 6), He.free_ok X G (faB_at c1 7), He.free_ok X G (faB_at c1 8), He.free_ok X G (faB_at c1 9)⟩, He.mkr_ok (faB_at c1 10)⟩

/-! ### a word is made -/
def okT (t : Str) : Prop := okW t = true ∧ t.length ≤ 12
instance (t : Str) : Decidable (okT t) := inferInstanceAs (Decidable (_ ∧ _))
theorem okT_sok {t : Str} (h : okT t) : SOk t := sok_W h.1 h.2
theorem EM_Word {C : Cz} {k : Nat} {env : Env} {L : List Cell} {e : Expr} {p pos : Pos} {t : Str} (ok : C.Ok k) (M : Mks C.X.prog C.X.w C.X.K C.X.mg C.X.base 2 (He.ga C.X.K "Word") "Word" (spWordInit C.X.K)) (he : E C env L e ⟨t⟩) (hj : 3 ≤ k := by decide) (hg : Gl C.X "Word" := by rfl)
    (hs : starEach [e] C.X.env = [(false, eval e C.X.env)] := by rfl) : EM C env L (.Call (.Name "Word" p) [e] [] pos) (fun r L' => okT t ∧ r = ⟨(Wd.mk t)⟩ ∧ L' = L) (fun cls d L' => ¬ okT t ∧ cls = .ref (He.ga C.X.K "BadWord") ∧ d = none ∧ L' = L) := by
  have h := EM_make (pos := pos) (p := p) (δ := Str) (arg := fun t => [⟨t⟩]) (pre := fun _ => True) (post := fun p dx t r L' => r = ⟨()⟩ ∧ (okW t = true ∧ t.length ≤ 12) ∧ L' = [Cell.obj p (He.ga C.X.K "Word") dx [("rows", ⟨signs t⟩)]])
    (exc := fun p dx t cls d L' => ¬ (okW t = true ∧ t.length ≤ 12) ∧ cls = .ref (He.ga C.X.K "BadWord") ∧ d = none ∧ L' = [Cell.obj p (He.ga C.X.K "Word") dx []]) t ok M (fun _ _ _ _ _ h => h.1) (A_cons he A_nil hs) trivial hj hg (by decide) hs (by rfl)
  have h2 := EM_frzO (y := ⟨(Wd.mk t)⟩) (ι := Addr) (pre := fun _ => okT t) (c := fun q dx => Cell.obj q (He.ga C.X.K "Word") dx [("rows", ⟨signs t⟩)]) (EM.imp h (fun r L' ⟨p, dx, L1, h1, h2, h3⟩ => ⟨p, dx, h1, h2.2.1, by rw [h3, h2.2.2]; rfl⟩) (fun cls d L' h => h)) fun q dx ht F H F' ho x hj => ?_
  · refine EM.dropX (EM.imp h2 (fun r L' h => ⟨h.1.elim fun _ z => z, h.2⟩) fun _ _ _ h => h) ?_
    rintro cls d L' ⟨p, dx, L1, ⟨h1, h2, h3, rfl⟩, rfl⟩
    exact ⟨_, L, rfl, h1, h2, h3, rfl⟩
  · obtain ⟨vs, h1, h2, h3⟩ := ho
    cases h3 with
    | cons hf hr =>
      cases hr
      rename_i a
      obtain ⟨n, v⟩ := a
      obtain ⟨rfl, rr⟩ := hf
      obtain ⟨r, us, rfl, h4, h5, h6⟩ := rr
      rw [Pr.strs h5] at h4
      exact ⟨q, dx, r, rfl, by rw [hj q List.mem_cons_self]; exact h1, x _ _ h4, ht.1, ht.2⟩
theorem EM_Word' {C : Cz} {k : Nat} {env : Env} {L : List Cell} {e : Expr} {p pos : Pos} {t : Str} (ok : C.Ok k) (M : Mks C.X.prog C.X.w C.X.K C.X.mg C.X.base 2 (He.ga C.X.K "Word") "Word" (spWordInit C.X.K)) (ht : okT t) (he : E C env L e ⟨t⟩) (hj : 3 ≤ k := by decide) (hg : Gl C.X "Word" := by rfl)
    (hs : starEach [e] C.X.env = [(false, eval e C.X.env)] := by rfl) : EM C env L (.Call (.Name "Word" p) [e] [] pos) (fun r L' => r = ⟨(Wd.mk t)⟩ ∧ L' = L) (fun _ _ _ => False) :=
  EM.imp (EM_Word ok M he hj hg hs) (fun _ _ h => h.2) (fun _ _ _ h => h.1 ht)
theorem okW_append {a b : Str} (h1 : okW a = true) (h2 : okW b = true) : okW (a ++ b) = true := by
  unfold okW at *
  rw [str_cps_append, List.all_append, h1, h2]; rfl
theorem okT_join {ys : List Str} (h : ∀ y ∈ ys, okW y = true ∧ y.length = 1) (hl : ys.length ≤ 12) : okT (joinS "" ys) := by
  have key : ∀ ys : List Str, (∀ y ∈ ys, okW y = true ∧ y.length = 1) → okW (joinS "" ys) = true := by
    intro ys
    induction ys with
    | nil => intro _; exact (by decide +kernel : okW "" = true)
    | cons y ys ih =>
      intro h
      cases ys with
      | nil => exact (h y List.mem_cons_self).1
      | cons z ys =>
        show okW (y ++ ("" : Str) ++ joinS "" (z :: ys)) = true
        exact okW_append (okW_append (h y List.mem_cons_self).1 (by decide +kernel)) (ih fun y hy => h y (List.mem_cons_of_mem _ hy))
  refine ⟨key ys h, ?_⟩
  have h1 := joinS_len "" ys
  have h2 : (ys.map (·.length)).sum = ys.length := by
    clear h1 hl key
    induction ys with
    | nil => rfl
    | cons y ys ih =>
      rw [List.map_cons, List.sum_cons, ih fun y hy => h y (List.mem_cons_of_mem _ hy), (h y List.mem_cons_self).2, List.length_cons]
      omega
  rw [h2] at h1
  have h3 : ys.length + ys.length * ("" : Str).length = ys.length := by show ys.length + ys.length * 0 = _; omega
  omega
theorem okW_sub {a : Str} {l : List Nat} (h : okW a = true) (hs : ∀ c ∈ l, c ∈ a.cps.toList) {b : Str} (hb : b.cps.toList = l) : okW b = true := by
  unfold okW at *
  rw [hb]
  exact List.all_eq_true.mpr fun c hc => List.all_eq_true.mp h c (hs c hc)
theorem okW_sign {a : Str} (h : okW a = true) {i : Nat} (hi : i < a.cps.toList.length) : okW ⟨#[a.cps.toList.getD i 0]⟩ = true := by
  refine okW_sub (l := [a.cps.toList.getD i 0]) h (fun c hc => ?_) rfl
  rw [List.mem_singleton.mp hc, List.getD_eq_getElem?_getD, List.getElem?_eq_getElem hi]
  exact List.getElem_mem hi

theorem signs_cons (c : Nat) (l : List Nat) : signs ⟨(c :: l).toArray⟩ = ⟨#[c]⟩ :: signs ⟨l.toArray⟩ := by simp [signs]
theorem join_signs_aux : ∀ l : List Nat, (joinS "" (l.map fun c => (⟨#[c]⟩ : Str))).cps.toList = l
  | [] => rfl
  | [c] => rfl
  | c :: d :: l => by
    have ih := join_signs_aux (d :: l)
    show ((⟨#[c]⟩ : Str) ++ ("" : Str) ++ joinS "" ((d :: l).map fun c => (⟨#[c]⟩ : Str))).cps.toList = _
    rw [str_cps_append, str_cps_append, ih]
    rfl
theorem join_signs (t : Str) : joinS "" (signs t) = t := str_ext (join_signs_aux t.cps.toList)
theorem sum_ones (t : Str) : ((signs t).map (·.length)).sum = t.length := by
  have key : ∀ l : List Nat, ((l.map fun c => (⟨#[c]⟩ : Str)).map (·.length)).sum = l.length := by
    intro l
    induction l with
    | nil => rfl
    | cons c l ih =>
      rw [List.map_cons, List.map_cons, List.sum_cons, ih, List.length_cons]
      show 1 + l.length = _
      omega
  rw [show t.length = t.cps.toList.length from (Array.length_toList).symm]
  exact key _
/-- the words' own methods -/
def letterAt (w : Wd) (i : Nat) : Str := (signs w.t).getD i ""
/-- how far the letters of a are found in bs -/
def standN (as bs : List Str) : Nat := bs.foldl (fun (n : Nat) b => if decide ((n : Int) < (as.length : Int)) && decide (as.getD n "" = b) then n + 1 else n) 0
def stands (a b : Str) : Bool := decide (standN (signs a) (signs b) = (signs a).length)
def spWordStr (K : PySem.W.Frag) : Sp := spF (γ := Wd) K (fun w => [⟨w⟩]) (fun _ => True) (fun w => ⟨w.t⟩)
def spWordLen (K : PySem.W.Frag) : Sp := spF (γ := Wd) K (fun w => [⟨w⟩]) (fun _ => True) (fun w => ⟨(w.t.length : Int)⟩)
def spWordGet (K : PySem.W.Frag) : Sp := spF (γ := Wd × Nat) K (fun g => [⟨g.1⟩, ⟨(g.2 : Int)⟩]) (fun g => g.2 < g.1.t.length) (fun g => ⟨letterAt g.1 g.2⟩)
def spWordEq (K : PySem.W.Frag) : Sp := spF (γ := Wd × Wd) K (fun g => [⟨g.1⟩, ⟨g.2⟩]) (fun _ => True) (fun g => ⟨decide (g.1.t = g.2.t)⟩)
def spWordLe (K : PySem.W.Frag) : Sp := spF (γ := Wd × Wd) K (fun g => [⟨g.1⟩, ⟨g.2⟩]) (fun _ => True) (fun g => ⟨stands g.1.t g.2.t⟩)
def spWordLt (K : PySem.W.Frag) : Sp := spF (γ := Wd × Wd) K (fun g => [⟨g.1⟩, ⟨g.2⟩]) (fun _ => True) (fun g => ⟨(decide (g.1.t.length < g.2.t.length) && stands g.1.t g.2.t)⟩)
section
variable {P : Program} {w : World} {K : PySem.W.Frag} {mg : Str → Option Value} {base : Heap} {f : Addr} {fd : FuncData}
theorem wd_le {K F v} {w : Wd} (h : Rep.rp K F v w) : okW w.t = true ∧ w.t.length ≤ 12 := by obtain ⟨_, _, _, _, _, _, h4, h5⟩ := h; exact ⟨h4, h5⟩
/-- what the first argument's being a word tells -/
theorem fn_word {γ : Type} {x qual : Str} {params : Arguments} {body : List Stmt} {scope : Scope} {N ps : List Str} {k : Nat} {wd : γ → Wd} {arg : γ → List Ent} {pre : γ → Prop} {res : γ → Ent} (Fn : FnOk P w K mg base (L2.CX P w) k f fd ps (spF (γ := γ) K arg (fun g => pre g ∧ (wd g).t.length ≤ 12 ∧ okW (wd g).t = true) res)) (ha : ∀ g, ∃ rest, arg g = ⟨wd g⟩ :: rest) : FnOk P w K mg base (L2.CX P w) k f fd ps (spF K arg pre res) := by
  refine Fn.imp fun vs H Q E ⟨g, hp, R, F, o, rv, h⟩ => ⟨g, ⟨hp, ?_⟩, R, F, o, rv, h⟩
  obtain ⟨rest, e⟩ := ha g
  rw [e] at rv
  cases rv with
  | cons h1 _ => exact ⟨(wd_le h1).2, (wd_le h1).1⟩
theorem ok_Word_str (Fn : FnP K "__str__" "Word.__str__" d_Word___str__ f fd) (T : WordT K mg) : FnOk P w K mg base (L2.CX P w) 2 f fd ["self"] (spWordStr K) := by
  refine fn_word (wd := id) (x := "") (qual := "") (params := defArgs d_Word___str__) (body := []) (scope := defScope d_Word___str__) (N := []) (fn_spM Fn sc_Word___str__ (fun _ => rfl) ?_) fun g => ⟨[], rfl⟩
  rintro t ⟨_, ht, _⟩ cdv A outer s H E R C ok
  show S _ [some ⟨t⟩] _ _ _
  have ht : t.t.length ≤ 12 := ht
  refine S_ret (E_join (E_str) (E_fld T.cl T.na wd_rows (E_var 0)).imm ?_) ⟨by rw [join_signs], rfl⟩
  rw [sum_ones, signs_len]
  show t.t.length + t.t.length * 0 ≤ _
  omega
theorem ok_Word_len (Fn : FnP K "__len__" "Word.__len__" d_Word___len__ f fd) (T : WordT K mg) : FnOk P w K mg base (L2.CX P w) 2 f fd ["self"] (spWordLen K) := by
  refine fn_spM Fn sc_Word___len__ (fun _ => rfl) ?_
  rintro t _ cdv A outer s H E R C ok
  show S _ [some ⟨t⟩] _ _ _
  exact S_ret (E_biR calR_len (E_fld T.cl T.na wd_rows (E_var 0)).imm T.len) ⟨by rw [signs_len], rfl⟩
theorem ok_Word_get (Fn : FnP K "__getitem__" "Word.__getitem__" d_Word___getitem__ f fd) (T : WordT K mg) : FnOk P w K mg base (L2.CX P w) 2 f fd ["self", "at"] (spWordGet K) := by
  refine fn_spM Fn sc_Word___getitem__ (fun _ => rfl) ?_
  rintro ⟨t, i⟩ hi cdv A outer s H E R C ok
  show S _ [some ⟨t⟩, some ⟨(i : Int)⟩] _ _ _
  have hi : i < (signs t.t).length := by rw [signs_len]; exact hi
  exact S_ret (E_ix (E_fld T.cl T.na wd_rows (E_var 0)).imm (E_var 1) (atI_nat' (by omega) (a := (signs t.t)[i]) (by simp [hi]))) ⟨by simp [letterAt, hi], rfl⟩
theorem signs_inj {a b : Str} (h : signs a = signs b) : a = b := by rw [← join_signs a, ← join_signs b, h]
theorem ok_Word_eq (Fn : FnP K "__eq__" "Word.__eq__" d_Word___eq__ f fd) (T : WordT K mg) : FnOk P w K mg base (L2.CX P w) 2 f fd ["self", "other"] (spWordEq K) := by
  refine fn_spM Fn sc_Word___eq__ (fun _ => rfl) ?_
  rintro ⟨a, b⟩ _ cdv A outer s H E R C ok
  show S _ [some ⟨a⟩, some ⟨b⟩] _ _ _
  refine S_ret (E_and (E_bi (cal_isC T.ic isI_Wd) (A_cons (E_var 1) (A_cons (E_glo T.gW) A_nil)) T.isi) (fun _ => E_one (E_cmp (E_fld T.cl T.na wd_rows (E_var 0)) (E_fld T.cl T.na wd_rows (E_var 1)) (cmp_eqD ok.room) (nomark _)))) ⟨?_, rfl⟩
  show (⟨(true && decide (signs a.t = signs b.t))⟩ : Ent) = ⟨decide (a.t = b.t)⟩
  congr 1
  rw [Bool.true_and]
  by_cases h : a.t = b.t
  · simp [h]
  · rw [decide_eq_false h, decide_eq_false fun e => h (signs_inj e)]
theorem standN_le (as bs : List Str) : standN as bs ≤ as.length ∧ standN as bs ≤ bs.length := by
  have key : ∀ (bs : List Str) (n : Nat), n ≤ as.length → (bs.foldl (fun (n : Nat) b => if decide ((n : Int) < (as.length : Int)) && decide (as.getD n "" = b) then n + 1 else n) n) ≤ as.length ∧ (bs.foldl (fun (n : Nat) b => if decide ((n : Int) < (as.length : Int)) && decide (as.getD n "" = b) then n + 1 else n) n) ≤ n + bs.length := by
    intro bs
    induction bs with
    | nil => intro n h; exact ⟨h, Nat.le_refl _⟩
    | cons b bs ih =>
      intro n h
      rw [List.foldl_cons, List.length_cons]
      split
      · rename_i hc
        have h1 : (n : Int) < as.length := of_decide_eq_true (Bool.and_eq_true_iff.mp hc).1
        have := ih (n + 1) (by omega)
        exact ⟨this.1, by have := this.2; omega⟩
      · have := ih n h
        exact ⟨this.1, by have := this.2; omega⟩
  have := key bs 0 (Nat.zero_le _)
  exact ⟨this.1, by have h2 := this.2; rw [Nat.zero_add] at h2; exact h2⟩
theorem standN_take {as bs : List Str} {i : Nat} {b : Str} (h : bs[i]? = some b) : standN as (bs.take (i + 1)) = if decide ((standN as (bs.take i) : Int) < (as.length : Int)) && decide (as.getD (standN as (bs.take i)) "" = b) then standN as (bs.take i) + 1 else standN as (bs.take i) := by
  unfold standN
  rw [List.take_add_one, h, List.foldl_append]
  rfl
theorem ok_Word_le (Fn : FnP K "__le__" "Word.__le__" d_Word___le__ f fd) (T : WordT K mg) : FnOk P w K mg base (L2.CX P w) 2 f fd ["self", "other"] (spWordLe K) := by
  refine fn_spM Fn sc_Word___le__ (fun _ => rfl) ?_
  rintro ⟨a, b⟩ _ cdv A outer s H E R C ok
  show S _ [some ⟨a⟩, some ⟨b⟩, none, none] _ _ _
  refine S_set 2 ok.nd E_int ?_
  refine S_for ok (fun i env L => ∃ o : Option Ent, env = [some ⟨a⟩, some ⟨b⟩, some ⟨(standN (signs a.t) ((signs b.t).take i) : Int)⟩, o] ∧ L = []) (EI_list (E_fld T.cl T.na wd_rows (E_var 1))) ⟨none, rfl, rfl⟩ ?_ ?_
  · rintro i x env' L' hx ⟨o, rfl, rfl⟩
    refine ⟨_, _, G_name 3 ok.nd, ?_⟩
    refine S_if (T_w (T_and (T_cmp (E_var 2) (E_biR calR_len (E_fld T.cl T.na wd_rows (E_var 0)).imm T.len) cmp_ltI (nomark _)) (fun hb => T_and1 (T_cmp (E_ix (E_fld T.cl T.na wd_rows (E_var 0)).imm (E_var 2) (v := (signs a.t).getD (standN (signs a.t) ((signs b.t).take i)) "") ?_) (E_var 3) cmp_eqS (nomark _))))) (fun h => ?_) (fun h => ?_)
    · have hb := of_decide_eq_true hb
      have hb' : standN (signs a.t) ((signs b.t).take i) < (signs a.t).length := by omega
      exact atI_nat' (by omega) (by simp [hb'])
    · refine S_set 2 ok.nd (E_bin (E_var 2) E_int bin_addI) (S_nil (S_nil ⟨some ⟨x⟩, ?_, rfl⟩))
      rw [standN_take hx, if_pos h]
      rfl
    · refine S_nil (S_nil ⟨some ⟨x⟩, ?_, rfl⟩)
      rw [standN_take hx, if_neg (by rw [h]; decide)]
      rfl
  · rintro env' L' ⟨o, rfl, rfl⟩
    refine S_ret (E_cmp (E_var 2) (E_biR calR_len (E_fld T.cl T.na wd_rows (E_var 0)).imm T.len) cmp_eqI (nomark _)) ⟨?_, rfl⟩
    rw [List.take_length]
    unfold stands
    congr 1
    simp only [Int.natCast_inj]
theorem ok_Word_lt (Fn : FnP K "__lt__" "Word.__lt__" d_Word___lt__ f fd) (T : WordT K mg) (Le : Ms P w K mg base 2 (He.ga K "Word") "__le__" (spWordLe K)) : FnOk P w K mg base (L2.CX P w) 4 f fd ["self", "other"] (spWordLt K) := by
  refine fn_spM Fn sc_Word___lt__ (fun _ => rfl) ?_
  rintro ⟨a, b⟩ _ cdv A outer s H E R C ok
  show S _ [some ⟨a⟩, some ⟨b⟩] _ _ _
  refine S_ret (E_and (E_cmp (E_biR calR_len (E_fld T.cl T.na wd_rows (E_var 0)).imm T.len) (E_biR calR_len (E_fld T.cl T.na wd_rows (E_var 1)).imm T.len) cmp_ltI (nomark _)) (fun _ => E_one (E_cmp (E_var 0) (E_var 1) (cmp_own (a, b) ok.room Le rfl trivial isI_Wd isI_Wd) (nomark _)))) ⟨?_, rfl⟩
  show (⟨(decide (((signs a.t).length : Int) < ((signs b.t).length : Int)) && stands a.t b.t)⟩ : Ent) = ⟨(decide (a.t.length < b.t.length) && stands a.t b.t)⟩
  rw [signs_len, signs_len]
  simp only [Int.ofNat_lt]
end

/-! ### words: iteration, sum -/
def spWordIter (K : PySem.W.Frag) : Nat → Sp := spIt (γ := Wd) K (fun w => ⟨w⟩) (fun _ => []) (fun _ => True) (fun w => signs w.t)
def spWordAdd (K : PySem.W.Frag) : Sp := spM (γ := Wd × Wd) K (fun g => [⟨g.1⟩, ⟨g.2⟩]) (fun _ => []) (fun g => okT g.1.t ∧ okT g.2.t) (fun g r L' => okT (g.1.t ++ g.2.t) ∧ r = ⟨(Wd.mk (g.1.t ++ g.2.t))⟩ ∧ L' = []) (fun g cls d L' => ¬ okT (g.1.t ++ g.2.t) ∧ cls = .ref (He.ga K "BadWord") ∧ d = none ∧ L' = [])
theorem okT_append {a b : Str} (ha : okT a) (hb : okT b) (h : a.length + b.length ≤ 12) : okT (a ++ b) := ⟨okW_append ha.1 hb.1, by rw [str_len_append]; exact h⟩
theorem okT_len {a b : Str} (h : okT (a ++ b)) : a.length + b.length ≤ 12 := by have := h.2; rw [str_len_append] at this; exact this
section
variable {P : Program} {w : World} {K : PySem.W.Frag} {mg : Str → Option Value} {base : Heap} {f : Addr} {fd : FuncData}
theorem ok_Word_iter (Fn : FnP K "__iter__" "Word.__iter__" d_Word___iter__ f fd) (T : WordT K mg) (hi : mg "iter" = none) : FnN P w K mg base (L2.CX P w) 2 f fd ["self"] (spWordIter K) := by
  refine fn_it Fn sc_Word___iter__ rfl hi ?_
  rintro t _ cdv A outer s H E R C ok
  exact ⟨_, _, _, _, rfl, rfl, rfl, rfl, E_fld T.cl T.na wd_rows (E_var 0)⟩
theorem ok_Word_add (Fn : FnP K "__add__" "Word.__add__" d_Word___add__ f fd) (T : WordT K mg) (Mw : Mks P w K mg base 2 (He.ga K "Word") "Word" (spWordInit K)) (St : Ms P w K mg base 2 (He.ga K "Word") "__str__" (spWordStr K)) : FnOk P w K mg base (L2.CX P w) 5 f fd ["self", "other"] (spWordAdd K) := by
  refine fn_spM Fn sc_Word___add__ (fun _ => rfl) ?_
  rintro ⟨a, b⟩ ⟨ha, hb⟩ cdv A outer s H E R C ok
  have ha : okT a.t := ha
  have hb : okT b.t := hb
  show S _ [some ⟨a⟩, some ⟨b⟩] _ _ _
  refine S_retM (EM_Word (t := a.t ++ b.t) ok Mw (E_bin (E_bi (cal_strO a ok.room St rfl trivial isI_Wd) (A_cons (E_var 0) A_nil) T.str) (E_bi (cal_strO b ok.room St rfl trivial isI_Wd) (A_cons (E_var 1) A_nil) T.str) (bin_addS ?_))) ?_ ?_
  · have h1 := ha.2
    have h2 := hb.2
    rw [sizeLine_eq]; omega
  · rintro r L' h
    exact h
  · rintro cls d L' h
    exact h
end

/-! ### graphs -/
def isLetS (c : Str) : Bool := !decide (c.cps.toList < ("a" : Str).cps.toList) && !decide (("z" : Str).cps.toList < c.cps.toList)
def isLabel (t : Str) : Bool := !(decide (t.length < 1) || decide (8 < t.length)) && (signs t).all isLetS
def withN (ns : List Int) (n : Int) : List Int := sortI (ns ++ [n])
def withoutN (ns : List Int) (n : Int) : List Int := ns.filter fun x => !decide (x = n)
structure GA where
  p : Addr
  dx : Addr
  d1 : Addr
  d2 : Addr
  d3 : Addr
structure GD where
  rows : List Int
  told : List (Int × Str)
  ups : List (Int × List Int)
  downs : List (Int × List Int)
def GD.nil : GD := ⟨[], [], [], []⟩
def grF (a : GA) (g : GD) : Fld := [("rows", ⟨g.rows⟩), ("told", ⟨(At.mk a.d1)⟩), ("ups", ⟨(At.mk a.d2)⟩), ("downs", ⟨(At.mk a.d3)⟩)]
def grC (K : PySem.W.Frag) (a : GA) (g : GD) : List Cell := [Cell.obj a.p (He.ga K "Graph") a.dx (grF a g), Cell.dic a.d1 g.told, Cell.dic a.d2 g.ups, Cell.dic a.d3 g.downs]
structure GraphT (K : PySem.W.Frag) (mg : Str → Option Value) : Prop where
  cl : Cls K (He.ga K "Graph")
  n1 : NoAttr K (He.ga K "Graph") "rows"
  n2 : NoAttr K (He.ga K "Graph") "told"
  n3 : NoAttr K (He.ga K "Graph") "ups"
  n4 : NoAttr K (He.ga K "Graph") "downs"
  g : mg "Graph" = some (.ref (He.ga K "Graph"))
  gr : ∃ t, mg "GREATEST" = some (.int 999999 t)
  cr : ∃ mc, ClX.CRead K (He.ga K "Graph") mc ∧ ∃ u, ClX.CVal K (He.ga K "Graph") mc "MOST" (.int 60) u
  ns : PySem.W.noSeq K (He.ga K "Graph") = true
  sf : PySem.W.selfFirst K (He.ga K "Graph") = true
  len : mg "len" = none
  list : mg "list" = none
  sorted : mg "sorted" = none
  int : mg "int" = none
def graphFa : List He.Fa := [.cls "Graph", .noat "Graph" "rows", .noat "Graph" "told", .noat "Graph" "ups", .noat "Graph" "downs", .glo "Graph", .int "GREATEST" 999999, .free "len", .free "list", .free "sorted", .free "int", .mkr "Graph"]
def graphB (K : PySem.W.Frag) : Bool := faB graphFa K && (creadB "Graph" K && (cvalB "Graph" "MOST" (.int 60) K && (PySem.W.noSeq K (He.ga K "Graph") && PySem.W.selfFirst K (He.ga K "Graph"))))
theorem graphT_of {K : PySem.W.Frag} {h : Heap} {mg : Str → Option Value} (X : K.In h) (G : h.Ns mainGlobals mg) (c : graphB K = true) : GraphT K mg ∧ Mk K (He.ga K "Graph") (He.ma K (He.ga K "Graph") "__init__") := by
  obtain ⟨c1, c⟩ := He.ba c
  obtain ⟨c2, c⟩ := He.ba c
  obtain ⟨c3, c⟩ := He.ba c
  obtain ⟨c4, c5⟩ := He.ba c
  exact ⟨⟨He.cls_ok (faB_at c1 0), He.noat_ok (faB_at c1 1), He.noat_ok (faB_at c1 2), He.noat_ok (faB_at c1 3), He.noat_ok (faB_at c1 4), He.glo_ok X G (faB_at c1 5), He.int_ok X G (faB_at c1 6), ⟨_, creadB_ok c2, cvalB_ok c3⟩, c4, c5, He.free_ok X G (faB_at c1 7), He.free_ok X G (faB_at c1 8), He.free_ok X G (faB_at c1 9), He.free_ok X G (faB_at c1 10)⟩, He.mkr_ok (faB_at c1 11)⟩
def spIsLetter (K : PySem.W.Frag) : Sp := spF (γ := Str) K (fun c => [⟨c⟩]) (fun _ => True) (fun c => ⟨isLetS c⟩)
def spIsLabel (K : PySem.W.Frag) : Sp := spF (γ := Str) K (fun t => [⟨t⟩]) (fun _ => True) (fun t => ⟨isLabel t⟩)
def spWithNode (K : PySem.W.Frag) : Sp := spF (γ := List Int × Int) K (fun g => [⟨g.1⟩, ⟨g.2⟩]) (fun g => g.1.length ≤ 1000) (fun g => ⟨withN g.1 g.2⟩)
def spWithoutNode (K : PySem.W.Frag) : Sp := spF (γ := List Int × Int) K (fun g => [⟨g.1⟩, ⟨g.2⟩]) (fun _ => True) (fun g => ⟨withoutN g.1 g.2⟩)
theorem entsOf_append {α : Type} [Rep α] (as bs : List α) : EntsOf (as ++ bs) = EntsOf as ++ EntsOf bs := List.map_append
section
variable {P : Program} {w : World} {K : PySem.W.Frag} {mg : Str → Option Value} {base : Heap} {f : Addr} {fd : FuncData}
theorem ok_is_letter (Fn : FnP K "is_letter" "is_letter" d_is_letter f fd) : FnOk P w K mg base (L2.CX P w) 2 f fd ["char"] (spIsLetter K) := by
  refine fn_spM Fn sc_is_letter (fun _ => rfl) ?_
  rintro c _ cdv A outer s H E R C ok
  show S _ [some ⟨c⟩] _ _ _
  exact S_ret (E_and (E_cmp E_str (E_var 0) cmp_leS (nomark _)) (fun _ => E_one (E_cmp (E_var 0) E_str cmp_leS (nomark _)))) ⟨rfl, rfl⟩
theorem ok_is_label (Fn : FnP K "is_label" "is_label" d_is_label f fd) (hl : mg "len" = none) (Le : Hs P w K mg base 2 "is_letter" (spIsLetter K)) : FnOk P w K mg base (L2.CX P w) 4 f fd ["text"] (spIsLabel K) := by
  refine fn_spM Fn sc_is_label (fun _ => rfl) ?_
  rintro t _ cdv A outer s H E R C ok
  show S _ [some ⟨t⟩, none] _ _ _
  refine S_if (T_w (T_or (T_cmp (E_bi cal_lenS (A_cons (E_var 0) A_nil) hl) E_int cmp_ltI (nomark _)) (fun _ => T_or1 (T_cmp (E_bi cal_lenS (A_cons (E_var 0) A_nil) hl) E_int cmp_gtI (nomark _))))) (fun h => ?_) (fun h => ?_)
  · refine S_ret E_bl ⟨?_, rfl⟩
    show (⟨false⟩ : Ent) = ⟨isLabel t⟩
    unfold isLabel
    have e : (decide (t.length < 1) || decide (8 < t.length)) = true := by
      rw [← h]
      have e1 : decide (t.length < 1) = decide ((t.length : Int) < 1) := by
        by_cases q : t.length < 1
        · rw [decide_eq_true q, decide_eq_true (by omega)]
        · rw [decide_eq_false q, decide_eq_false (by omega)]
      have e2 : decide (8 < t.length) = decide ((8 : Int) < (t.length : Int)) := by
        by_cases q : 8 < t.length
        · rw [decide_eq_true q, decide_eq_true (by omega)]
        · rw [decide_eq_false q, decide_eq_false (by omega)]
      rw [e1, e2]
    rw [e]; rfl
  · have e : (decide (t.length < 1) || decide (8 < t.length)) = false := by
      obtain ⟨h1, h2⟩ := Bool.or_eq_false_iff.mp h
      have h1 := of_decide_eq_false h1
      have h2 := of_decide_eq_false h2
      rw [decide_eq_false (by omega), decide_eq_false (by omega)]; rfl
    refine S_nil (S_for ok (fun i env L => ∃ o : Option Ent, env = [some ⟨t⟩, o] ∧ L = [] ∧ ((signs t).take i).all isLetS = true) (EI_str (E_var 0)) ⟨none, rfl, rfl, rfl⟩ ?_ ?_)
    · rintro i c env' L' hc ⟨o, rfl, rfl, hall⟩
      refine ⟨_, _, G_name 1 ok.nd, ?_⟩
      refine S_if (T_not (T_val (E_call c ok Le (A_cons (E_var 1) A_nil) trivial))) (fun h2 => ?_) (fun h2 => ?_)
      · refine S_ret E_bl ⟨?_, rfl⟩
        show (⟨false⟩ : Ent) = ⟨isLabel t⟩
        unfold isLabel
        rw [e]
        have : (signs t).all isLetS = false := by
          rw [Bool.eq_false_iff]
          intro z
          have h3 := List.all_eq_true.mp z c (List.mem_of_getElem? hc)
          have h2 : (!isLetS c) = true := h2
          rw [h3] at h2; cases h2
        rw [this]; rfl
      · refine S_nil (S_nil ⟨some ⟨c⟩, rfl, rfl, ?_⟩)
        have h2 : (!isLetS c) = false := h2
        rw [List.take_add_one, hc, List.all_append, hall]
        have : isLetS c = true := by cases q : isLetS c with | true => rfl | false => rw [q] at h2; cases h2
        show (true && ([c].all isLetS)) = true
        rw [List.all_cons, this]; rfl
    · rintro env' L' ⟨o, rfl, rfl, hall⟩
      rw [List.take_length] at hall
      refine S_ret E_bl ⟨?_, rfl⟩
      show (⟨true⟩ : Ent) = ⟨isLabel t⟩
      unfold isLabel
      rw [e, hall]; rfl
theorem ok_with_node (Fn : FnP K "with_node" "with_node" d_with_node f fd) (hs : mg "sorted" = none) (hi : mg "int" = none) : FnOk P w K mg base (L2.CX P w) 2 f fd ["nodes", "node"] (spWithNode K) := by
  refine fn_spM Fn sc_with_node (fun _ => rfl) ?_
  rintro ⟨ns, n⟩ hn cdv A outer s H E R C ok
  have hn : ns.length ≤ 1000 := hn
  show S _ [some ⟨ns⟩, some ⟨n⟩, none] _ _ _
  have hz : (ns ++ [n]).length ≤ sizeLine := by rw [List.length_append, sizeLine_eq, List.length_singleton]; omega
  refine S_ret (E_biR calR_sortedI (E_lc [("x", 2)] (fun x : Int => x) (fun _ => true) ok (EI_list (E_lst (ns ++ [n]) (by rw [entsOf_append]; exact A_star (E_var 0).imm (A_cons (E_var 1) A_nil)) hz)) ?_ (blkOk_by (by rfl))).imm hs) ⟨?_, rfl⟩
  · intro i a ha
    refine ⟨_, _, ?_, fun R s H C0 cl fp okb => ⟨G_name 2 okb.nd, Ts_nil, fun _ => E_bi cal_intI (A_cons (E_var 2) A_nil) hi⟩⟩
    intro x hx
    exact hx
  · show (⟨sortI (picks (fun x : Int => x) (fun _ => true) (ns ++ [n]))⟩ : Ent) = ⟨withN ns n⟩
    unfold withN picks
    rw [List.filter_eq_self.mpr fun _ _ => rfl]
    simp
theorem ok_without_node (Fn : FnP K "without_node" "without_node" d_without_node f fd) : FnOk P w K mg base (L2.CX P w) 2 f fd ["nodes", "node"] (spWithoutNode K) := by
  refine fn_spM Fn sc_without_node (fun _ => rfl) ?_
  rintro ⟨ns, n⟩ _ cdv A outer s H E R C ok
  show S _ [some ⟨ns⟩, some ⟨n⟩, none] _ _ _
  refine S_ret (E_lc [("x", 2)] (fun x : Int => x) (fun x => !decide (x = n)) ok (EI_list (E_var 0)) ?_ (blkOk_by (by rfl))) ⟨?_, rfl⟩
  · intro i a ha
    refine ⟨_, _, ?_, fun R s H C0 cl fp okb => ⟨G_name 2 okb.nd, Ts_one (T_cmp (E_var 2) (E_var 1) cmp_neI (nomark _)), fun _ => E_var 2⟩⟩
    intro x hx
    exact hx
  · show (⟨picks (fun x : Int => x) (fun x => !decide (x = n)) ns⟩ : Ent) = ⟨withoutN ns n⟩
    unfold withoutN picks
    simp
end

/-! ### the law's labels, its comparisons -/
def nameF (d : Int) (x : Str) : Str := mulS "m" (d / 32 % (1 + d / 4 % 8)).toNat ++ x ++ mulS "m" ((1 + d / 4 % 8) - (d / 32 % (1 + d / 4 % 8)) - 1).toNat
def namesF (d : Int) : List Str := if d % 4 = 1 then (["p", "q", "r", "s"] : List Str).map (nameF d) else if d % 4 = 2 then ["z", "yy", "xxx", "wwwwwwww"] else if d % 4 = 3 then ["k", "kk", "kkk", "kkkkkkkk"] else ["a", "b", "c", "d"]
theorem isLabel_append {a b : Str} (ha : (signs a).all isLetS = true) (hb : (signs b).all isLetS = true) : (signs (a ++ b)).all isLetS = true := by
  unfold signs at *
  rw [str_cps_append, List.map_append, List.all_append, ha, hb]; rfl
theorem mulS_letters (n : Nat) : (signs (mulS "m" n)).all isLetS = true := by
  unfold signs
  rw [mulS_cps]
  refine List.all_eq_true.mpr fun c hc => ?_
  obtain ⟨q, hq, rfl⟩ := List.mem_map.mp hc
  obtain ⟨l, hl, hq⟩ := List.mem_flatten.mp hq
  rw [(List.mem_replicate.mp hl).2] at hq
  have e : ("m" : Str).cps.toList = [109] := by decide +kernel
  rw [e] at hq
  rw [List.mem_singleton.mp hq]
  decide +kernel
theorem nameF_ok (d : Int) {x : Str} (hx : (signs x).all isLetS = true) (hl : x.length = 1) : isLabel (nameF d x) = true := by
  have h1 := Int.emod_nonneg (d / 4) (show (8 : Int) ≠ 0 by decide)
  have h2 := Int.emod_lt_of_pos (d / 4) (show (0 : Int) < 8 by decide)
  have h3 := Int.emod_nonneg (d / 32) (show (1 + d / 4 % 8) ≠ 0 by omega)
  have h4 := Int.emod_lt_of_pos (d / 32) (show 0 < 1 + d / 4 % 8 by omega)
  have hm : ("m" : Str).length = 1 := by decide
  have e : (nameF d x).length = (1 + d / 4 % 8).toNat := by
    unfold nameF
    rw [str_len_append, str_len_append, mulS_len, mulS_len, hm, hl]
    omega
  unfold isLabel
  rw [e, decide_eq_false (by omega), decide_eq_false (by omega)]
  show (true && (signs (nameF d x)).all isLetS) = true
  rw [Bool.true_and]
  exact isLabel_append (isLabel_append (mulS_letters _) hx) (mulS_letters _)
theorem namesF_ok (d : Int) : (namesF d).length = 4 ∧ ∀ x ∈ namesF d, isLabel x = true := by
  unfold namesF
  split
  · refine ⟨rfl, fun x hx => ?_⟩
    obtain ⟨y, hy, rfl⟩ := List.mem_map.mp hx
    rcases List.mem_cons.mp hy with rfl | hy
    · exact nameF_ok d (by decide +kernel) (by decide)
    rcases List.mem_cons.mp hy with rfl | hy
    · exact nameF_ok d (by decide +kernel) (by decide)
    rcases List.mem_cons.mp hy with rfl | hy
    · exact nameF_ok d (by decide +kernel) (by decide)
    rw [List.mem_singleton.mp hy]
    exact nameF_ok d (by decide +kernel) (by decide)
  · have key : ∀ l : List Str, (l.all isLabel) = true → ∀ x ∈ l, isLabel x = true := fun l h x hx => List.all_eq_true.mp h x hx
    split
    · exact ⟨rfl, key _ (by decide +kernel)⟩
    · split
      · exact ⟨rfl, key _ (by decide +kernel)⟩
      · exact ⟨rfl, key _ (by decide +kernel)⟩
def spNames (K : PySem.W.Frag) : Sp := spF (γ := Int) K (fun d => [⟨d⟩]) (fun _ => True) (fun d => ⟨namesF d⟩)
def spSameNodes (K : PySem.W.Frag) : Sp := spF (γ := List Int × List Int) K (fun g => [⟨g.1⟩, ⟨g.2⟩]) (fun g => g.2.length ≤ 100000) (fun g => ⟨decide (g.1 = g.2)⟩)
theorem A_str4 {C : Cz} {env : Env} {L : List Cell} {a b c d : Str} {ja jb jc jd} {pa pb pc pd : Pos} (ha : SOk a) (hb : SOk b) (hc : SOk c) (hd : SOk d) : A C env L [.Constant (.str a) ja pa, .Constant (.str b) jb pb, .Constant (.str c) jc pc, .Constant (.str d) jd pd] (EntsOf [a, b, c, d]) :=
  A_cons (E_str ha) (A_cons (E_str hb) (A_cons (E_str hc) (A_cons (E_str hd) A_nil)))
theorem nameF_get {as bs : List Int} (h : as.length = bs.length) (hall : ∀ i, i < bs.length → cellF as i = cellF bs i) : as = bs := by
  refine List.ext_getElem? fun i => ?_
  by_cases hi : i < bs.length
  · have := hall i hi
    unfold cellF at this
    rw [List.getD_eq_getElem?_getD, List.getD_eq_getElem?_getD, List.getElem?_eq_getElem hi, List.getElem?_eq_getElem (by omega)] at this
    rw [List.getElem?_eq_getElem hi, List.getElem?_eq_getElem (by omega)]
    exact congrArg some this
  · rw [List.getElem?_eq_none (by omega), List.getElem?_eq_none (by omega)]
section
variable {P : Program} {w : World} {K : PySem.W.Frag} {mg : Str → Option Value} {base : Heap} {f : Addr} {fd : FuncData}
theorem ok_law_names (Fn : FnP K "_law_names" "_law_names" d__law_names f fd) (hi : mg "int" = none) : FnOk P w K mg base (L2.CX P w) 2 f fd ["_law_draw"] (spNames K) := by
  refine fn_spM Fn sc__law_names (fun _ => rfl) ?_
  rintro d _ cdv A outer s H E R C ok
  show S _ [some ⟨d⟩, none, none, none] _ _ _
  have so : ∀ {z : Str}, z.length ≤ 16 → z.cps.toList.all (fun c => decide (c < 0x110000)) = true → SOk z := fun h1 h2 => ⟨Nat.le_trans h1 (by decide), h2⟩
  refine S_if (T_cmp (E_bin (E_bi cal_intI (A_cons (E_var 0) A_nil) hi) E_int (bin_modI (by decide))) E_int cmp_eqI (nomark _)) (fun h => ?_) (fun h => ?_)
  · have h := of_decide_eq_true h
    have h1 := Int.emod_nonneg (d / 4) (show (8 : Int) ≠ 0 by decide)
    have h2 := Int.emod_lt_of_pos (d / 4) (show (0 : Int) < 8 by decide)
    have h3 := Int.emod_nonneg (d / 32) (show (1 + d / 4 % 8) ≠ 0 by omega)
    have h4 := Int.emod_lt_of_pos (d / 32) (show 0 < 1 + d / 4 % 8 by omega)
    have hm : ("m" : Str).length = 1 := by decide
    refine S_set 1 ok.nd (E_bin E_int (E_bin (E_bi cal_intI (A_cons (E_bin (E_var 0) E_int (bin_fdivI (by decide))) A_nil) hi) E_int (bin_modI (by decide))) bin_addI) ?_
    refine S_set 2 ok.nd (E_bin (E_bi cal_intI (A_cons (E_bin (E_var 0) E_int (bin_fdivI (by decide))) A_nil) hi) (E_var 1) (bin_modI (by omega))) ?_
    refine S_ret (E_lc [("_law_x", 3)] (nameF d) (fun _ => true) ok (EI_list (E_lst (["p", "q", "r", "s"] : List Str) (A_str4 (so (by decide) (by decide +kernel)) (so (by decide) (by decide +kernel)) (so (by decide) (by decide +kernel)) (so (by decide) (by decide +kernel))))) ?_ (blkOk_by (by rfl))) ⟨?_, rfl⟩
    · intro i x hx
      have hxl : x.length = 1 := by
        have hx2 := List.mem_of_getElem? hx
        rcases List.mem_cons.mp hx2 with rfl | hx2
        · decide
        rcases List.mem_cons.mp hx2 with rfl | hx2
        · decide
        rcases List.mem_cons.mp hx2 with rfl | hx2
        · decide
        rw [List.mem_singleton.mp hx2]; decide
      refine ⟨_, _, ?_, fun R s H C0 cl fp okb => ⟨G_name 3 okb.nd, Ts_nil, fun _ => E_bin (E_bin (E_bin E_str (E_var 2) (bin_mulS (by omega) (by omega) (by decide))) (E_var 3) (bin_addS ?_)) (E_bin E_str (E_bin (E_bin (E_var 1) (E_var 2) bin_subI) E_int bin_subI) (bin_mulS (by omega) (by omega) (by decide))) (bin_addS ?_)⟩⟩
      · intro x hx
        exact hx
      · rw [mulS_len, hm, hxl, sizeLine_eq]; omega
      · rw [str_len_append, mulS_len, mulS_len, hm, hxl, sizeLine_eq]; omega
    · show (⟨picks (nameF d) (fun _ => true) (["p", "q", "r", "s"] : List Str)⟩ : Ent) = ⟨namesF d⟩
      unfold namesF picks
      rw [if_pos h, List.filter_eq_self.mpr fun _ _ => rfl]
  · have h := of_decide_eq_false h
    refine S_nil (S_if (T_cmp (E_bin (E_bi cal_intI (A_cons (E_var 0) A_nil) hi) E_int (bin_modI (by decide))) E_int cmp_eqI (nomark _)) (fun h2 => ?_) (fun h2 => ?_))
    · have h2 := of_decide_eq_true h2
      refine S_ret (E_lst (["z", "yy", "xxx", "wwwwwwww"] : List Str) (A_str4 (so (by decide) (by decide +kernel)) (so (by decide) (by decide +kernel)) (so (by decide) (by decide +kernel)) (so (by decide) (by decide +kernel)))) ⟨?_, rfl⟩
      show (⟨(["z", "yy", "xxx", "wwwwwwww"] : List Str)⟩ : Ent) = ⟨namesF d⟩
      unfold namesF
      rw [if_neg h, if_pos h2]
    · have h2 := of_decide_eq_false h2
      refine S_nil (S_if (T_cmp (E_bin (E_bi cal_intI (A_cons (E_var 0) A_nil) hi) E_int (bin_modI (by decide))) E_int cmp_eqI (nomark _)) (fun h3 => ?_) (fun h3 => ?_))
      · have h3 := of_decide_eq_true h3
        refine S_ret (E_lst (["k", "kk", "kkk", "kkkkkkkk"] : List Str) (A_str4 (so (by decide) (by decide +kernel)) (so (by decide) (by decide +kernel)) (so (by decide) (by decide +kernel)) (so (by decide) (by decide +kernel)))) ⟨?_, rfl⟩
        show (⟨(["k", "kk", "kkk", "kkkkkkkk"] : List Str)⟩ : Ent) = ⟨namesF d⟩
        unfold namesF
        rw [if_neg h, if_neg h2, if_pos h3]
      · have h3 := of_decide_eq_false h3
        refine S_nil (S_ret (E_lst (["a", "b", "c", "d"] : List Str) (A_str4 (so (by decide) (by decide +kernel)) (so (by decide) (by decide +kernel)) (so (by decide) (by decide +kernel)) (so (by decide) (by decide +kernel)))) ⟨?_, rfl⟩)
        show (⟨(["a", "b", "c", "d"] : List Str)⟩ : Ent) = ⟨namesF d⟩
        unfold namesF
        rw [if_neg h, if_neg h2, if_neg h3]
end

/-! ### a graph's own methods -/
def setG (g : GD) (n : Int) (y : Str) : GD := if (lkp g.told n).isSome then { g with told := putA g.told n y } else ⟨withN g.rows n, putA g.told n y, putA g.ups n [], putA g.downs n []⟩
def lab (g : GD) (n : Int) : Str := (lkp g.told n).getD ""
def nbr (m : List (Int × List Int)) (n : Int) : List Int := (lkp m n).getD []
def edgesG (g : GD) : List (P2 Int Int) := g.rows.flatMap fun n => (nbr g.downs n).map fun c => P2.mk n c
/-- small enough -/
structure GSm (g : GD) : Prop where
  rows : g.rows.length ≤ 60
  told : g.told.length ≤ 60
  ups : g.ups.length ≤ 60
  downs : g.downs.length ≤ 60
def spGrInit (K : PySem.W.Frag) : Sp := spM (γ := Addr × Addr × Unit) K (fun g => [⟨(At.mk g.1)⟩]) (fun g => [Cell.obj g.1 (He.ga K "Graph") g.2.1 []]) (fun _ => True) (fun g r L' => r = ⟨()⟩ ∧ ∃ d1 d2 d3, L' = grC K ⟨g.1, g.2.1, d1, d2, d3⟩ GD.nil) (fun _ _ _ _ => False)
def spGrIter (K : PySem.W.Frag) : Nat → Sp := spIt (γ := GA × GD) K (fun g => ⟨(At.mk g.1.p)⟩) (fun g => grC K g.1 g.2) (fun _ => True) (fun g => g.2.rows)
def spGrLen (K : PySem.W.Frag) : Sp := spB (γ := GA × GD) K (fun g => [⟨(At.mk g.1.p)⟩]) (fun g => grC K g.1 g.2) (fun _ => True) (fun g => ⟨(g.2.rows.length : Int)⟩)
def spGrIn (K : PySem.W.Frag) : Sp := spB (γ := GA × GD × Int) K (fun g => [⟨(At.mk g.1.p)⟩, ⟨g.2.2⟩]) (fun g => grC K g.1 g.2.1) (fun _ => True) (fun g => ⟨(lkp g.2.1.told g.2.2).isSome⟩)
def spGrGet0 (K : PySem.W.Frag) : Sp := spB (γ := GA × GD × Int) K (fun g => [⟨(At.mk g.1.p)⟩, ⟨g.2.2⟩]) (fun g => grC K g.1 g.2.1) (fun g => (lkp g.2.1.told g.2.2).isSome = true) (fun g => ⟨lab g.2.1 g.2.2⟩)
def spGrSet0 (K : PySem.W.Frag) : Sp := spM (γ := GA × GD × Int × Str) K (fun g => [⟨(At.mk g.1.p)⟩, ⟨g.2.2.1⟩, ⟨g.2.2.2⟩]) (fun g => grC K g.1 g.2.1) (fun g => (0 ≤ g.2.2.1 ∧ g.2.2.1 ≤ 999999) ∧ isLabel g.2.2.2 = true ∧ GSm g.2.1 ∧ ((lkp g.2.1.told g.2.2.1).isSome = true ∨ g.2.1.rows.length < 60))
  (fun g r L' => r = ⟨()⟩ ∧ L' = grC K g.1 (setG g.2.1 g.2.2.1 g.2.2.2)) (fun _ _ _ _ => False)
def spGrEdges (K : PySem.W.Frag) : SpG := spGen (γ := GA × GD) K (fun g => [⟨(At.mk g.1.p)⟩]) (fun g => grC K g.1 g.2) (fun g => (∀ n ∈ g.2.rows, (lkp g.2.downs n).isSome = true) ∧ (edgesG g.2).length ≤ 100000) (fun g => edgesG g.2)
section
variable {P : Program} {w : World} {K : PySem.W.Frag} {mg : Str → Option Value} {base : Heap} {f : Addr} {fd : FuncData}
theorem mem0 {a : GA} {g : GD} : Cell.obj a.p (He.ga K "Graph") a.dx (grF a g) ∈ grC K a g := List.mem_cons_self
theorem mem1 {a : GA} {g : GD} : Cell.dic a.d1 g.told ∈ grC K a g := List.mem_cons_of_mem _ List.mem_cons_self
theorem mem2 {a : GA} {g : GD} : Cell.dic a.d2 g.ups ∈ grC K a g := List.mem_cons_of_mem _ (List.mem_cons_of_mem _ List.mem_cons_self)
theorem mem3 {a : GA} {g : GD} : Cell.dic a.d3 g.downs ∈ grC K a g := List.mem_cons_of_mem _ (List.mem_cons_of_mem _ (List.mem_cons_of_mem _ List.mem_cons_self))
theorem ok_Gr_init (Fn : FnP K "__init__" "Graph.__init__" d_Graph___init__ f fd) (T : GraphT K mg) : FnOk P w K mg base (L2.CX P w) 2 f fd ["self"] (spGrInit K) := by
  refine fn_spM Fn sc_Graph___init__ (fun _ => rfl) ?_
  rintro ⟨p, dx, _⟩ _ cdv A outer s H E R C ok
  show S _ [some ⟨(At.mk p)⟩] [Cell.obj p (He.ga K "Graph") dx []] _ _
  refine S_fld 0 T.cl T.n1 (E_var 0) (E_lst ([] : List Int) A_nil) rfl ?_
  refine S_fldM T.cl T.n2 (EM_dnew Int Str) (fun _ _ _ z => z.elim) ?_
  rintro _ _ ⟨d1, rfl, rfl⟩
  refine ⟨p, dx, _, 1, E_var 0, rfl, by decide, ?_⟩
  refine S_fldM T.cl T.n3 (EM_dnew Int (List Int)) (fun _ _ _ z => z.elim) ?_
  rintro _ _ ⟨d2, rfl, rfl⟩
  refine ⟨p, dx, _, 2, E_var 0, rfl, by show 2 < 1000; decide, ?_⟩
  refine S_fldM T.cl T.n4 (EM_dnew Int (List Int)) (fun _ _ _ z => z.elim) ?_
  rintro _ _ ⟨d3, rfl, rfl⟩
  refine ⟨p, dx, _, 3, E_var 0, rfl, by show 3 < 1000; decide, ?_⟩
  refine S_perm (L' := grC K ⟨p, dx, d1, d2, d3⟩ GD.nil) (S_nil ⟨rfl, d1, d2, d3, rfl⟩) ?_
  exact List.reverse_perm (l := [Cell.dic d3 ([] : List (Int × List Int)), Cell.dic d2 ([] : List (Int × List Int)), Cell.dic d1 ([] : List (Int × Str)), _])
theorem ok_Gr_iter (Fn : FnP K "__iter__" "Graph.__iter__" d_Graph___iter__ f fd) (T : GraphT K mg) (hi : mg "iter" = none) : FnN P w K mg base (L2.CX P w) 2 f fd ["self"] (spGrIter K) := by
  refine fn_it Fn sc_Graph___iter__ rfl hi ?_
  rintro ⟨a, g⟩ _ cdv A outer s H E R C ok
  exact ⟨_, _, _, _, rfl, rfl, rfl, rfl, E_fldO T.cl T.n1 (E_var 0) mem0 rfl⟩
theorem ok_Gr_len (Fn : FnP K "__len__" "Graph.__len__" d_Graph___len__ f fd) (T : GraphT K mg) : FnOk P w K mg base (L2.CX P w) 2 f fd ["self"] (spGrLen K) := by
  refine fn_spM Fn sc_Graph___len__ (fun _ => rfl) ?_
  rintro ⟨a, g⟩ _ cdv A outer s H E R C ok
  show S _ [some ⟨(At.mk a.p)⟩] (grC K a g) _ _
  exact S_ret (E_biR calR_len (E_fldO T.cl T.n1 (E_var 0) mem0 rfl).imm T.len) ⟨rfl, rfl⟩
theorem ok_Gr_in (Fn : FnP K "__contains__" "Graph.__contains__" d_Graph___contains__ f fd) (T : GraphT K mg) : FnOk P w K mg base (L2.CX P w) 2 f fd ["self", "node"] (spGrIn K) := by
  refine fn_spM Fn sc_Graph___contains__ (fun _ => rfl) ?_
  rintro ⟨a, g, n⟩ _ cdv A outer s H E R C ok
  show S _ [some ⟨(At.mk a.p)⟩, some ⟨n⟩] (grC K a g) _ _
  exact S_ret (E_din ok (E_var 1) (ED.own (E_fldO T.cl T.n2 (E_var 0) mem0 rfl) mem1)) ⟨rfl, rfl⟩
theorem ok_Gr_get0 (Fn : FnP K "__getitem__" "Graph.__getitem__" d_Graph___getitem__ f fd) (T : GraphT K mg) : FnOk P w K mg base (L2.CX P w) 2 f fd ["self", "node"] (spGrGet0 K) := by
  refine fn_spM Fn sc_Graph___getitem__ (fun _ => rfl) ?_
  rintro ⟨a, g, n⟩ hn cdv A outer s H E R C ok
  have hn : (lkp g.told n).isSome = true := hn
  show S _ [some ⟨(At.mk a.p)⟩, some ⟨n⟩] (grC K a g) _ _
  refine S_if (T_dnin ok (E_var 1) (ED.own (E_fldO T.cl T.n2 (E_var 0) mem0 rfl) mem1)) (fun h => ?_) (fun h => ?_)
  · have h : (!(lkp g.told n).isSome) = true := h
    rw [hn] at h; cases h
  · refine S_nil (S_ret (E_dget ok (ED.own (E_fldO T.cl T.n2 (E_var 0) mem0 rfl) mem1) (E_var 1) (y := lab g n) ?_) ⟨rfl, rfl⟩)
    unfold lab
    cases q : lkp g.told n with
    | none => rw [q] at hn; cases hn
    | some y => rfl
theorem ok_Gr_set0 (Fn : FnP K "__setitem__" "Graph.__setitem__" d_Graph___setitem__ f fd) (T : GraphT K mg) (Il : Hs P w K mg base 4 "is_label" (spIsLabel K)) (Wn : Hs P w K mg base 2 "with_node" (spWithNode K)) : FnOk P w K mg base (L2.CX P w) 6 f fd ["self", "node", "label"] (spGrSet0 K) := by
  refine fn_spM Fn sc_Graph___setitem__ (fun _ => rfl) ?_
  rintro ⟨a, g, n, y⟩ ⟨⟨h0, h1⟩, hy, sm, hc⟩ cdv A outer s H E R C ok
  have h0 : 0 ≤ n := h0
  have h1 : n ≤ 999999 := h1
  have hy : isLabel y = true := hy
  have sm : GSm g := sm
  have hc : (lkp g.told n).isSome = true ∨ g.rows.length < 60 := hc
  have s1 := sm.rows
  have s2 := sm.told
  have s3 := sm.ups
  have s4 := sm.downs
  have e9 := sizeLine_eq
  obtain ⟨tg, hg⟩ := T.gr
  obtain ⟨mc, cr, u, cv⟩ := T.cr
  show S _ [some ⟨(At.mk a.p)⟩, some ⟨n⟩, some ⟨y⟩] (grC K a g) _ _
  refine S_if (T_w (T_or (T_cmp (E_var 1) E_int cmp_ltI (nomark _)) (fun _ => T_or1 (T_cmp (E_var 1) (E_gloI hg) cmp_gtI (nomark _))))) (fun h => ?_) (fun _ => ?_)
  · have h : (decide (n < 0) || decide ((999999 : Int) < n)) = true := h
    rw [decide_eq_false (by omega), decide_eq_false (by omega)] at h; cases h
  refine S_nil (S_if (T_not (T_val (E_call y ok Il (A_cons (E_var 2) A_nil) trivial))) (fun h => ?_) (fun _ => ?_))
  · have h : (!isLabel y) = true := h
    rw [hy] at h; cases h
  refine S_nil (S_ifM (fun env L => env = [some ⟨(At.mk a.p)⟩, some ⟨n⟩, some ⟨y⟩] ∧ L = grC K a { setG g n y with told := g.told }) (T_dnin ok (E_var 1) (ED.own (E_fldO T.cl T.n2 (E_var 0) mem0 rfl) mem1)) (fun h => ?_) (fun h => ?_) ?_)
  · have h : (!(lkp g.told n).isSome) = true := h
    have hn : (lkp g.told n).isSome = false := by cases q : (lkp g.told n).isSome with | false => rfl | true => rw [q] at h; cases h
    have hlt : g.rows.length < 60 := hc.elim (fun z => by rw [hn] at z; cases z) id
    refine S_if (T_cmp (E_biR calR_len (E_fldO T.cl T.n1 (E_var 0) mem0 rfl).imm T.len) (E_cval cr cv (E_glo T.g)) cmp_geI (nomark _)) (fun h2 => ?_) (fun _ => ?_)
    · have h2 : decide ((60 : Int) ≤ (g.rows.length : Int)) = true := h2
      rw [decide_eq_false (by omega)] at h2; cases h2
    refine S_nil (S_fld 0 T.cl T.n1 (E_var 0) (E_call (g.rows, n) ok Wn (A_cons (E_fldO T.cl T.n1 (E_var 0) mem0 rfl) (A_cons (E_var 1) A_nil)) (by show g.rows.length ≤ 1000; omega)) rfl ?_ (by show 4 < 1000; decide))
    refine S_dput (m := g.ups) 2 ok (E_lst ([] : List Int) A_nil) (E_fldO (fs := grF a { g with rows := withN g.rows n }) T.cl T.n3 (E_var 0) List.mem_cons_self rfl) (E_var 1) rfl (by omega) ?_
    refine S_dput (m := g.downs) 3 ok (E_lst ([] : List Int) A_nil) (E_fldO (fs := grF a { g with rows := withN g.rows n }) T.cl T.n4 (E_var 0) List.mem_cons_self rfl) (E_var 1) rfl (by omega) ?_
    refine S_nil ⟨rfl, ?_⟩
    unfold setG
    rw [hn]
    rfl
  · have h : (!(lkp g.told n).isSome) = false := h
    have hn : (lkp g.told n).isSome = true := by cases q : (lkp g.told n).isSome with | true => rfl | false => rw [q] at h; cases h
    refine S_nil ⟨rfl, ?_⟩
    unfold setG
    rw [hn]
    rfl
  · rintro _ _ ⟨rfl, rfl⟩
    refine S_dput (m := g.told) 1 ok (E_var 2) (E_fldO (fs := grF a (setG g n y)) T.cl T.n2 (E_var 0) List.mem_cons_self rfl) (E_var 1) rfl (by omega) ?_
    refine S_nil ⟨rfl, ?_⟩
    have e : (setG g n y).told = putA g.told n y := by unfold setG; split <;> rfl
    show grC K a { setG g n y with told := putA g.told n y } = grC K a (setG g n y)
    rw [← e]
theorem flatMap_take {α β : Type} {as : List α} {f : α → List β} {i : Nat} {a : α} (h : as[i]? = some a) : (as.take (i + 1)).flatMap f = (as.take i).flatMap f ++ f a := by
  rw [List.take_add_one, h, List.flatMap_append]
  simp
theorem flatMap_take_le {α β : Type} (as : List α) (f : α → List β) (i : Nat) : ((as.take i).flatMap f).length ≤ (as.flatMap f).length := by
  have e : (as.flatMap f) = (as.take i).flatMap f ++ (as.drop i).flatMap f := by rw [← List.flatMap_append, List.take_append_drop]
  rw [e, List.length_append]
  omega
theorem ok_Gr_edges (Fn : FnP K "edges" "Graph.edges" d_Graph_edges f fd) (T : GraphT K mg) : GFn P w K mg base 2 f fd ["self"] (spGrEdges K) := by
  refine fn_gen Fn (N := n_Graph_edges) ⟨rfl, rfl, rfl, by decide +kernel, rfl, by decide +kernel, by decide +kernel⟩ (by decide +kernel) (fun _ => rfl) ?_
  rintro ⟨a, g⟩ ⟨hn, hz⟩ cdv A outer s H E pn R C ok
  have hn : ∀ n ∈ g.rows, (lkp g.downs n).isSome = true := hn
  have hz : (edgesG g).length ≤ 100000 := hz
  have e9 := sizeLine_eq
  show SG _ [some ⟨(At.mk a.p)⟩, none, none] (grC K a g) _ _ _
  refine SG_cons (SG_for (β := P2 Int Int) ok (fun i zs env L => ∃ o1 o2 : Option Ent, zs = (g.rows.take i).flatMap (fun n => (nbr g.downs n).map fun c => P2.mk n c) ∧ env = [some ⟨(At.mk a.p)⟩, o1, o2] ∧ L = grC K a g) (EI_list (E_fldO T.cl T.n1 (E_var 0) mem0 rfl)) ⟨none, none, rfl, rfl, rfl⟩ ?_ ?_)
  · rintro i n zs env L hi ⟨o1, o2, rfl, rfl, rfl⟩
    refine ⟨_, _, G_name 1 ok.nd, ?_⟩
    have hn2 := hn n (List.mem_of_getElem? hi)
    have hne : lkp g.downs n = some (nbr g.downs n) := by
      unfold nbr
      cases q : lkp g.downs n with
      | none => rw [q] at hn2; cases hn2
      | some y => rfl
    refine SG_cons (SG_for (β := P2 Int Int) ok (fun j zs env L => ∃ o2 : Option Ent, zs = (g.rows.take i).flatMap (fun n => (nbr g.downs n).map fun c => P2.mk n c) ++ ((nbr g.downs n).take j).map (fun c => P2.mk n c) ∧ env = [some ⟨(At.mk a.p)⟩, some ⟨n⟩, o2] ∧ L = grC K a g) (EI_list (E_dget ok (ED.own (E_fldO T.cl T.n4 (E_var 0) mem0 rfl) mem3) (E_var 1) hne)) ⟨o2, by simp, rfl, rfl⟩ ?_ ?_)
    · rintro j c zs2 env2 L2 hj ⟨o3, rfl, rfl, rfl⟩
      refine ⟨_, _, G_name 2 ok.nd, ?_⟩
      refine SG_cons (SG_yield (E_tup2 (A_cons (E_var 1) (A_cons (E_var 2) A_nil))) ?_ (SG_nil ⟨some ⟨c⟩, ?_, rfl, rfl⟩))
      · have h1 := flatMap_take_le g.rows (fun n => (nbr g.downs n).map fun c => P2.mk n c) (i + 1)
        rw [flatMap_take hi] at h1
        have h2 : ((nbr g.downs n).take j).length ≤ (nbr g.downs n).length := by rw [List.length_take]; exact Nat.min_le_right _ _
        rw [List.length_append, List.length_map] at h1 ⊢
        unfold edgesG at hz
        omega
      · rw [List.take_add_one, hj, List.map_append, List.append_assoc]
        rfl
    · rintro zs2 env2 L2 ⟨o3, rfl, rfl, rfl⟩
      refine SG_nil ⟨some ⟨n⟩, o3, ?_, rfl, rfl⟩
      rw [List.take_length, flatMap_take hi]
  · rintro zs env L ⟨o1, o2, rfl, rfl, rfl⟩
    rw [List.take_length]
    exact SG_nil ⟨rfl, rfl⟩
end
theorem EM_Graph {C : Cz} {k : Nat} {env : Env} {L : List Cell} {p pos : Pos} (ok : C.Ok k) (M : Mks C.X.prog C.X.w C.X.K C.X.mg C.X.base 2 (He.ga C.X.K "Graph") "Graph" (spGrInit C.X.K)) (hj : 3 ≤ k := by decide) (hg : Gl C.X "Graph" := by rfl) :
    EM C env L (.Call (.Name "Graph" p) [] [] pos) (fun r L' => ∃ a : GA, r = ⟨(At.mk a.p)⟩ ∧ L' = grC C.X.K a GD.nil ++ L) (fun _ _ _ => False) := by
  have h := EM_make0 (pos := pos) (p := p) (env := env) (L := L) (δ := Unit) (pre := fun _ => True) (post := fun p dx _ r L' => r = ⟨()⟩ ∧ ∃ d1 d2 d3, L' = grC C.X.K ⟨p, dx, d1, d2, d3⟩ GD.nil) (exc := fun _ _ _ _ _ _ => False) () ok M (fun _ _ _ _ _ h => h.1) trivial hj hg
  refine EM.imp h ?_ ?_
  · rintro r L' ⟨p, dx, L1, rfl, ⟨_, d1, d2, d3, rfl⟩, rfl⟩
    exact ⟨⟨p, dx, d1, d2, d3⟩, rfl, rfl⟩
  · rintro c d L' ⟨_, _, _, z, _⟩
    exact z

/-! ### numbers for marks -/
section
variable {α : Type} [DecidableEq α]
structure NumS (α : Type) where
  known : List (α × Int)
  found : List (Int × Int)
def numStep (mk : Int → α) (s : NumS α) (n : Int) : NumS α :=
  let kn := if (lkp s.known (mk n)).isSome then s.known else putA s.known (mk n) (s.known.length : Int)
  ⟨kn, putA s.found n ((lkp kn (mk n)).getD 0)⟩
def numT (mk : Int → α) (ns : List Int) : NumS α := ns.foldl (numStep mk) ⟨[], []⟩
theorem numT_take {mk : Int → α} {ns : List Int} {i : Nat} {n : Int} (h : ns[i]? = some n) : numT mk (ns.take (i + 1)) = numStep mk (numT mk (ns.take i)) n := by
  unfold numT
  rw [List.take_add_one, h]
  show ((ns.take i) ++ [n]).foldl _ _ = _
  rw [List.foldl_append]
  rfl
theorem numStep_len (mk : Int → α) (s : NumS α) (n : Int) : (numStep mk s n).known.length ≤ s.known.length + 1 ∧ (numStep mk s n).found.length ≤ s.found.length + 1 := by
  refine ⟨?_, putA_len _ _ _⟩
  show (if (lkp s.known (mk n)).isSome then s.known else putA s.known (mk n) (s.known.length : Int)).length ≤ _
  split
  · omega
  · exact putA_len _ _ _
theorem numStep_in (mk : Int → α) (s : NumS α) (n : Int) : (lkp (numStep mk s n).known (mk n)).isSome = true := by
  show (lkp (if (lkp s.known (mk n)).isSome then s.known else putA s.known (mk n) (s.known.length : Int)) (mk n)).isSome = true
  split
  · assumption
  · rw [lkp_put, if_pos rfl]; rfl
theorem numT_len (mk : Int → α) (ns : List Int) : ∀ i, i ≤ ns.length → (numT mk (ns.take i)).known.length ≤ i ∧ (numT mk (ns.take i)).found.length ≤ i
  | 0, _ => ⟨Nat.le_refl _, Nat.le_refl _⟩
  | i + 1, hi => by
    have hlt : i < ns.length := hi
    rw [numT_take (List.getElem?_eq_getElem hlt)]
    obtain ⟨h1, h2⟩ := numT_len mk ns i (by omega)
    obtain ⟨h3, h4⟩ := numStep_len mk (numT mk (ns.take i)) ns[i]
    omega
end
def mkOf {α : Type} [Inhabited α] (m : List (Int × α)) (n : Int) : α := (lkp m n).getD default
instance : Inhabited (P2 Int (Tup Int)) := ⟨⟨0, ⟨[]⟩⟩⟩
def spNumS (K : PySem.W.Frag) : Sp := spM (γ := Addr × List (Int × Str) × List Int) K (fun g => [⟨(At.mk g.1)⟩, ⟨g.2.2⟩]) (fun g => [Cell.dic g.1 g.2.1]) (fun g => (∀ n ∈ g.2.2, (lkp g.2.1 n).isSome = true) ∧ g.2.2.length ≤ 1000)
  (fun g r L' => ∃ d, r = ⟨(At.mk d)⟩ ∧ L' = [Cell.dic d (numT (mkOf g.2.1) g.2.2).found, Cell.dic g.1 g.2.1]) (fun _ _ _ _ => False)
def spSeen (K : PySem.W.Frag) : Sp := spB (γ := Addr × List (Int × Int) × List Int) K (fun g => [⟨(At.mk g.1)⟩, ⟨g.2.2⟩]) (fun g => [Cell.dic g.1 g.2.1]) (fun g => (∀ n ∈ g.2.2, (lkp g.2.1 n).isSome = true) ∧ g.2.2.length < 64) (fun g => ⟨(Tup.mk (usortI (g.2.2.map (mkOf g.2.1))))⟩)
def spNumK (K : PySem.W.Frag) : Sp := spM (γ := Addr × List (Int × P2 Int (Tup Int)) × List Int) K (fun g => [⟨(At.mk g.1)⟩, ⟨g.2.2⟩]) (fun g => [Cell.dic g.1 g.2.1]) (fun g => (∀ n ∈ g.2.2, (lkp g.2.1 n).isSome = true) ∧ g.2.2.length ≤ 1000)
  (fun g r L' => ∃ d, r = ⟨(At.mk d)⟩ ∧ L' = [Cell.dic d (numT (mkOf g.2.1) g.2.2).found, Cell.dic g.1 g.2.1]) (fun _ _ _ _ => False)
section
variable {P : Program} {w : World} {K : PySem.W.Frag} {mg : Str → Option Value} {base : Heap} {f : Addr} {fd : FuncData}
theorem ok_numberedS (Fn : FnP K "numbered" "numbered" d_numbered f fd) (hl : mg "len" = none) : FnOk P w K mg base (L2.CX P w) 2 f fd ["marks", "nodes"] (spNumS K) := by
  refine fn_spM Fn sc_numbered (fun _ => rfl) ?_
  rintro ⟨dm, m, ns⟩ ⟨hn, hz⟩ cdv A outer s H E R C ok
  have hn : ∀ n ∈ ns, (lkp m n).isSome = true := hn
  have hz : ns.length ≤ 1000 := hz
  have e9 := sizeLine_eq
  show S _ [some ⟨(At.mk dm)⟩, some ⟨ns⟩, none, none, none, none] [Cell.dic dm m] _ _
  refine S_setM 2 ok.nd (EM_dnew Str Int) ?_ (fun _ _ _ z => z.elim)
  rintro _ _ ⟨dk, rfl, rfl⟩
  refine S_setM 3 ok.nd (EM_dnew Int Int) ?_ (fun _ _ _ z => z.elim)
  rintro _ _ ⟨df, rfl, rfl⟩
  refine S_for ok (fun i env L => ∃ o1 o2 : Option Ent, env = [some ⟨(At.mk dm)⟩, some ⟨ns⟩, some ⟨(At.mk dk)⟩, some ⟨(At.mk df)⟩, o1, o2] ∧ L = [Cell.dic df (numT (mkOf m) (ns.take i)).found, Cell.dic dk (numT (mkOf m) (ns.take i)).known, Cell.dic dm m]) (EI_list (E_var 1)) ⟨none, none, rfl, rfl⟩ ?_ ?_
  · rintro i n env' L' hi ⟨o1, o2, rfl, rfl⟩
    refine ⟨_, _, G_name 4 ok.nd, ?_⟩
    have hm2 := hn n (List.mem_of_getElem? hi)
    have hmk : lkp m n = some (mkOf m n) := by
      unfold mkOf
      cases q : lkp m n with
      | none => rw [q] at hm2; cases hm2
      | some y => rfl
    have hi2 : i < ns.length := (List.getElem?_eq_some_iff.mp hi).1
    obtain ⟨l1, l2⟩ := numT_len (mkOf m) ns i (by omega)
    generalize hT : numT (mkOf m) (ns.take i) = T at l1 l2
    have hN : numT (mkOf m) (ns.take (i + 1)) = numStep (mkOf m) T n := by rw [← hT]; exact numT_take hi
    refine S_set 5 ok.nd (E_dget ok (ED.own (E_var 0) (List.mem_cons_of_mem _ (List.mem_cons_of_mem _ List.mem_cons_self))) (E_var 4) hmk) ?_
    refine S_ifM (fun env L => env = [some ⟨(At.mk dm)⟩, some ⟨ns⟩, some ⟨(At.mk dk)⟩, some ⟨(At.mk df)⟩, some ⟨n⟩, some ⟨(mkOf m n)⟩] ∧ L = [Cell.dic df T.found, Cell.dic dk (numStep (mkOf m) T n).known, Cell.dic dm m]) (T_dnin ok (E_var 5) (ED.own (E_var 2) (List.mem_cons_of_mem _ List.mem_cons_self))) (fun h => ?_) (fun h => ?_) ?_
    · have h : (!(lkp T.known (mkOf m n)).isSome) = true := h
      refine S_dput 1 ok (E_lenD (ED.own (E_var 2) (List.mem_cons_of_mem _ List.mem_cons_self)) hl) (E_var 2) (E_var 5) rfl (by omega) (S_nil ⟨rfl, ?_⟩)
      have e : (numStep (mkOf m) T n).known = putA T.known (mkOf m n) (T.known.length : Int) := by
        show (if (lkp T.known (mkOf m n)).isSome then T.known else _) = _
        rw [if_neg (by intro z; rw [z] at h; cases h)]
      rw [e]; rfl
    · have h : (!(lkp T.known (mkOf m n)).isSome) = false := h
      refine S_nil ⟨rfl, ?_⟩
      have e : (numStep (mkOf m) T n).known = T.known := by
        show (if (lkp T.known (mkOf m n)).isSome then T.known else _) = _
        rw [if_pos (by cases q : (lkp T.known (mkOf m n)).isSome with | true => rfl | false => rw [q] at h; cases h)]
      rw [e]
    · rintro _ _ ⟨rfl, rfl⟩
      refine S_dput 0 ok (E_dget ok (ED.own (E_var 2) (List.mem_cons_of_mem _ List.mem_cons_self)) (E_var 5) (y := (lkp (numStep (mkOf m) T n).known (mkOf m n)).getD 0) ?_) (E_var 3) (E_var 4) rfl (by omega) (S_nil ⟨_, _, rfl, ?_⟩)
      · have h := numStep_in (mkOf m) T n
        cases q : lkp (numStep (mkOf m) T n).known (mkOf m n) with
        | none => rw [q] at h; cases h
        | some y => rfl
      · rw [hN]; rfl
  · rintro env' L' ⟨o1, o2, rfl, rfl⟩
    rw [List.take_length]
    refine S_drop [Cell.dic dk (numT (mkOf m) ns).known] (L' := [Cell.dic df (numT (mkOf m) ns).found, Cell.dic dm m]) (S_ret (E_var 3) ⟨df, rfl, rfl⟩) (List.Perm.swap _ _ _)
theorem ok_numberedK (Fn : FnP K "numbered" "numbered" d_numbered f fd) (hl : mg "len" = none) : FnOk P w K mg base (L2.CX P w) 2 f fd ["marks", "nodes"] (spNumK K) := by
  refine fn_spM Fn sc_numbered (fun _ => rfl) ?_
  rintro ⟨dm, m, ns⟩ ⟨hn, hz⟩ cdv A outer s H E R C ok
  have hn : ∀ n ∈ ns, (lkp m n).isSome = true := hn
  have hz : ns.length ≤ 1000 := hz
  have e9 := sizeLine_eq
  show S _ [some ⟨(At.mk dm)⟩, some ⟨ns⟩, none, none, none, none] [Cell.dic dm m] _ _
  refine S_setM 2 ok.nd (EM_knew (P2 Int (Tup Int)) Int) ?_ (fun _ _ _ z => z.elim)
  rintro _ _ ⟨dk, rfl, rfl⟩
  refine S_setM 3 ok.nd (EM_dnew Int Int) ?_ (fun _ _ _ z => z.elim)
  rintro _ _ ⟨df, rfl, rfl⟩
  refine S_for ok (fun i env L => ∃ o1 o2 : Option Ent, env = [some ⟨(At.mk dm)⟩, some ⟨ns⟩, some ⟨(At.mk dk)⟩, some ⟨(At.mk df)⟩, o1, o2] ∧ L = [Cell.dic df (numT (mkOf m) (ns.take i)).found, Cell.dkn C.X.prog C.X.w dk (numT (mkOf m) (ns.take i)).known, Cell.dic dm m]) (EI_list (E_var 1)) ⟨none, none, rfl, rfl⟩ ?_ ?_
  · rintro i n env' L' hi ⟨o1, o2, rfl, rfl⟩
    refine ⟨_, _, G_name 4 ok.nd, ?_⟩
    have hm2 := hn n (List.mem_of_getElem? hi)
    have hmk : lkp m n = some (mkOf m n) := by
      unfold mkOf
      cases q : lkp m n with
      | none => rw [q] at hm2; cases hm2
      | some y => rfl
    have hi2 : i < ns.length := (List.getElem?_eq_some_iff.mp hi).1
    obtain ⟨l1, l2⟩ := numT_len (mkOf m) ns i (by omega)
    generalize hT : numT (mkOf m) (ns.take i) = T at l1 l2
    have hN : numT (mkOf m) (ns.take (i + 1)) = numStep (mkOf m) T n := by rw [← hT]; exact numT_take hi
    refine S_set 5 ok.nd (E_dget ok (ED.own (E_var 0) (List.mem_cons_of_mem _ (List.mem_cons_of_mem _ List.mem_cons_self))) (E_var 4) hmk) ?_
    refine S_ifM (fun env L => env = [some ⟨(At.mk dm)⟩, some ⟨ns⟩, some ⟨(At.mk dk)⟩, some ⟨(At.mk df)⟩, some ⟨n⟩, some ⟨(mkOf m n)⟩] ∧ L = [Cell.dic df T.found, Cell.dkn C.X.prog C.X.w dk (numStep (mkOf m) T n).known, Cell.dic dm m]) (T_knin ok (E_var 5) (EK.own (E_var 2) (List.mem_cons_of_mem _ List.mem_cons_self))) (fun h => ?_) (fun h => ?_) ?_
    · have h : (!(lkp T.known (mkOf m n)).isSome) = true := h
      refine S_kput 1 ok (E_lenK (EK.own (E_var 2) (List.mem_cons_of_mem _ List.mem_cons_self)) hl) (E_var 2) (E_var 5) rfl (by omega) (S_nil ⟨rfl, ?_⟩)
      have e : (numStep (mkOf m) T n).known = putA T.known (mkOf m n) (T.known.length : Int) := by
        show (if (lkp T.known (mkOf m n)).isSome then T.known else _) = _
        rw [if_neg (by intro z; rw [z] at h; cases h)]
      rw [e]; rfl
    · have h : (!(lkp T.known (mkOf m n)).isSome) = false := h
      refine S_nil ⟨rfl, ?_⟩
      have e : (numStep (mkOf m) T n).known = T.known := by
        show (if (lkp T.known (mkOf m n)).isSome then T.known else _) = _
        rw [if_pos (by cases q : (lkp T.known (mkOf m n)).isSome with | true => rfl | false => rw [q] at h; cases h)]
      rw [e]
    · rintro _ _ ⟨rfl, rfl⟩
      refine S_dput 0 ok (E_kget ok (EK.own (E_var 2) (List.mem_cons_of_mem _ List.mem_cons_self)) (E_var 5) (y := (lkp (numStep (mkOf m) T n).known (mkOf m n)).getD 0) ?_) (E_var 3) (E_var 4) rfl (by omega) (S_nil ⟨_, _, rfl, ?_⟩)
      · have h := numStep_in (mkOf m) T n
        cases q : lkp (numStep (mkOf m) T n).known (mkOf m n) with
        | none => rw [q] at h; cases h
        | some y => rfl
      · rw [hN]; rfl
  · rintro env' L' ⟨o1, o2, rfl, rfl⟩
    rw [List.take_length]
    refine S_drop [Cell.dkn C.X.prog C.X.w dk (numT (mkOf m) ns).known] (L' := [Cell.dic df (numT (mkOf m) ns).found, Cell.dic dm m]) (S_ret (E_var 3) ⟨df, rfl, rfl⟩) (List.Perm.swap _ _ _)
theorem mkOf_at {m : List (Int × Int)} {n : Int} (h : (lkp m n).isSome = true) : lkp m n = some (mkOf m n) := by
  unfold mkOf
  cases q : lkp m n with
  | none => rw [q] at h; cases h
  | some y => rfl
theorem ok_seen (Fn : FnP K "seen" "seen" d_seen f fd) (ht : mg "tuple" = none) (hs : mg "sorted" = none) (he : mg "set" = none) (hi : mg "int" = none) : FnOk P w K mg base (L2.CX P w) 2 f fd ["kinds", "nodes"] (spSeen K) := by
  refine fn_spM Fn sc_seen (fun _ => rfl) ?_
  rintro ⟨d, m, ns⟩ ⟨hn, hz⟩ cdv A outer s H E R C ok
  have hn : ∀ n ∈ ns, (lkp m n).isSome = true := hn
  have hz : ns.length < 64 := hz
  show S _ [some ⟨(At.mk d)⟩, some ⟨ns⟩, none] [Cell.dic d m] _ _
  have hl : (picks (fun x : Int => mkOf m x) (fun _ => true) ns).length < 64 := by
    unfold picks
    rw [List.length_map]
    exact Nat.lt_of_le_of_lt (List.length_filter_le _ _) hz
  refine S_ret (E_biR calR_tuple (E_bi (cal_sortedSet ok.calm hl) (A_cons (E_biR (calR_set ok.calm (by omega)) (E_lc [("node", 2)] (fun x : Int => mkOf m x) (fun _ => true) ok (EI_list (E_var 1)) ?_ (blkOk_by (by rfl))).imm he) A_nil) hs).imm ht) ⟨?_, rfl⟩
  · intro i a ha
    refine ⟨_, _, ?_, fun R s H C0 cl fp okb => ⟨G_name 2 okb.nd, Ts_nil, fun _ => E_bi cal_intI (A_cons (E_dget okb (ED.own (E_var 0) List.mem_cons_self) (E_var 2) (mkOf_at (hn _ (List.mem_of_getElem? ha)))) A_nil) hi⟩⟩
    intro x hx
    exact hx
  · show (⟨(Tup.mk (usortI (picks (fun x : Int => mkOf m x) (fun _ => true) ns)))⟩ : Ent) = _
    unfold picks
    rw [List.filter_eq_self.mpr fun _ _ => rfl]
end

/-! ### classes -/
theorem numT_in {α : Type} [DecidableEq α] (mk : Int → α) (ns : List Int) : ∀ (i : Nat) (n : Int), n ∈ ns.take i → (lkp (numT mk (ns.take i)).found n).isSome = true
  | 0, n, h => by simp at h
  | i + 1, n, h => by
    by_cases hi : i < ns.length
    · rw [numT_take (List.getElem?_eq_getElem hi)]
      show (lkp (putA (numT mk (ns.take i)).found ns[i] _) n).isSome = true
      rw [lkp_put]
      split
      · rfl
      · rename_i hne
        rw [List.take_add_one, List.getElem?_eq_getElem hi] at h
        rcases List.mem_append.mp h with z | z
        · exact numT_in mk ns i n z
        · exact absurd (List.mem_singleton.mp z) hne
    · rw [List.take_of_length_le (by omega)] at h ⊢
      have h2 := numT_in mk ns i n (by rw [List.take_of_length_le (by omega)]; exact h)
      rwa [List.take_of_length_le (by omega)] at h2
theorem numF_in {α : Type} [DecidableEq α] {mk : Int → α} {ns : List Int} {n : Int} (h : n ∈ ns) : (lkp (numT mk ns).found n).isSome = true := by
  have h2 := numT_in mk ns ns.length n (by rw [List.take_length]; exact h)
  rwa [List.take_length] at h2
theorem lkp_foldl {β : Type} (fv : Int → β) (n : Int) : ∀ (as : List Int) (m : List (Int × β)), lkp (as.foldl (fun m a => putA m a (fv a)) m) n = if n ∈ as then some (fv n) else lkp m n
  | [], m => by simp
  | a :: as, m => by
    rw [List.foldl_cons, lkp_foldl fv n as, lkp_put]
    by_cases h : n ∈ as
    · rw [if_pos h, if_pos (List.mem_cons_of_mem _ h)]
    · rw [if_neg h]
      by_cases h2 : n = a
      · rw [if_pos h2, if_pos (by rw [h2]; exact List.mem_cons_self), h2]
      · rw [if_neg h2, if_neg (fun z => (List.mem_cons.mp z).elim h2 h)]
theorem lkp_dcF {β : Type} (fv : Int → β) (as : List Int) (n : Int) : lkp (dcF (fun n : Int => n) fv (fun _ => true) as) n = if n ∈ as then some (fv n) else none := by
  unfold dcF
  rw [List.filter_eq_self.mpr fun _ _ => rfl, lkp_foldl]
  rfl
def markF (near : List (Int × List Int)) (ks : List (Int × Int)) (n : Int) : P2 Int (Tup Int) := P2.mk (mkOf ks n) ⟨usortI ((nbr near n).map (mkOf ks))⟩
def marksF (near : List (Int × List Int)) (rows : List Int) (ks : List (Int × Int)) : List (Int × P2 Int (Tup Int)) := dcF (fun n : Int => n) (markF near ks) (fun _ => true) rows
def nearF (g : GD) (c : Str) : List (Int × List Int) := if c = "U" then g.ups else g.downs
def roundF (g : GD) (ks : List (Int × Int)) (c : Str) : List (Int × Int) := (numT (mkOf (marksF (nearF g c) g.rows ks)) g.rows).found
def kindsF (g : GD) (cs : List Str) : List (Int × Int) := cs.foldl (roundF g) (numT (mkOf g.told) g.rows).found
theorem kindsF_take {g : GD} {cs : List Str} {i : Nat} {c : Str} (h : cs[i]? = some c) : kindsF g (cs.take (i + 1)) = roundF g (kindsF g (cs.take i)) c := by
  unfold kindsF
  rw [List.take_add_one, h, List.foldl_append]
  rfl
theorem kindsF_in {g : GD} {n : Int} (h : n ∈ g.rows) (cs : List Str) : (lkp (kindsF g cs) n).isSome = true := by
  unfold kindsF
  rcases List.eq_nil_or_concat cs with rfl | ⟨l, c, rfl⟩
  · exact numF_in h
  · rw [List.concat_eq_append, List.foldl_append]
    exact numF_in h
/-- a graph whose parts fit -/
structure GOk (g : GD) : Prop where
  sm : GSm g
  told : ∀ n ∈ g.rows, (lkp g.told n).isSome = true
  ups : ∀ n ∈ g.rows, (lkp g.ups n).isSome = true
  downs : ∀ n ∈ g.rows, (lkp g.downs n).isSome = true
  up : ∀ n ∈ g.rows, (∀ x ∈ nbr g.ups n, x ∈ g.rows) ∧ (nbr g.ups n).length ≤ 60
  down : ∀ n ∈ g.rows, (∀ x ∈ nbr g.downs n, x ∈ g.rows) ∧ (nbr g.downs n).length ≤ 60
def spKinds (K : PySem.W.Frag) : Sp := spM (γ := GA × GD × Wd) K (fun g => [⟨(At.mk g.1.p)⟩, ⟨g.2.2⟩]) (fun g => grC K g.1 g.2.1) (fun g => GOk g.2.1)
  (fun g r L' => ∃ d, r = ⟨(At.mk d)⟩ ∧ L' = Cell.dic d (kindsF g.2.1 (signs g.2.2.t)) :: grC K g.1 g.2.1) (fun _ _ _ _ => False)
section
variable {P : Program} {w : World} {K : PySem.W.Frag} {mg : Str → Option Value} {base : Heap} {f : Addr} {fd : FuncData}
theorem ok_kinds_of (Fn : FnP K "kinds_of" "kinds_of" d_kinds_of f fd) (T : GraphT K mg) (NS : Hs P w K mg base 2 "numbered" (spNumS K)) (NK : Hs P w K mg base 2 "numbered" (spNumK K)) (Sn : Hs P w K mg base 2 "seen" (spSeen K)) (It : Mi P w K mg base 2 (He.ga K "Word") (spWordIter K)) : FnOk P w K mg base (L2.CX P w) 4 f fd ["graph", "word"] (spKinds K) := by
  refine fn_spM Fn sc_kinds_of (fun _ => rfl) ?_
  rintro ⟨a, g, wd⟩ gok cdv A outer s H E R C ok
  have gok : GOk g := gok
  have s1 := gok.sm.rows
  have e9 := sizeLine_eq
  show S _ [some ⟨(At.mk a.p)⟩, some ⟨wd⟩, none, none, none, none, none] (grC K a g) _ _
  refine S_setM 2 ok.nd (EM_call (a.d1, g.told, g.rows) ok NS (A_cons (E_fldO T.cl T.n2 (E_var 0) mem0 rfl) (A_cons (E_fldO T.cl T.n1 (E_var 0) mem0 rfl) A_nil)) ⟨gok.told, by show g.rows.length ≤ 1000; omega⟩ (LR := [Cell.obj a.p (He.ga K "Graph") a.dx (grF a g), Cell.dic a.d2 g.ups, Cell.dic a.d3 g.downs]) (List.Perm.swap _ _ _)) ?_ (fun _ _ _ ⟨_, z, _⟩ => z.elim)
  rintro _ _ ⟨_, ⟨dk, rfl, rfl⟩, rfl⟩
  refine S_perm (L' := Cell.dic dk (kindsF g []) :: grC K a g) ?_ (List.Perm.cons _ (List.Perm.swap _ _ _))
  refine S_for ok (fun i env L => ∃ (dk : Addr) (o3 o4 o5 : Option Ent), env = [some ⟨(At.mk a.p)⟩, some ⟨wd⟩, some ⟨(At.mk dk)⟩, o3, o4, o5, none] ∧ L = Cell.dic dk (kindsF g ((signs wd.t).take i)) :: grC K a g) (EI_own wd ok It (E_var 1) trivial (LR := Cell.dic dk (kindsF g []) :: grC K a g) (List.Perm.refl _) (Seen.of isI_Wd)) ⟨dk, none, none, none, rfl, rfl⟩ ?_ ?_
  · rintro i c env' L' hi ⟨dk, o3, o4, o5, rfl, rfl⟩
    refine ⟨_, _, G_name 3 ok.nd, ?_⟩
    generalize hK : kindsF g ((signs wd.t).take i) = ks
    have hks : ∀ n ∈ g.rows, (lkp ks n).isSome = true := fun n hn => by rw [← hK]; exact kindsF_in hn _
    have hN : kindsF g ((signs wd.t).take (i + 1)) = roundF g ks c := by rw [kindsF_take hi, hK]
    refine S_set 4 ok.nd (E_fldO T.cl T.n4 (E_var 0) (List.mem_cons_of_mem _ mem0) rfl) ?_
    refine S_ifM (fun env L => env = [some ⟨(At.mk a.p)⟩, some ⟨wd⟩, some ⟨(At.mk dk)⟩, some ⟨c⟩, some ⟨(At.mk (if c = "U" then a.d2 else a.d3))⟩, o5, none] ∧ L = Cell.dic dk ks :: grC K a g) (T_cmp (E_var 3) E_str cmp_eqS (nomark _)) (fun h => ?_) (fun h => ?_) ?_
    · have h : decide (c = "U") = true := h
      refine S_set 4 ok.nd (E_fldO T.cl T.n3 (E_var 0) (List.mem_cons_of_mem _ mem0) rfl) (S_nil ⟨?_, rfl⟩)
      rw [if_pos (of_decide_eq_true h)]; rfl
    · have h : decide (c = "U") = false := h
      refine S_nil ⟨?_, rfl⟩
      rw [if_neg (of_decide_eq_false h)]; rfl
    · rintro _ _ ⟨rfl, rfl⟩
      have hnear : Cell.dic (if c = "U" then a.d2 else a.d3) (nearF g c) ∈ Cell.dic dk ks :: grC K a g := by
        unfold nearF
        split
        · exact List.mem_cons_of_mem _ mem2
        · exact List.mem_cons_of_mem _ mem3
      have hnb : ∀ n ∈ g.rows, lkp (nearF g c) n = some (nbr (nearF g c) n) ∧ (∀ x ∈ nbr (nearF g c) n, x ∈ g.rows) ∧ (nbr (nearF g c) n).length ≤ 60 := fun n hn => by
        unfold nearF nbr
        split
        · refine ⟨?_, gok.up n hn⟩
          have h := gok.ups n hn
          cases q : lkp g.ups n with
          | none => rw [q] at h; cases h
          | some y => rfl
        · refine ⟨?_, gok.down n hn⟩
          have h := gok.downs n hn
          cases q : lkp g.downs n with
          | none => rw [q] at h; cases h
          | some y => rfl
      refine S_setDc 5 [("node", 6)] (fun n : Int => n) (markF (nearF g c) ks) (fun _ => true) ok (EI_list (E_fldO T.cl T.n1 (E_var 0) (List.mem_cons_of_mem _ mem0) rfl)) ?_ ?_
      · intro j n hj
        have hn := List.mem_of_getElem? hj
        obtain ⟨n1, n2, n3⟩ := hnb n hn
        refine ⟨_, _, ?_, fun R s H C0 cl fp okb => ⟨G_name 6 okb.nd, Ts_nil, fun _ => ⟨E_var 6, ?_⟩⟩⟩
        · intro x hx
          exact hx
        · refine E_tup2 (A_cons (E_dget okb (ED.own (E_var 2) List.mem_cons_self) (E_var 6) (mkOf_at (hks n hn))) (A_cons ?_ A_nil))
          refine EM.lent (γ := Addr × List (Int × Int) × List Int) (g := (dk, ks, nbr (nearF g c) n)) (cel := fun g => [Cell.dic g.1 g.2.1]) (res := fun g => ⟨(Tup.mk (usortI (g.2.2.map (mkOf g.2.1))))⟩) (List.Perm.refl _) ?_
          exact EM_call (dk, ks, nbr (nearF g c) n) okb Sn (A_cons (E_var 2) (A_cons (E_dget okb (ED.own (E_var 4) hnear) (E_var 6) n1) A_nil)) ⟨fun x hx => hks x (n2 x hx), by show (nbr (nearF g c) n).length < 64; omega⟩ (List.Perm.refl _)
      intro dm
      refine S_setM 2 ok.nd (EM_call (dm, marksF (nearF g c) g.rows ks, g.rows) ok NK (A_cons (E_var 5) (A_cons (E_fldO T.cl T.n1 (E_var 0) (List.mem_cons_of_mem _ (List.mem_cons_of_mem _ mem0)) rfl) A_nil)) ⟨fun n hn => by
        show (lkp (marksF (nearF g c) g.rows ks) n).isSome = true
        unfold marksF
        rw [lkp_dcF, if_pos hn]; rfl, by show g.rows.length ≤ 1000; omega⟩ (LR := Cell.dic dk ks :: grC K a g) (List.Perm.refl _)) ?_ (fun _ _ _ ⟨_, z, _⟩ => z.elim)
      rintro _ _ ⟨_, ⟨d2, rfl, rfl⟩, rfl⟩
      refine S_drop [Cell.dic dm (marksF (nearF g c) g.rows ks), Cell.dic dk ks] (L' := Cell.dic d2 (roundF g ks c) :: grC K a g) (S_nil ⟨d2, _, _, _, rfl, by rw [hN]⟩) ?_
      exact (List.perm_middle (l₁ := [Cell.dic dm (marksF (nearF g c) g.rows ks), Cell.dic dk ks]) (l₂ := grC K a g) (a := Cell.dic d2 (roundF g ks c)))
  · rintro env' L' ⟨dk, o3, o4, o5, rfl, rfl⟩
    rw [List.take_length]
    exact S_ret (E_var 2) ⟨dk, rfl, rfl⟩
end

/-! ### numbers part the nodes -/
structure NumI {α : Type} [DecidableEq α] (mk : Int → α) (ns : List Int) (s : NumS α) : Prop where
  rg : ∀ a i, lkp s.known a = some i → 0 ≤ i ∧ i < (s.known.length : Int)
  inj : ∀ a b i, lkp s.known a = some i → lkp s.known b = some i → a = b
  fd : ∀ n ∈ ns, ∃ i, lkp s.found n = some i ∧ lkp s.known (mk n) = some i
theorem numI {α : Type} [DecidableEq α] (mk : Int → α) (ns : List Int) : ∀ i, i ≤ ns.length → NumI mk (ns.take i) (numT mk (ns.take i))
  | 0, _ => by
    refine ⟨fun a i h => ?_, fun a b i h => ?_, fun n hn => ?_⟩
    · cases h
    · cases h
    · simp at hn
  | i + 1, hi => by
    have hlt : i < ns.length := hi
    have ih := numI mk ns i (by omega)
    rw [numT_take (List.getElem?_eq_getElem hlt)]
    generalize hx : ns[i] = x
    have htk : ns.take (i + 1) = ns.take i ++ [x] := by rw [List.take_add_one, List.getElem?_eq_getElem hlt, hx]; rfl
    rw [htk]
    generalize numT mk (ns.take i) = s at ih
    generalize ns.take i = p at ih
    cases q : (lkp s.known (mk x)).isSome with
    | true =>
      have e : numStep mk s x = ⟨s.known, putA s.found x ((lkp s.known (mk x)).getD 0)⟩ := by unfold numStep; simp [q]
      rw [e]
      refine ⟨ih.rg, ih.inj, fun n hn => ?_⟩
      show ∃ i, lkp (putA s.found x ((lkp s.known (mk x)).getD 0)) n = some i ∧ lkp s.known (mk n) = some i
      rw [lkp_put]
      by_cases h : n = x
      · rw [if_pos h, h]
        cases z : lkp s.known (mk x) with
        | none => rw [z] at q; cases q
        | some y => exact ⟨y, rfl, rfl⟩
      · rw [if_neg h]
        rcases List.mem_append.mp hn with z | z
        · exact ih.fd n z
        · exact absurd (List.mem_singleton.mp z) h
    | false =>
      have e : numStep mk s x = ⟨putA s.known (mk x) (s.known.length : Int), putA s.found x (s.known.length : Int)⟩ := by
        unfold numStep
        simp [q]
        rw [lkp_put, if_pos rfl]; rfl
      have hlen : (putA s.known (mk x) (s.known.length : Int)).length = s.known.length + 1 := by
        unfold putA
        rw [if_neg (by rw [q]; decide), List.length_append]; rfl
      rw [e]
      refine ⟨fun a j h => ?_, fun a b j h1 h2 => ?_, fun n hn => ?_⟩
      · have h : lkp (putA s.known (mk x) (s.known.length : Int)) a = some j := h
        show 0 ≤ j ∧ j < ((putA s.known (mk x) (s.known.length : Int)).length : Int)
        rw [hlen]
        rw [lkp_put] at h
        split at h
        · cases h; omega
        · have := ih.rg a j h; omega
      · have h1 : lkp (putA s.known (mk x) (s.known.length : Int)) a = some j := h1
        have h2 : lkp (putA s.known (mk x) (s.known.length : Int)) b = some j := h2
        rw [lkp_put] at h1 h2
        split at h1
        · rename_i ha
          cases h1
          split at h2
          · rename_i hb
            rw [ha, hb]
          · have := ih.rg b _ h2; omega
        · split at h2
          · cases h2
            have := ih.rg a _ h1; omega
          · exact ih.inj a b j h1 h2
      · show ∃ i, lkp (putA s.found x (s.known.length : Int)) n = some i ∧ lkp (putA s.known (mk x) (s.known.length : Int)) (mk n) = some i
        rw [lkp_put, lkp_put]
        by_cases h : n = x
        · rw [if_pos h, h, if_pos rfl]
          exact ⟨_, rfl, rfl⟩
        · rw [if_neg h]
          rcases List.mem_append.mp hn with z | z
          · obtain ⟨j, h1, h2⟩ := ih.fd n z
            refine ⟨j, h1, ?_⟩
            rw [if_neg, h2]
            intro z2
            rw [z2] at h2
            rw [h2] at q; cases q
          · exact absurd (List.mem_singleton.mp z) h
theorem num_eq {α : Type} [DecidableEq α] {mk : Int → α} {ns : List Int} {u v : Int} (hu : u ∈ ns) (hv : v ∈ ns) : mkOf (numT mk ns).found u = mkOf (numT mk ns).found v ↔ mk u = mk v := by
  have h := numI mk ns ns.length (Nat.le_refl _)
  rw [List.take_length] at h
  obtain ⟨i, h1, h2⟩ := h.fd u hu
  obtain ⟨j, h3, h4⟩ := h.fd v hv
  unfold mkOf
  rw [h1, h3]
  show i = j ↔ _
  constructor
  · intro e
    subst e
    exact h.inj _ _ _ h2 h4
  · intro e
    rw [e, h4] at h2
    exact (Option.some.inj h2).symm
theorem usort_eq {xs ys : List Int} : usortI xs = usortI ys ↔ ∀ z, z ∈ xs ↔ z ∈ ys := by
  constructor
  · intro h z
    rw [← mem_usortI, h, mem_usortI]
  · intro h
    exact lt_unique (fun z => by rw [mem_usortI, mem_usortI]; exact h z) (usortI_sorted _) (usortI_sorted _)
/-! ### groups -/
def hdI (v : List Int) : Int := v.headD 0
def addG (f : Int → Int) (gs : List (List Int)) (n : Int) : List (List Int) := match gs.findIdx? (fun v => decide (f (hdI v) = f n)) with
  | some i => gs.modify i (· ++ [n])
  | none => gs ++ [[n]]
def grp (f : Int → Int) (ns : List Int) : List (List Int) := ns.foldl (addG f) []
theorem grp_take {f : Int → Int} {ns : List Int} {i : Nat} {n : Int} (h : ns[i]? = some n) : grp f (ns.take (i + 1)) = addG f (grp f (ns.take i)) n := by
  unfold grp
  rw [List.take_add_one, h]
  show ((ns.take i) ++ [n]).foldl _ _ = _
  rw [List.foldl_append]; rfl
theorem findIdx_congr {α : Type} {p q : α → Bool} : ∀ {l : List α}, (∀ a ∈ l, p a = q a) → l.findIdx? p = l.findIdx? q
  | [], _ => rfl
  | a :: l, h => by
    rw [List.findIdx?_cons, List.findIdx?_cons, h a List.mem_cons_self, findIdx_congr fun b hb => h b (List.mem_cons_of_mem _ hb)]
theorem addG_mem {f : Int → Int} {S : List Int} {gs : List (List Int)} {n : Int} (h : ∀ v ∈ gs, v ≠ [] ∧ ∀ x ∈ v, x ∈ S) (hn : n ∈ S) : ∀ v ∈ addG f gs n, v ≠ [] ∧ ∀ x ∈ v, x ∈ S := by
  unfold addG
  split
  · intro v hv
    rename_i i _
    rw [List.mem_iff_getElem?] at hv
    obtain ⟨j, hj⟩ := hv
    rw [List.getElem?_modify] at hj
    cases q : gs[j]? with
    | none => rw [q] at hj; cases hj
    | some w =>
      rw [q] at hj
      have hw := h w (List.mem_of_getElem? q)
      have hj : some (if i = j then w ++ [n] else w) = some v := hj
      cases hj
      split
      · refine ⟨by simp, fun x hx => ?_⟩
        rcases List.mem_append.mp hx with z | z
        · exact hw.2 x z
        · rw [List.mem_singleton.mp z]; exact hn
      · exact hw
  · intro v hv
    rcases List.mem_append.mp hv with z | z
    · exact h v z
    · rw [List.mem_singleton.mp z]
      exact ⟨by simp, fun x hx => by rw [List.mem_singleton.mp hx]; exact hn⟩
theorem hdI_mem {v : List Int} (h : v ≠ []) : hdI v ∈ v := by
  cases v with
  | nil => exact absurd rfl h
  | cons a v => exact List.mem_cons_self
theorem grp_aux {f g : Int → Int} {ns : List Int} (h : ∀ x ∈ ns, ∀ y ∈ ns, (f x = f y ↔ g x = g y)) : ∀ i, i ≤ ns.length → grp f (ns.take i) = grp g (ns.take i) ∧ ∀ v ∈ grp f (ns.take i), v ≠ [] ∧ ∀ x ∈ v, x ∈ ns
  | 0, _ => ⟨rfl, fun v hv => by cases hv⟩
  | i + 1, hi => by
    have hlt : i < ns.length := hi
    obtain ⟨ih, im⟩ := grp_aux h i (by omega)
    have hx := List.getElem?_eq_getElem hlt
    have hm : ns[i] ∈ ns := List.getElem_mem hlt
    rw [grp_take hx, grp_take hx]
    refine ⟨?_, addG_mem im hm⟩
    rw [← ih]
    unfold addG
    rw [findIdx_congr (q := fun v => decide (g (hdI v) = g ns[i])) fun v hv => ?_]
    obtain ⟨h1, h2⟩ := im v hv
    exact decide_eq_decide.mpr (h _ (h2 _ (hdI_mem h1)) _ hm)
theorem grp_congr {f g : Int → Int} {ns : List Int} (h : ∀ x ∈ ns, ∀ y ∈ ns, (f x = f y ↔ g x = g y)) : grp f ns = grp g ns := by
  have := (grp_aux h ns.length (Nat.le_refl _)).1
  rwa [List.take_length] at this
theorem addG_at {f : Int → Int} {gs : List (List Int)} {n : Int} {j : Nat} (h : gs.findIdx? (fun v => decide (f (hdI v) = f n)) = some j) : addG f gs n = gs.modify j (· ++ [n]) := by
  unfold addG
  rw [h]
theorem addG_new {f : Int → Int} {gs : List (List Int)} {n : Int} (h : gs.findIdx? (fun v => decide (f (hdI v) = f n)) = none) : addG f gs n = gs ++ [[n]] := by
  unfold addG
  rw [h]
/-- what groups are like after i nodes -/
structure GrpI (f : Int → Int) (S : List Int) (i : Nat) (gs : List (List Int)) : Prop where
  mem : ∀ v ∈ gs, v ≠ [] ∧ ∀ x ∈ v, x ∈ S
  few : gs.length ≤ i
  len : ∀ v ∈ gs, v.length ≤ i
  nd : (gs.map fun v => f (hdI v)).Nodup
theorem hdI_app {v : List Int} {n : Int} (h : v ≠ []) : hdI (v ++ [n]) = hdI v := by
  cases v with
  | nil => exact absurd rfl h
  | cons a v => rfl
theorem GrpI.add {f S i gs n} (h : GrpI f S i gs) (hn : n ∈ S) : GrpI f S (i + 1) (addG f gs n) := by
  refine ⟨addG_mem h.mem hn, ?_, ?_, ?_⟩
  · cases q : gs.findIdx? (fun v => decide (f (hdI v) = f n)) with
    | some j => rw [addG_at q, List.length_modify]; have := h.few; omega
    | none => rw [addG_new q, List.length_append]; have := h.few; simp; omega
  · cases q : gs.findIdx? (fun v => decide (f (hdI v) = f n)) with
    | some j =>
      rw [addG_at q]
      intro v hv
      obtain ⟨m, hm⟩ := List.mem_iff_getElem?.mp hv
      rw [List.getElem?_modify] at hm
      cases z : gs[m]? with
      | none => rw [z] at hm; cases hm
      | some w =>
        rw [z] at hm
        have hm : some (if j = m then w ++ [n] else w) = some v := hm
        cases hm
        have := h.len w (List.mem_of_getElem? z)
        split
        · rw [List.length_append]; simp; omega
        · omega
    | none =>
      rw [addG_new q]
      intro v hv
      rcases List.mem_append.mp hv with z | z
      · have := h.len v z; omega
      · rw [List.mem_singleton.mp z]; simp
  · cases q : gs.findIdx? (fun v => decide (f (hdI v) = f n)) with
    | some j =>
      rw [addG_at q]
      have e : (gs.modify j (· ++ [n])).map (fun v => f (hdI v)) = gs.map fun v => f (hdI v) := by
        refine List.ext_getElem? fun m => ?_
        rw [List.getElem?_map, List.getElem?_map, List.getElem?_modify]
        cases z : gs[m]? with
        | none => rfl
        | some w =>
          show some (f (hdI (if j = m then w ++ [n] else w))) = some (f (hdI w))
          split
          · rw [hdI_app (h.mem w (List.mem_of_getElem? z)).1]
          · rfl
      rw [e]; exact h.nd
    | none =>
      rw [addG_new q, List.map_append, List.nodup_append]
      refine ⟨h.nd, by simp, fun a ha b hb => ?_⟩
      have hb : b = f n := List.mem_singleton.mp hb
      obtain ⟨v, hv, rfl⟩ := List.mem_map.mp ha
      rw [hb]
      have := List.findIdx?_eq_none_iff.mp q v hv
      exact of_decide_eq_false this
theorem grpI (f : Int → Int) (ns : List Int) : ∀ i, i ≤ ns.length → GrpI f ns i (grp f (ns.take i))
  | 0, _ => ⟨fun v hv => (by cases hv), Nat.le_refl _, fun v hv => (by cases hv), List.nodup_nil⟩
  | i + 1, hi => by
    have hlt : i < ns.length := hi
    rw [grp_take (List.getElem?_eq_getElem hlt)]
    exact (grpI f ns i (by omega)).add (List.getElem_mem hlt)
/-! ### the law's kinds -/
def ixIn {α : Type} [DecidableEq α] (as : List α) (a : α) : Nat := as.findIdx fun b => decide (b = a)
theorem ixIn_lt {α : Type} [DecidableEq α] {as : List α} {a : α} (h : a ∈ as) : ixIn as a < as.length := List.findIdx_lt_length.mpr ⟨a, h, by simp⟩
theorem ixIn_at {α : Type} [DecidableEq α] {as : List α} {a : α} (h : a ∈ as) : as[ixIn as a]? = some a := by
  have h1 := ixIn_lt h
  have h2 := List.findIdx_getElem (w := h1)
  have h2 := of_decide_eq_true h2
  rw [List.getElem?_eq_getElem h1]
  exact congrArg some h2
theorem ixIn_first {α : Type} [DecidableEq α] {as : List α} {a : α} {m : Nat} (h : m < ixIn as a) : as[m]? ≠ some a := by
  intro z
  have := List.not_of_lt_findIdx h
  obtain ⟨hm, e⟩ := List.getElem?_eq_some_iff.mp z
  simp [e] at this
theorem ixIn_inj {α : Type} [DecidableEq α] {as : List α} {a b : α} (ha : a ∈ as) (hb : b ∈ as) : ixIn as a = ixIn as b ↔ a = b := by
  constructor
  · intro e
    have h1 := ixIn_at ha
    rw [e, ixIn_at hb] at h1
    exact (Option.some.inj h1).symm
  · intro e; rw [e]
def firsts {α : Type} [DecidableEq α] (as : List α) : List Int := as.map fun a => (ixIn as a : Int)
def netAt (net : List (List Bool)) (u v : Nat) : Bool := ((net[u]?.getD [])[v]?).getD false
def nearL (net : List (List Bool)) (c : Str) (v u : Nat) : Bool := if c = "U" then netAt net u v else netAt net v u
def kAt (ks : List Int) (u : Nat) : Int := ks.getD u 0
def metL (net : List (List Bool)) (N : Nat) (ks : List Int) (c : Str) (v : Nat) : List Int := ((List.range N).filter (nearL net c v)).map (kAt ks)
def setL (N : Nat) (met : List Int) : List Int := ((List.range N).map fun (i : Nat) => (i : Int)).filter fun k => decide (k ∈ met)
def markL (net : List (List Bool)) (N : Nat) (ks : List Int) (c : Str) (v : Nat) : H2 Int (List Int) := H2.mk (kAt ks v) (setL N (metL net N ks c v))
def roundL (net : List (List Bool)) (N : Nat) (ks : List Int) (c : Str) : List Int := firsts ((List.range N).map (markL net N ks c))
def kindsL (ls : List Str) (net : List (List Bool)) (cs : List Str) : List Int := cs.foldl (roundL net ls.length) (firsts ls)
theorem firsts_at {α : Type} [DecidableEq α] {as : List α} {i : Nat} {a : α} (h : as[i]? = some a) : kAt (firsts as) i = (ixIn as a : Int) := by
  unfold kAt firsts
  rw [List.getD_eq_getElem?_getD, List.getElem?_map, h]; rfl
theorem setL_eq {N : Nat} {xs ys : List Int} (hx : ∀ z ∈ xs, 0 ≤ z ∧ z < (N : Int)) (hy : ∀ z ∈ ys, 0 ≤ z ∧ z < (N : Int)) : setL N xs = setL N ys ↔ ∀ z, z ∈ xs ↔ z ∈ ys := by
  have key : ∀ (xs : List Int), (∀ z ∈ xs, 0 ≤ z ∧ z < (N : Int)) → ∀ z, z ∈ setL N xs ↔ z ∈ xs := by
    intro xs hx z
    unfold setL
    rw [List.mem_filter, List.mem_map]
    refine ⟨fun h => of_decide_eq_true h.2, fun h => ⟨?_, decide_eq_true h⟩⟩
    obtain ⟨a1, a2⟩ := hx z h
    exact ⟨z.toNat, List.mem_range.mpr (by omega), by show ((z.toNat : Nat) : Int) = z; omega⟩
  constructor
  · intro h z
    rw [← key xs hx, h, key ys hy]
  · intro h
    unfold setL
    exact List.filter_congr fun z _ => decide_eq_decide.mpr (h z)
/-- a graph as the law draws it -/
structure Drawn (ns : List Int) (ls : List Str) (net : List (List Bool)) : Prop where
  len : ls.length = ns.length
  nl : net.length = ns.length
  row : ∀ r ∈ net, r.length = ns.length
  nd : ns.Nodup
  few : ns.length ≤ 60
  rg : ∀ n ∈ ns, 0 ≤ n ∧ n < 999999
/-- the program's graph is the drawn one -/
structure GFit (ns : List Int) (ls : List Str) (net : List (List Bool)) (g : GD) : Prop where
  rows : g.rows.Perm ns
  told : ∀ (i : Nat) n y, ns[i]? = some n → ls[i]? = some y → lkp g.told n = some y
  downs : ∀ (i : Nat) n, ns[i]? = some n → ∀ x, x ∈ nbr g.downs n ↔ ∃ j : Nat, ns[j]? = some x ∧ netAt net i j = true
  ups : ∀ (i : Nat) n, ns[i]? = some n → ∀ x, x ∈ nbr g.ups n ↔ ∃ j : Nat, ns[j]? = some x ∧ netAt net j i = true
theorem kindsL_len {ls net} : ∀ cs : List Str, (kindsL ls net cs).length = ls.length := by
  intro cs
  unfold kindsL
  rcases List.eq_nil_or_concat cs with rfl | ⟨l, c, rfl⟩
  · simp [firsts]
  · rw [List.concat_eq_append, List.foldl_append]
    show (roundL _ _ _ c).length = _
    unfold roundL firsts
    simp
theorem kinds_iff {ns ls net g} (d : Drawn ns ls net) (h : GFit ns ls net g) (cs : List Str) : ∀ t, t ≤ cs.length → (∀ (i j : Nat) m n, ns[i]? = some m → ns[j]? = some n → (mkOf (kindsF g (cs.take t)) m = mkOf (kindsF g (cs.take t)) n ↔ kAt (kindsL ls net (cs.take t)) i = kAt (kindsL ls net (cs.take t)) j)) ∧ ∀ i : Nat, i < ns.length → 0 ≤ kAt (kindsL ls net (cs.take t)) i ∧ kAt (kindsL ls net (cs.take t)) i < (ns.length : Int)
  | 0, _ => by
    have hin : ∀ {i : Nat} {n : Int}, ns[i]? = some n → n ∈ g.rows := fun hi => h.rows.mem_iff.mpr (List.mem_of_getElem? hi)
    refine ⟨fun i j m n hi hj => ?_, fun i hi => ?_⟩
    · show mkOf (numT (mkOf g.told) g.rows).found m = mkOf (numT (mkOf g.told) g.rows).found n ↔ kAt (firsts ls) i = kAt (firsts ls) j
      rw [num_eq (hin hi) (hin hj)]
      have l1 : i < ls.length := by rw [d.len]; exact (List.getElem?_eq_some_iff.mp hi).1
      have l2 : j < ls.length := by rw [d.len]; exact (List.getElem?_eq_some_iff.mp hj).1
      have e1 := List.getElem?_eq_getElem l1
      have e2 := List.getElem?_eq_getElem l2
      rw [firsts_at e1, firsts_at e2]
      unfold mkOf
      rw [h.told i m _ hi e1, h.told j n _ hj e2]
      show ls[i] = ls[j] ↔ _
      rw [← ixIn_inj (List.getElem_mem l1) (List.getElem_mem l2)]
      omega
    · show 0 ≤ kAt (firsts ls) i ∧ _
      have l1 : i < ls.length := by rw [d.len]; exact hi
      show 0 ≤ kAt (firsts ls) i ∧ kAt (firsts ls) i < _
      rw [firsts_at (List.getElem?_eq_getElem l1)]
      have := ixIn_lt (List.getElem_mem l1)
      rw [d.len] at this
      omega
  | t + 1, ht => by
    have hlt : t < cs.length := ht
    obtain ⟨ih, ib⟩ := kinds_iff d h cs t (by omega)
    have hin : ∀ {i : Nat} {n : Int}, ns[i]? = some n → n ∈ g.rows := fun hi => h.rows.mem_iff.mpr (List.mem_of_getElem? hi)
    rw [kindsF_take (List.getElem?_eq_getElem hlt)]
    have eL : kindsL ls net (cs.take (t + 1)) = roundL net ls.length (kindsL ls net (cs.take t)) cs[t] := by
      unfold kindsL
      rw [List.take_add_one, List.getElem?_eq_getElem hlt, List.foldl_append]; rfl
    rw [eL]
    generalize cs[t] = c
    generalize kindsF g (cs.take t) = ks at ih
    generalize kindsL ls net (cs.take t) = kl at ih ib
    have hmk : ∀ {i : Nat}, i < ns.length → ((List.range ls.length).map (markL net ls.length kl c))[i]? = some (markL net ls.length kl c i) := by
      intro i hi
      rw [List.getElem?_map, List.getElem?_range (by rw [d.len]; exact hi)]; rfl
    have hmet : ∀ i, ∀ z ∈ metL net ls.length kl c i, 0 ≤ z ∧ z < (ls.length : Int) := by
      intro i z hz
      unfold metL at hz
      obtain ⟨u, hu, rfl⟩ := List.mem_map.mp hz
      have := List.mem_range.mp (List.mem_filter.mp hu).1
      rw [d.len] at this ⊢
      exact ib u this
    have hnear : ∀ {i : Nat} {n : Int}, ns[i]? = some n → ∀ x, x ∈ nbr (nearF g c) n ↔ ∃ j : Nat, ns[j]? = some x ∧ nearL net c i j = true := by
      intro i n hi x
      unfold nearF nearL
      split
      · exact h.ups i n hi x
      · exact h.downs i n hi x
    constructor
    · intro i j m n hi hj
      have l1 : i < ns.length := (List.getElem?_eq_some_iff.mp hi).1
      have l2 : j < ns.length := (List.getElem?_eq_some_iff.mp hj).1
      unfold roundF roundL
      rw [num_eq (hin hi) (hin hj), firsts_at (hmk l1), firsts_at (hmk l2)]
      have e1 : ∀ {n : Int}, n ∈ g.rows → mkOf (marksF (nearF g c) g.rows ks) n = markF (nearF g c) ks n := by
        intro n hn
        unfold mkOf marksF
        rw [lkp_dcF, if_pos hn]; rfl
      rw [e1 (hin hi), e1 (hin hj)]
      have e2 := ixIn_inj (List.mem_of_getElem? (hmk l1)) (List.mem_of_getElem? (hmk l2))
      have e3 : ((ixIn ((List.range ls.length).map (markL net ls.length kl c)) (markL net ls.length kl c i) : Int) = (ixIn ((List.range ls.length).map (markL net ls.length kl c)) (markL net ls.length kl c j) : Int)) ↔ markL net ls.length kl c i = markL net ls.length kl c j := by
        rw [← e2]; omega
      rw [e3]
      unfold markF markL
      rw [P2.mk.injEq, H2.mk.injEq, ih i j m n hi hj, Tup.mk.injEq, usort_eq, setL_eq (hmet i) (hmet j)]
      refine and_congr_right fun _ => ?_
      have key : ∀ {i j : Nat} {m n : Int}, ns[i]? = some m → ns[j]? = some n → ((∀ z, z ∈ (nbr (nearF g c) m).map (mkOf ks) → z ∈ (nbr (nearF g c) n).map (mkOf ks)) ↔ ∀ z, z ∈ metL net ls.length kl c i → z ∈ metL net ls.length kl c j) := by
        intro i j m n hi hj
        have r1 : (∀ z, z ∈ (nbr (nearF g c) m).map (mkOf ks) → z ∈ (nbr (nearF g c) n).map (mkOf ks)) ↔ ∀ (u : Nat) (x : Int), ns[u]? = some x → nearL net c i u = true → ∃ (v : Nat) (y : Int), ns[v]? = some y ∧ nearL net c j v = true ∧ mkOf ks y = mkOf ks x := by
          constructor
          · intro hz u x hu hn
            obtain ⟨y, hy, he⟩ := List.mem_map.mp (hz _ (List.mem_map.mpr ⟨x, (hnear hi x).mpr ⟨u, hu, hn⟩, rfl⟩))
            obtain ⟨v, hv, hv2⟩ := (hnear hj y).mp hy
            exact ⟨v, y, hv, hv2, he⟩
          · intro hz z hm
            obtain ⟨x, hx, rfl⟩ := List.mem_map.mp hm
            obtain ⟨u, hu, hu2⟩ := (hnear hi x).mp hx
            obtain ⟨v, y, hv, hv2, he⟩ := hz u x hu hu2
            exact List.mem_map.mpr ⟨y, (hnear hj y).mpr ⟨v, hv, hv2⟩, he⟩
        have r2 : (∀ z, z ∈ metL net ls.length kl c i → z ∈ metL net ls.length kl c j) ↔ ∀ (u : Nat) (x : Int), ns[u]? = some x → nearL net c i u = true → ∃ (v : Nat) (y : Int), ns[v]? = some y ∧ nearL net c j v = true ∧ kAt kl v = kAt kl u := by
          unfold metL
          constructor
          · intro hz u x hu hn
            have lu := (List.getElem?_eq_some_iff.mp hu).1
            obtain ⟨v, hv, he⟩ := List.mem_map.mp (hz _ (List.mem_map.mpr ⟨u, List.mem_filter.mpr ⟨List.mem_range.mpr (by rw [d.len]; exact lu), hn⟩, rfl⟩))
            obtain ⟨hv1, hv2⟩ := List.mem_filter.mp hv
            have lv := List.mem_range.mp hv1
            rw [d.len] at lv
            exact ⟨v, ns[v], List.getElem?_eq_getElem lv, hv2, he⟩
          · intro hz z hm
            obtain ⟨u, hu, rfl⟩ := List.mem_map.mp hm
            obtain ⟨hu1, hu2⟩ := List.mem_filter.mp hu
            have lu := List.mem_range.mp hu1
            rw [d.len] at lu
            obtain ⟨v, y, hv, hv2, he⟩ := hz u ns[u] (List.getElem?_eq_getElem lu) hu2
            exact List.mem_map.mpr ⟨v, List.mem_filter.mpr ⟨List.mem_range.mpr (by rw [d.len]; exact (List.getElem?_eq_some_iff.mp hv).1), hv2⟩, he⟩
        rw [r1, r2]
        constructor
        · intro hz u x hu hn
          obtain ⟨v, y, h1, h2, h3⟩ := hz u x hu hn
          exact ⟨v, y, h1, h2, (ih v u y x h1 hu).mp h3⟩
        · intro hz u x hu hn
          obtain ⟨v, y, h1, h2, h3⟩ := hz u x hu hn
          exact ⟨v, y, h1, h2, (ih v u y x h1 hu).mpr h3⟩
      have k1 := key hi hj
      have k2 := key hj hi
      constructor
      · intro z w
        exact ⟨k1.mp (fun a => (z a).mp) w, k2.mp (fun a => (z a).mpr) w⟩
      · intro z w
        exact ⟨k1.mpr (fun a => (z a).mp) w, k2.mpr (fun a => (z a).mpr) w⟩
    · intro i hi
      unfold roundL
      rw [firsts_at (hmk hi)]
      have := ixIn_lt (List.mem_of_getElem? (hmk hi))
      rw [List.length_map, List.length_range, d.len] at this
      rw [d.len]
      omega

/-! ### the drawn graph is made -/
def addE (g : GD) (p c : Int) : GD := if c ∈ nbr g.downs p then g else ⟨g.rows, g.told, putA g.ups c (withN (nbr g.ups c) p), putA g.downs p (withN (nbr g.downs p) c)⟩
def atL (ls : List Str) (a : Nat) : Str := ls.getD a ""
def atN (ns : List Int) (a : Nat) : Int := ns.getD a 0
def labG (ns : List Int) (ls : List Str) (k : Nat) : GD := (List.range k).foldl (fun g a => setG g (atN ns a) (atL ls a)) GD.nil
def edgG (ns : List Int) (net : List (List Bool)) (g : GD) (a k : Nat) : GD := (List.range k).foldl (fun g b => if netAt net a b then addE g (atN ns a) (atN ns b) else g) g
def allG (ns : List Int) (net : List (List Bool)) (g : GD) (k : Nat) : GD := (List.range k).foldl (fun g a => edgG ns net g a ns.length) g
def madeF (ns : List Int) (ls : List Str) (net : List (List Bool)) : GD := allG ns net (labG ns ls ns.length) ns.length
theorem foldl_range {β : Type} {f : β → Nat → β} {b : β} {k : Nat} : (List.range (k + 1)).foldl f b = f ((List.range k).foldl f b) k := by
  rw [List.range_succ, List.foldl_append]; rfl
theorem atN_get {ns : List Int} {i : Nat} {n : Int} (h : ns[i]? = some n) : atN ns i = n := by
  unfold atN
  rw [List.getD_eq_getElem?_getD, h]; rfl
theorem get_atN {ns : List Int} {i : Nat} (h : i < ns.length) : ns[i]? = some (atN ns i) := by
  rw [List.getElem?_eq_getElem h, atN_get (List.getElem?_eq_getElem h)]
theorem nodup_at {ns : List Int} (h : ns.Nodup) {i j : Nat} {n : Int} (h1 : ns[i]? = some n) (h2 : ns[j]? = some n) : i = j := by
  obtain ⟨l1, e1⟩ := List.getElem?_eq_some_iff.mp h1
  obtain ⟨l2, e2⟩ := List.getElem?_eq_some_iff.mp h2
  exact (List.getElem_inj h).mp (e1.trans e2.symm)
theorem nodup_le : ∀ {as bs : List Int}, as.Nodup → (∀ x ∈ as, x ∈ bs) → as.length ≤ bs.length
  | [], _, _, _ => Nat.zero_le _
  | a :: as, bs, h, hs => by
    obtain ⟨h1, h2⟩ := List.nodup_cons.mp h
    have hb := hs a List.mem_cons_self
    have := nodup_le (as := as) (bs := bs.erase a) h2 fun x hx => (List.mem_erase_of_ne (fun (z : x = a) => h1 (z ▸ hx))).mpr (hs x (List.mem_cons_of_mem _ hx))
    rw [List.length_erase_of_mem hb] at this
    have : 0 < bs.length := List.length_pos_of_mem hb
    rw [List.length_cons]
    omega
theorem withN_perm (ns : List Int) (n : Int) : (withN ns n).Perm (n :: ns) := (sortI_perm _).trans (List.perm_append_singleton n ns)
theorem withN_mem {ns : List Int} {n x : Int} : x ∈ withN ns n ↔ x = n ∨ x ∈ ns := by rw [(withN_perm ns n).mem_iff, List.mem_cons]
theorem withN_nodup {ns : List Int} {n : Int} (h : ns.Nodup) (hn : n ∉ ns) : (withN ns n).Nodup := (withN_perm ns n).nodup_iff.mpr (List.nodup_cons.mpr ⟨hn, h⟩)
structure GB (ns : List Int) (ls : List Str) (k : Nat) (S : Nat → Nat → Bool) (g : GD) : Prop where
  rows : g.rows.Perm (ns.take k)
  so : g.rows.Pairwise (· ≤ ·)
  kt : g.told.map (·.1) = ns.take k
  ku : g.ups.map (·.1) = ns.take k
  kd : g.downs.map (·.1) = ns.take k
  told : ∀ (i : Nat) n y, i < k → ns[i]? = some n → ls[i]? = some y → lkp g.told n = some y
  downs : ∀ (i : Nat) n, ns[i]? = some n → ∀ x, x ∈ nbr g.downs n ↔ ∃ j : Nat, ns[j]? = some x ∧ S i j = true
  ups : ∀ (i : Nat) n, ns[i]? = some n → ∀ x, x ∈ nbr g.ups n ↔ ∃ j : Nat, ns[j]? = some x ∧ S j i = true
  nd : ∀ n, (nbr g.downs n).Nodup
  nu : ∀ n, (nbr g.ups n).Nodup
theorem nbr_put {m : List (Int × List Int)} {k n : Int} {y : List Int} : nbr (putA m k y) n = if n = k then y else nbr m n := by
  unfold nbr
  rw [lkp_put]
  split <;> rfl
theorem GB.lab {ns ls k g} (h : GB ns ls k (fun _ _ => false) g) (nd : ns.Nodup) (hl : ls.length = ns.length) (hk : k < ns.length) : GB ns ls (k + 1) (fun _ _ => false) (setG g (atN ns k) (atL ls k)) := by
  have hg := get_atN hk
  have htk : ns.take (k + 1) = ns.take k ++ [atN ns k] := by rw [List.take_add_one, hg]; rfl
  have hnew : atN ns k ∉ ns.take k := by
    intro z
    obtain ⟨i, hi⟩ := List.mem_iff_getElem?.mp z
    rw [List.getElem?_take] at hi
    split at hi
    · have := nodup_at nd hi hg
      omega
    · cases hi
  have hno : ∀ {β : Type} {m : List (Int × β)}, m.map (·.1) = ns.take k → (lkp m (atN ns k)).isSome = false := by
    intro β m hm
    rw [lkp_some, hm]
    exact decide_eq_false hnew
  have hpk : ∀ {β : Type} {m : List (Int × β)} {y : β}, m.map (·.1) = ns.take k → (putA m (atN ns k) y).map (·.1) = ns.take (k + 1) := by
    intro β m y hm
    rw [putA_keys, hno hm, htk, hm]; rfl
  have e : setG g (atN ns k) (atL ls k) = ⟨withN g.rows (atN ns k), putA g.told (atN ns k) (atL ls k), putA g.ups (atN ns k) [], putA g.downs (atN ns k) []⟩ := by unfold setG; rw [hno h.kt]; rfl
  rw [e]
  refine ⟨?_, sortI_sorted _, hpk h.kt, hpk h.ku, hpk h.kd, ?_, ?_, ?_, ?_, ?_⟩
  · rw [htk]
    exact (withN_perm _ _).trans ((h.rows.cons _).trans (List.perm_append_singleton _ _).symm)
  · intro i n y hi hn hy
    show lkp (putA g.told (atN ns k) (atL ls k)) n = some y
    rw [lkp_put]
    by_cases q : i = k
    · subst q
      rw [if_pos (atN_get hn).symm]
      unfold atL
      rw [List.getD_eq_getElem?_getD, hy]; rfl
    · rw [if_neg, h.told i n y (by omega) hn hy]
      intro z
      subst z
      exact q (nodup_at nd hn hg)
  · intro i n hn x
    show x ∈ nbr (putA g.downs (atN ns k) []) n ↔ _
    rw [nbr_put]
    split
    · simp
    · exact h.downs i n hn x
  · intro i n hn x
    show x ∈ nbr (putA g.ups (atN ns k) []) n ↔ _
    rw [nbr_put]
    split
    · simp
    · exact h.ups i n hn x
  · intro n
    show (nbr (putA g.downs (atN ns k) []) n).Nodup
    rw [nbr_put]
    split
    · exact List.nodup_nil
    · exact h.nd n
  · intro n
    show (nbr (putA g.ups (atN ns k) []) n).Nodup
    rw [nbr_put]
    split
    · exact List.nodup_nil
    · exact h.nu n
theorem GB.cong {ns ls k S S' g} (h : GB ns ls k S g) (e : ∀ u v, u < ns.length → v < ns.length → S u v = S' u v) : GB ns ls k S' g := by
  refine ⟨h.rows, h.so, h.kt, h.ku, h.kd, h.told, fun i n hn x => ?_, fun i n hn x => ?_, h.nd, h.nu⟩
  · rw [h.downs i n hn x]
    have li := (List.getElem?_eq_some_iff.mp hn).1
    exact ⟨fun ⟨j, h1, h2⟩ => ⟨j, h1, by rw [← e i j li (List.getElem?_eq_some_iff.mp h1).1]; exact h2⟩, fun ⟨j, h1, h2⟩ => ⟨j, h1, by rw [e i j li (List.getElem?_eq_some_iff.mp h1).1]; exact h2⟩⟩
  · rw [h.ups i n hn x]
    have li := (List.getElem?_eq_some_iff.mp hn).1
    exact ⟨fun ⟨j, h1, h2⟩ => ⟨j, h1, by rw [← e j i (List.getElem?_eq_some_iff.mp h1).1 li]; exact h2⟩, fun ⟨j, h1, h2⟩ => ⟨j, h1, by rw [e j i (List.getElem?_eq_some_iff.mp h1).1 li]; exact h2⟩⟩
theorem GB.add {ns ls S g a b} (h : GB ns ls ns.length S g) (nd : ns.Nodup) (ha : a < ns.length) (hb : b < ns.length) : GB ns ls ns.length (fun u v => S u v || (decide (u = a) && decide (v = b))) (addE g (atN ns a) (atN ns b)) := by
  have ga := get_atN ha
  have gb := get_atN hb
  unfold addE
  split
  · rename_i hin
    obtain ⟨j, hj, hs⟩ := (h.downs a _ ga _).mp hin
    have : j = b := nodup_at nd hj gb
    subst this
    refine h.cong fun u v _ _ => ?_
    by_cases z : u = a ∧ v = j
    · rw [z.1, z.2, hs]; rfl
    · have : (decide (u = a) && decide (v = j)) = false := by
        rw [Bool.and_eq_false_iff]
        by_cases q : u = a
        · exact Or.inr (decide_eq_false fun q2 => z ⟨q, q2⟩)
        · exact Or.inl (decide_eq_false q)
      rw [this, Bool.or_false]
  · rename_i hout
    have hSab : S a b = false := by
      cases q : S a b with
      | false => rfl
      | true => exact absurd ((h.downs a _ ga _).mpr ⟨b, gb, q⟩) hout
    have hout2 : atN ns a ∉ nbr g.ups (atN ns b) := by
      intro z
      obtain ⟨j, hj, hs⟩ := (h.ups b _ gb _).mp z
      have : j = a := nodup_at nd hj ga
      subst this
      rw [hSab] at hs; cases hs
    have hk : ∀ {m : List (Int × List Int)} {n : Int} {y : List Int}, m.map (·.1) = ns.take ns.length → n ∈ ns → (putA m n y).map (·.1) = ns.take ns.length := by
      intro m n y hm hn
      rw [putA_keys, lkp_some, hm, List.take_length, decide_eq_true hn]; rfl
    refine ⟨h.rows, h.so, h.kt, hk h.ku (List.mem_of_getElem? gb), hk h.kd (List.mem_of_getElem? ga), h.told, ?_, ?_, ?_, ?_⟩
    · intro i n hn x
      show x ∈ nbr (putA g.downs (atN ns a) (withN (nbr g.downs (atN ns a)) (atN ns b))) n ↔ _
      rw [nbr_put]
      by_cases q : n = atN ns a
      · have hi : i = a := nodup_at nd (q ▸ hn) ga
        rw [if_pos q, withN_mem, h.downs a _ ga x, hi]
        constructor
        · rintro (z | ⟨j, h1, h2⟩)
          · exact ⟨b, by rw [z]; exact gb, by simp⟩
          · exact ⟨j, h1, by simp [h2]⟩
        · rintro ⟨j, h1, h2⟩
          by_cases z : j = b
          · subst z
            rw [gb] at h1
            exact Or.inl (Option.some.inj h1).symm
          · exact Or.inr ⟨j, h1, by simpa [z] using h2⟩
      · rw [if_neg q, h.downs i n hn x]
        have hi : i ≠ a := fun z => q (by rw [← atN_get hn, z])
        simp [hi]
    · intro i n hn x
      show x ∈ nbr (putA g.ups (atN ns b) (withN (nbr g.ups (atN ns b)) (atN ns a))) n ↔ _
      rw [nbr_put]
      by_cases q : n = atN ns b
      · have hi : i = b := nodup_at nd (q ▸ hn) gb
        rw [if_pos q, withN_mem, h.ups b _ gb x, hi]
        constructor
        · rintro (z | ⟨j, h1, h2⟩)
          · exact ⟨a, by rw [z]; exact ga, by simp⟩
          · exact ⟨j, h1, by simp [h2]⟩
        · rintro ⟨j, h1, h2⟩
          by_cases z : j = a
          · subst z
            rw [ga] at h1
            exact Or.inl (Option.some.inj h1).symm
          · exact Or.inr ⟨j, h1, by simpa [z] using h2⟩
      · rw [if_neg q, h.ups i n hn x]
        have hi : i ≠ b := fun z => q (by rw [← atN_get hn, z])
        simp [hi]
    · intro n
      show (nbr (putA g.downs (atN ns a) (withN (nbr g.downs (atN ns a)) (atN ns b))) n).Nodup
      rw [nbr_put]
      split
      · exact withN_nodup (h.nd _) hout
      · exact h.nd n
    · intro n
      show (nbr (putA g.ups (atN ns b) (withN (nbr g.ups (atN ns b)) (atN ns a))) n).Nodup
      rw [nbr_put]
      split
      · exact withN_nodup (h.nu _) hout2
      · exact h.nu n
theorem labG_ok {ns ls} (nd : ns.Nodup) (hl : ls.length = ns.length) : ∀ k, k ≤ ns.length → GB ns ls k (fun _ _ => false) (labG ns ls k)
  | 0, _ => ⟨List.Perm.refl _, List.Pairwise.nil, rfl, rfl, rfl, fun i n y hi => by omega, fun i n hn x => by simp [labG, GD.nil, nbr, lkp_nil], fun i n hn x => by simp [labG, GD.nil, nbr, lkp_nil], fun n => List.nodup_nil, fun n => List.nodup_nil⟩
  | k + 1, hk => by
    have := (labG_ok nd hl k (by omega)).lab nd hl hk
    unfold labG at this ⊢
    rw [foldl_range]
    exact this
theorem edgG_ok {ns ls net S g a} (h : GB ns ls ns.length S g) (nd : ns.Nodup) (ha : a < ns.length) : ∀ k, k ≤ ns.length → GB ns ls ns.length (fun u v => S u v || (decide (u = a) && (decide (v < k) && netAt net u v))) (edgG ns net g a k)
  | 0, _ => h.cong fun u v _ _ => by simp
  | k + 1, hk => by
    have ih := edgG_ok (net := net) h nd ha k (by omega)
    unfold edgG at ih ⊢
    rw [foldl_range]
    cases q : netAt net a k with
    | true =>
      rw [if_pos rfl]
      refine (ih.add nd ha hk).cong fun u v _ _ => ?_
      by_cases z : u = a
      · subst z
        by_cases z2 : v = k
        · subst z2; simp [q]
        · have : decide (v < k + 1) = decide (v < k) := decide_eq_decide.mpr (by omega)
          simp [z2, this]
      · simp [z]
    | false =>
      rw [if_neg (by decide)]
      refine ih.cong fun u v _ _ => ?_
      by_cases z : u = a
      · subst z
        by_cases z2 : v = k
        · subst z2; simp [q]
        · have : decide (v < k + 1) = decide (v < k) := decide_eq_decide.mpr (by omega)
          simp [this]
      · simp [z]
theorem allG_ok {ns ls net g} (h : GB ns ls ns.length (fun _ _ => false) g) (nd : ns.Nodup) : ∀ k, k ≤ ns.length → GB ns ls ns.length (fun u v => decide (u < k) && netAt net u v) (allG ns net g k)
  | 0, _ => h.cong fun u v _ _ => by simp
  | k + 1, hk => by
    have ih := allG_ok (net := net) h nd k (by omega)
    unfold allG at ih ⊢
    rw [foldl_range]
    refine (edgG_ok (net := net) ih nd hk ns.length (Nat.le_refl _)).cong fun u v _ hv => ?_
    by_cases z : u = k
    · subst z; simp [hv]
    · have : decide (u < k + 1) = decide (u < k) := decide_eq_decide.mpr (by omega)
      simp [z, this]
theorem GB.ok {ns ls S g} (h : GB ns ls ns.length S g) (few : ns.length ≤ 60) : GOk g := by
  have hr := h.rows
  have e1 := h.kt
  have e2 := h.ku
  have e3 := h.kd
  rw [List.take_length] at hr e1 e2 e3
  have hs : ∀ {β : Type} {m : List (Int × β)}, m.map (·.1) = ns → ∀ n ∈ g.rows, (lkp m n).isSome = true := by
    intro β m hm n hn
    rw [lkp_some, hm]
    exact decide_eq_true (hr.mem_iff.mp hn)
  have hb : ∀ {m : List (Int × List Int)}, (∀ n, (nbr m n).Nodup) → (∀ n ∈ g.rows, ∀ x ∈ nbr m n, x ∈ g.rows) → ∀ n ∈ g.rows, (∀ x ∈ nbr m n, x ∈ g.rows) ∧ (nbr m n).length ≤ 60 := by
    intro m h1 h2 n hn
    refine ⟨h2 n hn, ?_⟩
    have := nodup_le (h1 n) (h2 n hn)
    rw [hr.length_eq] at this
    omega
  have hl : ∀ {β : Type} {m : List (Int × β)}, m.map (·.1) = ns → m.length ≤ 60 := by
    intro β m hm
    have := congrArg List.length hm
    rw [List.length_map] at this
    omega
  refine ⟨⟨by rw [hr.length_eq]; exact few, hl e1, hl e2, hl e3⟩, hs e1, hs e2, hs e3, hb h.nu ?_, hb h.nd ?_⟩
  · intro n hn x hx
    obtain ⟨i, hi⟩ := List.mem_iff_getElem?.mp (hr.mem_iff.mp hn)
    obtain ⟨j, hj, _⟩ := (h.ups i n hi x).mp hx
    exact hr.mem_iff.mpr (List.mem_of_getElem? hj)
  · intro n hn x hx
    obtain ⟨i, hi⟩ := List.mem_iff_getElem?.mp (hr.mem_iff.mp hn)
    obtain ⟨j, hj, _⟩ := (h.downs i n hi x).mp hx
    exact hr.mem_iff.mpr (List.mem_of_getElem? hj)
theorem made_ok {ns ls net} (d : Drawn ns ls net) : GB ns ls ns.length (fun u v => decide (u < ns.length) && netAt net u v) (madeF ns ls net) := allG_ok (labG_ok d.nd d.len _ (Nat.le_refl _)) d.nd _ (Nat.le_refl _)
theorem made_fit {ns ls net} (d : Drawn ns ls net) : GFit ns ls net (madeF ns ls net) := by
  have h := made_ok d
  have hr := h.rows
  rw [List.take_length] at hr
  refine ⟨hr, fun i n y hn hy => h.told i n y (List.getElem?_eq_some_iff.mp hn).1 hn hy, fun i n hn x => ?_, fun i n hn x => ?_⟩
  · rw [h.downs i n hn x]
    have li := (List.getElem?_eq_some_iff.mp hn).1
    simp [li]
  · rw [h.ups i n hn x]
    constructor
    · rintro ⟨j, h1, h2⟩
      exact ⟨j, h1, by simpa [(List.getElem?_eq_some_iff.mp h1).1] using h2⟩
    · rintro ⟨j, h1, h2⟩
      exact ⟨j, h1, by simp [(List.getElem?_eq_some_iff.mp h1).1, h2]⟩
theorem made_rows {ns ls net} (d : Drawn ns ls net) : (madeF ns ls net).rows = sortI ns := by
  have h := made_ok d
  have hr := h.rows
  rw [List.take_length] at hr
  exact sorted_unique (hr.trans (sortI_perm ns).symm) h.so (sortI_sorted ns)
theorem groups_eq {ns ls net} (d : Drawn ns ls net) (cs : List Str) : grp (mkOf (kindsF (madeF ns ls net) cs)) (madeF ns ls net).rows = grp (fun x => kAt (kindsL ls net cs) (ixIn ns x)) (sortI ns) := by
  rw [made_rows d]
  refine grp_congr fun x hx y hy => ?_
  have hx := (sortI_perm ns).mem_iff.mp hx
  have hy := (sortI_perm ns).mem_iff.mp hy
  have h := (kinds_iff d (made_fit d) cs cs.length (Nat.le_refl _)).1 _ _ _ _ (ixIn_at hx) (ixIn_at hy)
  rwa [List.take_length] at h

/-! ### classes, walked -/
def agK (f : Int → Int) (ags : List (Addr × List Int)) : List (Int × At) := ags.map fun p => (f (hdI p.2), ⟨p.1⟩)
def agC (ags : List (Addr × List Int)) : List Cell := ags.map fun p => Cell.lst p.1 p.2
theorem lkp_agK (f : Int → Int) (k : Int) : ∀ ags : List (Addr × List Int), lkp (agK f ags) k = ((ags.map (·.2)).findIdx? (fun v => decide (f (hdI v) = k))).bind fun j => (ags[j]?).map fun p => At.mk p.1
  | [] => rfl
  | p :: ags => by
    show lkp ((f (hdI p.2), At.mk p.1) :: agK f ags) k = _
    rw [lkp_cons, List.map_cons, List.findIdx?_cons]
    by_cases h : f (hdI p.2) = k
    · rw [if_pos h, decide_eq_true h]; rfl
    · rw [if_neg h, decide_eq_false h, lkp_agK f k ags]
      cases (ags.map (·.2)).findIdx? (fun v => decide (f (hdI v) = k)) <;> rfl
theorem lkp_memA {α : Type} {m : List (Int × α)} (h : (m.map (·.1)).Nodup) : ∀ p ∈ m, lkp m p.1 = some p.2 := by
  induction m with
  | nil => intro p hp; cases hp
  | cons q m ih =>
    rw [List.map_cons] at h
    obtain ⟨h1, h2⟩ := List.nodup_cons.mp h
    intro p hp
    rw [lkp_cons]
    rcases List.mem_cons.mp hp with rfl | hp
    · rw [if_pos rfl]
    · rw [if_neg (fun z => h1 (by rw [z]; exact List.mem_map_of_mem hp)), ih h2 p hp]
def spClasses (K : PySem.W.Frag) : Sp := spM (γ := GA × GD × Wd) K (fun g => [⟨(At.mk g.1.p)⟩, ⟨g.2.2⟩]) (fun g => grC K g.1 g.2.1) (fun g => GOk g.2.1)
  (fun g r L' => ∃ ags : List (Addr × List Int), r = ⟨(ags.map fun p => At.mk p.1)⟩ ∧ ags.map (·.2) = grp (mkOf (kindsF g.2.1 (signs g.2.2.t))) g.2.1.rows ∧ L' = agC ags ++ grC K g.1 g.2.1) (fun _ _ _ _ => False)
section
variable {P : Program} {w : World} {K : PySem.W.Frag} {mg : Str → Option Value} {base : Heap} {f : Addr} {fd : FuncData}
theorem ok_classes (Fn : FnP K "classes" "classes" d_classes f fd) (T : GraphT K mg) (Ki : Hs P w K mg base 4 "kinds_of" (spKinds K)) (It : Mi P w K mg base 2 (He.ga K "Graph") (spGrIter K)) : FnOk P w K mg base (L2.CX P w) 6 f fd ["graph", "word"] (spClasses K) := by
  refine fn_spM Fn sc_classes (fun _ => rfl) ?_
  rintro ⟨a, g, wd⟩ gok cdv A outer s H E R C ok
  have gok : GOk g := gok
  have s1 := gok.sm.rows
  have e9 := sizeLine_eq
  show S _ [some ⟨(At.mk a.p)⟩, some ⟨wd⟩, none, none, none, none] (grC K a g) _ _
  refine S_setM 2 ok.nd (EM_call (a, g, wd) ok Ki (A_cons (E_var 0) (A_cons (E_var 1) A_nil)) gok (LR := []) (List.Perm.refl _)) ?_ (fun _ _ _ ⟨_, z, _⟩ => z.elim)
  rintro _ _ ⟨_, ⟨dk, rfl, rfl⟩, rfl⟩
  show S _ _ (Cell.dic dk (kindsF g (signs wd.t)) :: grC K a g) _ _
  generalize hK : kindsF g (signs wd.t) = ks
  have hks : ∀ n ∈ g.rows, (lkp ks n).isSome = true := fun n hn => by rw [← hK]; exact kindsF_in hn _
  refine S_setM 3 ok.nd (EM_dnew Int At) ?_ (fun _ _ _ z => z.elim)
  rintro _ _ ⟨dg, rfl, rfl⟩
  refine S_for ok (fun i env L => ∃ (ags : List (Addr × List Int)) (o : Option Ent), env = [some ⟨(At.mk a.p)⟩, some ⟨wd⟩, some ⟨(At.mk dk)⟩, some ⟨(At.mk dg)⟩, o, none] ∧ ags.map (·.2) = grp (mkOf ks) (g.rows.take i) ∧ L = Cell.dic dg (agK (mkOf ks) ags) :: (agC ags ++ Cell.dic dk ks :: grC K a g))
    (EI_own (a, g) ok It (E_var 0) trivial (LR := [Cell.dic dg ([] : List (Int × At)), Cell.dic dk ks]) (List.perm_append_comm (l₁ := [Cell.dic dg ([] : List (Int × At)), Cell.dic dk ks])) (Seen.obj (List.mem_cons_of_mem _ (List.mem_cons_of_mem _ mem0)))) ⟨[], none, rfl, rfl, rfl⟩ ?_ ?_
  · rintro i n env' L' hi ⟨ags, o, rfl, hag, rfl⟩
    refine ⟨_, _, G_name 4 ok.nd, ?_⟩
    have hi2 : i < g.rows.length := (List.getElem?_eq_some_iff.mp hi).1
    have gi := grpI (mkOf ks) g.rows i (by omega)
    rw [← hag] at gi
    have few := gi.few
    rw [List.length_map] at few
    have hmem : n ∈ g.rows := List.mem_of_getElem? hi
    have hnx := grp_take (f := mkOf ks) hi
    rw [← hag] at hnx
    refine S_setdApp (m := agK (mkOf ks) ags) (x := mkOf ks n) (y := n) 0 ok (E_var 3) (E_dget ok (ED.own (E_var 2) (List.mem_cons_of_mem _ (List.mem_append_right _ List.mem_cons_self))) (E_var 4) (mkOf_at (hks n hmem))) (fun _ => E_var 4) rfl (by unfold agK; rw [List.length_map]; omega) ?_ ?_
    · intro at' hat
      rw [lkp_agK] at hat
      cases q : (ags.map (·.2)).findIdx? (fun v => decide (mkOf ks (hdI v) = mkOf ks n)) with
      | none => rw [q] at hat; cases hat
      | some j =>
        rw [q] at hat
        cases z : ags[j]? with
        | none => rw [show (some j).bind (fun j => (ags[j]?).map fun p => At.mk p.1) = (ags[j]?).map fun p => At.mk p.1 from rfl, z] at hat; cases hat
        | some p =>
          rw [show (some j).bind (fun j => (ags[j]?).map fun p => At.mk p.1) = (ags[j]?).map fun p => At.mk p.1 from rfl, z] at hat
          cases hat
          have hv : p.2 ∈ ags.map (·.2) := List.mem_map.mpr ⟨p, List.mem_of_getElem? z, rfl⟩
          have hlen := gi.len p.2 hv
          have hj : j < ags.length := (List.getElem?_eq_some_iff.mp z).1
          have hja : (agC ags)[j]? = some (Cell.lst p.1 p.2) := by unfold agC; rw [List.getElem?_map, z]; rfl
          have hjl : j < (agC ags).length := (List.getElem?_eq_some_iff.mp hja).1
          refine ⟨j + 1, p.2, ?_, by omega, ?_⟩
          · show (agC ags ++ Cell.dic dk ks :: grC K a g)[j]? = _
            rw [List.getElem?_append_left hjl]; exact hja
          · refine S_nil ⟨ags.set j (p.1, p.2 ++ [n]), _, rfl, ?_, ?_⟩
            · rw [hnx, addG_at q, List.map_set]
              refine List.ext_getElem? fun m => ?_
              rw [List.getElem?_modify, List.getElem?_set]
              by_cases hm : j = m
              · subst hm
                rw [if_pos rfl, List.length_map, if_pos hj, List.getElem?_map, z]
                simp
              · rw [if_neg hm]
                simp [hm]
            · have e1 : agK (mkOf ks) (ags.set j (p.1, p.2 ++ [n])) = agK (mkOf ks) ags := by
                unfold agK
                rw [List.map_set]
                refine List.ext_getElem? fun m => ?_
                rw [List.getElem?_set]
                by_cases hm : j = m
                · subst hm
                  rw [if_pos rfl, List.length_map, if_pos hj, List.getElem?_map, z]
                  show some (mkOf ks (hdI (p.2 ++ [n])), At.mk p.1) = _
                  rw [hdI_app (gi.mem _ hv).1]; rfl
                · rw [if_neg hm]
              have e2 : agC (ags.set j (p.1, p.2 ++ [n])) = (agC ags).set j (Cell.lst p.1 (p.2 ++ [n])) := by
                unfold agC
                rw [List.map_set]
              rw [e1, e2]
              show Cell.dic dg (agK (mkOf ks) ags) :: (agC ags ++ Cell.dic dk ks :: grC K a g).set j _ = _
              rw [List.set_append_left _ _ hjl]
    · intro hat l
      have q : (ags.map (·.2)).findIdx? (fun v => decide (mkOf ks (hdI v) = mkOf ks n)) = none := by
        cases q : (ags.map (·.2)).findIdx? (fun v => decide (mkOf ks (hdI v) = mkOf ks n)) with
        | none => rfl
        | some j =>
          rw [lkp_agK, q] at hat
          obtain ⟨hj, _⟩ := List.findIdx?_eq_some_iff_getElem.mp q
          rw [List.length_map] at hj
          rw [show (some j).bind (fun j => (ags[j]?).map fun p => At.mk p.1) = (ags[j]?).map fun p => At.mk p.1 from rfl, List.getElem?_eq_getElem hj] at hat
          cases hat
      have e1 : putA (agK (mkOf ks) ags) (mkOf ks n) ⟨l⟩ = agK (mkOf ks) (ags ++ [(l, [n])]) := by
        unfold putA
        rw [hat]
        unfold agK
        rw [List.map_append]; rfl
      have e2 : agC (ags ++ [(l, [n])]) = agC ags ++ [Cell.lst l [n]] := by unfold agC; rw [List.map_append]; rfl
      refine S_perm (L' := Cell.dic dg (agK (mkOf ks) (ags ++ [(l, [n])])) :: (agC (ags ++ [(l, [n])]) ++ Cell.dic dk ks :: grC K a g)) (S_nil ⟨ags ++ [(l, [n])], _, rfl, ?_, rfl⟩) ?_
      · rw [hnx, addG_new q, List.map_append]; rfl
      · show List.Perm _ (Cell.lst l [n] :: Cell.dic dg (putA (agK (mkOf ks) ags) (mkOf ks n) ⟨l⟩) :: (agC ags ++ Cell.dic dk ks :: grC K a g))
        rw [e1, e2]
        refine (List.Perm.cons _ ?_).trans (List.Perm.swap _ _ _)
        rw [List.append_assoc]
        exact List.perm_middle
  · rintro env' L' ⟨ags, o, rfl, hag, rfl⟩
    rw [List.take_length] at hag
    have gi := grpI (mkOf ks) g.rows g.rows.length (Nat.le_refl _)
    rw [List.take_length, ← hag] at gi
    have hnd : ((agK (mkOf ks) ags).map (·.1)).Nodup := by
      have := gi.nd
      unfold agK
      rw [List.map_map] at this ⊢
      exact this
    have hlk : ∀ p ∈ agK (mkOf ks) ags, lkp (agK (mkOf ks) ags) p.1 = some p.2 := lkp_memA hnd
    refine S_retP [Cell.dic dg (agK (mkOf ks) ags), Cell.dic dk ks] (r := ⟨(picks (fun k : Int => (lkp (agK (mkOf ks) ags) k).getD ⟨0⟩) (fun _ => true) ((agK (mkOf ks) ags).map (·.1)))⟩) (L' := agC ags ++ grC K a g) (E_lock 0 rfl fun od kvs => E_lc [("kind", 5)] (fun k : Int => (lkp (agK (mkOf ks) ags) k).getD ⟨0⟩) (fun _ => true) ok (EI_keysZ (E_var 3) List.mem_cons_self) ?_ (hh := fun c hc => by rw [List.mem_singleton.mp hc]; exact List.mem_cons_self)) ?_ ⟨ags, ?_, hag, rfl⟩
    · intro j k hk
      refine ⟨_, _, ?_, fun R s H C0 cl fp okb => ⟨G_name 5 okb.nd, Ts_nil, fun _ => E_dgetZ okb (E_var 3) List.mem_cons_self (E_var 5) ?_⟩⟩
      · intro x hx
        exact hx
      · obtain ⟨p, hp, rfl⟩ := List.mem_map.mp (List.mem_of_getElem? hk)
        show lkp (agK (mkOf ks) ags) p.1 = some ((lkp (agK (mkOf ks) ags) p.1).getD ⟨0⟩)
        rw [hlk p hp]; rfl
    · refine List.Perm.cons _ ?_
      exact (List.perm_middle (l₁ := agC ags) (l₂ := grC K a g) (a := Cell.dic dk ks)).symm
    · have e : picks (fun k : Int => (lkp (agK (mkOf ks) ags) k).getD ⟨0⟩) (fun _ => true) ((agK (mkOf ks) ags).map (·.1)) = ags.map fun p => At.mk p.1 := by
        unfold picks
        rw [List.filter_eq_self.mpr fun _ _ => rfl, List.map_map]
        have : ∀ p ∈ agK (mkOf ks) ags, (lkp (agK (mkOf ks) ags) p.1).getD ⟨0⟩ = p.2 := fun p hp => by rw [hlk p hp]; rfl
        refine (List.map_congr_left (g := fun p : Int × At => p.2) this).trans ?_
        unfold agK
        rw [List.map_map]; rfl
      rw [e]
end

/-! ### edges of a graph -/
structure GraphT2 (K : PySem.W.Frag) (mg : Str → Option Value) : Prop where
  ic : C8.InsC K (He.ga K "Graph")
  isi : mg "isinstance" = none
def graph2B (K : PySem.W.Frag) : Bool := insB "Graph" K && faB [.free "isinstance"] K
theorem graphT2_of {K : PySem.W.Frag} {h : Heap} {mg : Str → Option Value} (X : K.In h) (G : h.Ns mainGlobals mg) (c : graph2B K = true) : GraphT2 K mg := by
  obtain ⟨c1, c2⟩ := He.ba c
  exact ⟨insB_ok c1, He.free_ok X G (faB_at c2 0)⟩
def spMust (K : PySem.W.Frag) : Sp := spM (γ := GA × GD × Int × Int) K (fun g => [⟨(At.mk g.1.p)⟩, ⟨(P2.mk g.2.2.1 g.2.2.2)⟩]) (fun g => grC K g.1 g.2.1) (fun g => (lkp g.2.1.told g.2.2.1).isSome = true ∧ (lkp g.2.1.told g.2.2.2).isSome = true)
  (fun g r L' => r = ⟨()⟩ ∧ L' = grC K g.1 g.2.1) (fun _ _ _ _ => False)
def spGrIadd (K : PySem.W.Frag) : Sp := spM (γ := GA × GD × Int × Int) K (fun g => [⟨(At.mk g.1.p)⟩, ⟨(P2.mk g.2.2.1 g.2.2.2)⟩]) (fun g => grC K g.1 g.2.1) (fun g => GOk g.2.1 ∧ g.2.2.1 ∈ g.2.1.rows ∧ g.2.2.2 ∈ g.2.1.rows)
  (fun g r L' => r = ⟨(At.mk g.1.p)⟩ ∧ L' = grC K g.1 (addE g.2.1 g.2.2.1 g.2.2.2)) (fun _ _ _ _ => False)
def spGrEq (K : PySem.W.Frag) : Sp := spM (γ := GA × GA × GD) K (fun g => [⟨(At.mk g.1.p)⟩, ⟨(At.mk g.2.1.p)⟩]) (fun g => grC K g.1 g.2.2 ++ grC K g.2.1 g.2.2) (fun g => (g.2.2.told.map (·.1)).Nodup ∧ (g.2.2.downs.map (·.1)).Nodup)
  (fun g r L' => r = ⟨true⟩ ∧ L' = grC K g.1 g.2.2 ++ grC K g.2.1 g.2.2) (fun _ _ _ _ => False)
section
variable {P : Program} {w : World} {K : PySem.W.Frag} {mg : Str → Option Value} {base : Heap} {f : Addr} {fd : FuncData}
theorem lkp_nbr {m : List (Int × List Int)} {n : Int} (h : (lkp m n).isSome = true) : lkp m n = some (nbr m n) := by
  unfold nbr
  cases q : lkp m n with
  | none => rw [q] at h; cases h
  | some y => rfl
theorem ok_Gr_must (Fn : FnP K "must_have" "Graph.must_have" d_Graph_must_have f fd) (T : GraphT K mg) : FnOk P w K mg base (L2.CX P w) 2 f fd ["self", "edge"] (spMust K) := by
  refine fn_spM Fn sc_Graph_must_have (fun _ => rfl) ?_
  rintro ⟨a, g, x, y⟩ ⟨hx, hy⟩ cdv A outer s H E R C ok
  have hx : (lkp g.told x).isSome = true := hx
  have hy : (lkp g.told y).isSome = true := hy
  show S _ [some ⟨(At.mk a.p)⟩, some ⟨(P2.mk x y)⟩, none] (grC K a g) _ _
  refine S_for ok (fun i env L => ∃ o : Option Ent, env = [some ⟨(At.mk a.p)⟩, some ⟨(P2.mk x y)⟩, o] ∧ L = grC K a g) (EI_p2 (E_var 1)) ⟨none, rfl, rfl⟩ ?_ ?_
  · rintro i n env' L' hi ⟨o, rfl, rfl⟩
    refine ⟨_, _, G_name 2 ok.nd, ?_⟩
    have hn : (lkp g.told n).isSome = true := by
      rcases List.mem_cons.mp (List.mem_of_getElem? hi) with rfl | h
      · exact hx
      · rw [List.mem_singleton.mp h]; exact hy
    refine S_if (T_dnin ok (E_var 2) (ED.own (E_fldO T.cl T.n2 (E_var 0) mem0 rfl) mem1)) (fun h => ?_) (fun h => ?_)
    · have h : (!(lkp g.told n).isSome) = true := h
      rw [hn] at h; cases h
    · exact S_nil (S_nil ⟨_, rfl, rfl⟩)
  · rintro env' L' ⟨o, rfl, rfl⟩
    exact S_nil ⟨rfl, rfl⟩
theorem ok_Gr_iadd (Fn : FnP K "__iadd__" "Graph.__iadd__" d_Graph___iadd__ f fd) (T : GraphT K mg) (Mu : Ms P w K mg base 2 (He.ga K "Graph") "must_have" (spMust K)) (Wn : Hs P w K mg base 2 "with_node" (spWithNode K)) : FnOk P w K mg base (L2.CX P w) 4 f fd ["self", "edge"] (spGrIadd K) := by
  refine fn_spM Fn sc_Graph___iadd__ (fun _ => rfl) ?_
  rintro ⟨a, g, x, y⟩ ⟨gok, hx, hy⟩ cdv A outer s H E R C ok
  have gok : GOk g := gok
  have hx : x ∈ g.rows := hx
  have hy : y ∈ g.rows := hy
  have e9 := sizeLine_eq
  have s3 := gok.sm.ups
  have s4 := gok.sm.downs
  have l1 := (gok.down x hx).2
  have l2 := (gok.up y hy).2
  have hdx := lkp_nbr (gok.downs x hx)
  have huy := lkp_nbr (gok.ups y hy)
  show S _ [some ⟨(At.mk a.p)⟩, some ⟨(P2.mk x y)⟩, none, none] (grC K a g) _ _
  refine S_exprM (EM_meth (a, g, x, y) ok T.cl Mu (E_var 0) (A_cons (E_var 1) A_nil) rfl ⟨gok.told x hx, gok.told y hy⟩ (LR := []) (List.Perm.refl _) (SeenM.obj mem0)) ?_ (fun _ _ _ ⟨_, z, _⟩ => z.elim)
  rintro _ _ ⟨_, ⟨rfl, rfl⟩, rfl⟩
  show S _ _ (grC K a g) _ _
  refine S_asg (E_var 1) (G_t2 ok (Gs_cons (G_name 2 ok.nd) (Gs_cons (G_name 3 ok.nd) Gs_nil))) ?_
  refine S_ifM (fun env L => env = [some ⟨(At.mk a.p)⟩, some ⟨(P2.mk x y)⟩, some ⟨x⟩, some ⟨y⟩] ∧ L = grC K a (addE g x y)) (T_ninL (E_var 3) (E_dget ok (ED.own (E_fldO T.cl T.n4 (E_var 0) mem0 rfl) mem3) (E_var 2) hdx).imm) (fun h => ?_) (fun h => ?_) ?_
  · have h : (!decide (y ∈ nbr g.downs x)) = true := h
    have hn : y ∉ nbr g.downs x := fun z => by rw [decide_eq_true z] at h; cases h
    refine S_dput (m := g.downs) 3 ok (E_call (nbr g.downs x, y) ok Wn (A_cons (E_dget ok (ED.own (E_fldO T.cl T.n4 (E_var 0) mem0 rfl) mem3) (E_var 2) hdx) (A_cons (E_var 3) A_nil)) (by show (nbr g.downs x).length ≤ 1000; omega)) (E_fldO T.cl T.n4 (E_var 0) mem0 rfl) (E_var 2) rfl (by omega) ?_
    refine S_dput (m := g.ups) 2 ok (E_call (nbr g.ups y, x) ok Wn (A_cons (E_dget ok (ED.own (E_fldO (fs := grF a g) T.cl T.n3 (E_var 0) List.mem_cons_self rfl) (List.mem_cons_of_mem _ (List.mem_cons_of_mem _ List.mem_cons_self))) (E_var 3) huy) (A_cons (E_var 2) A_nil)) (by show (nbr g.ups y).length ≤ 1000; omega)) (E_fldO (fs := grF a g) T.cl T.n3 (E_var 0) List.mem_cons_self rfl) (E_var 3) rfl (by omega) ?_
    refine S_nil ⟨rfl, ?_⟩
    unfold addE
    rw [if_neg hn]
    rfl
  · have h : (!decide (y ∈ nbr g.downs x)) = false := h
    have hn : y ∈ nbr g.downs x := by
      by_cases z : y ∈ nbr g.downs x
      · exact z
      · rw [decide_eq_false z] at h; cases h
    refine S_nil ⟨rfl, ?_⟩
    unfold addE
    rw [if_pos hn]
  · rintro _ _ ⟨rfl, rfl⟩
    exact S_ret (E_var 0) ⟨rfl, rfl⟩
theorem ok_Gr_eq (Fn : FnP K "__eq__" "Graph.__eq__" d_Graph___eq__ f fd) (T : GraphT K mg) (T2 : GraphT2 K mg) : FnOk P w K mg base (L2.CX P w) 2 f fd ["self", "other"] (spGrEq K) := by
  refine fn_spM Fn sc_Graph___eq__ (fun _ => rfl) ?_
  rintro ⟨a, b, g⟩ ⟨h1, h2⟩ cdv A outer s H E R C ok
  have h1 : (g.told.map (·.1)).Nodup := h1
  have h2 : (g.downs.map (·.1)).Nodup := h2
  show S _ [some ⟨(At.mk a.p)⟩, some ⟨(At.mk b.p)⟩] (grC K a g ++ grC K b g) _ _
  have ma : ∀ c ∈ grC K a g, c ∈ grC K a g ++ grC K b g := fun c hc => List.mem_append_left _ hc
  have mb : ∀ c ∈ grC K b g, c ∈ grC K a g ++ grC K b g := fun c hc => List.mem_append_right _ hc
  refine S_ret (E_and (E_isO T2.ic (Seen.obj (mb _ mem0)) (E_var 1) (E_glo T.g) T2.isi) (fun _ => E_and (E_eqDic ok (ED.own (E_fldO T.cl T.n2 (E_var 0) (ma _ mem0) rfl) (ma _ mem1)) (ED.own (E_fldO T.cl T.n2 (E_var 1) (mb _ mem0) rfl) (mb _ mem1)) h1) (fun _ => E_one (E_eqDic ok (ED.own (E_fldO T.cl T.n4 (E_var 0) (ma _ mem0) rfl) (ma _ mem3)) (ED.own (E_fldO T.cl T.n4 (E_var 1) (mb _ mem0) rfl) (mb _ mem3)) h2)))) ⟨rfl, rfl⟩
end

/-! ### the law's graphs -/
theorem ixN_at {n j : Nat} (hj : j < n) : ixN n (j : Int) = some j := by
  unfold ixN
  rw [if_pos (by omega), if_pos (by omega)]
  simp
theorem cellF_get {ns : List Int} {k : Nat} (h : k < ns.length) : ns[k]? = some (cellF ns k) := by
  unfold cellF
  rw [List.getD_eq_getElem?_getD, List.getElem?_eq_getElem h]; rfl
theorem rowF_rng (c : Int) (n k : Nat) : 0 ≤ cellF (rowF c n) k ∧ cellF (rowF c n) k < 1000 := by
  have key : ∀ n, ∀ z ∈ (rowS c n).1, 0 ≤ z ∧ z < 1000 := by
    intro n
    induction n with
    | zero => intro z hz; cases hz
    | succ n ih =>
      intro z hz
      unfold rowS at hz
      split at hz
      · rcases List.mem_append.mp hz with hz | hz
        · exact ih z hz
        · rw [List.mem_singleton.mp hz]
          exact ⟨Int.emod_nonneg _ (by decide), Int.emod_lt_of_pos _ (by decide)⟩
      · rcases List.mem_append.mp hz with hz | hz
        · exact ih z hz
        · rw [List.mem_singleton.mp hz]
          unfold mixF
          exact ⟨Int.emod_nonneg _ (by decide), Int.emod_lt_of_pos _ (by decide)⟩
  by_cases h : k < (rowF c n).length
  · exact key n _ (List.mem_of_getElem? (cellF_get h))
  · unfold cellF
    rw [List.getD_eq_getElem?_getD, List.getElem?_eq_none (by omega)]
    exact ⟨by decide, by decide⟩
structure DrawnX (ns : List Int) (ls : List Str) (net : List (List Bool)) : Prop where
  d : Drawn ns ls net
  lb : ∀ y ∈ ls, isLabel y = true
def namesOk (names : List Str) : Prop := names.length = 4 ∧ ∀ y ∈ names, isLabel y = true
def spLawGraph (K : PySem.W.Frag) : Sp := spM (γ := Int × Nat × List Str) K (fun g => [⟨g.1⟩, ⟨(g.2.1 : Int)⟩, ⟨g.2.2⟩]) (fun _ => []) (fun g => g.2.1 ≤ 8 ∧ namesOk g.2.2)
  (fun _ r L' => ∃ ns ls net, DrawnX ns ls net ∧ r = ⟨(H3.mk ns ls net)⟩ ∧ L' = []) (fun _ _ _ _ => False)
def gNum (row : List Int) (spread : Int) (j : Nat) : Int := (j : Int) + 1000 * spread * cellF row (2 + 5 * j)
def gLab (row : List Int) (names : List Str) (many : Int) (j : Nat) : Str := names.getD (cellF row (3 + 5 * j) % many).toNat ""
def gBits : List Int := [1, 2, 4, 8, 16, 32, 64, 128, 256]
def gNet (row : List Int) (style : Int) (n : Int) (j : Nat) : List Bool := picks (fun b : Int => decide (((picks (fun x : Int => x) (fun x => decide (x / cellF gBits b.toNat % 2 = 1)) (cut row (some (4 + 5 * (j : Int))) (some (4 + 5 * (j : Int) + style)))).length : Int) = style)) (fun _ => true) (rng 0 n.toNat)
theorem picks_all {α β : Type} (f : α → β) (as : List α) : picks f (fun _ => true) as = as.map f := by unfold picks; rw [List.filter_eq_self.mpr fun _ _ => rfl]
theorem map_range_succ {α : Type} (f : Nat → α) (i : Nat) : (List.range (i + 1)).map f = (List.range i).map f ++ [f i] := by rw [List.range_succ, List.map_append]; rfl
theorem gNum_rg {row : List Int} {spread : Int} {j : Nat} (hs : 0 ≤ spread ∧ spread ≤ 1) (hj : j < 10) (hr : 0 ≤ cellF row (2 + 5 * j) ∧ cellF row (2 + 5 * j) < 1000) : 0 ≤ gNum row spread j ∧ gNum row spread j < 999999 ∧ gNum row spread j % 1000 = j := by
  unfold gNum
  rcases (show spread = 0 ∨ spread = 1 by omega) with h | h <;> rw [h] <;> omega
theorem gNum_nodup {row : List Int} {spread : Int} {n : Nat} (hs : 0 ≤ spread ∧ spread ≤ 1) (hn : n < 10) (hr : ∀ k, 0 ≤ cellF row k ∧ cellF row k < 1000) : ((List.range n).map (gNum row spread)).Nodup := by
  rw [List.nodup_iff_pairwise_ne, List.pairwise_map]
  refine List.Pairwise.imp_of_mem (R := fun a b => a ≠ b) (fun {a b} ha hb hab z => hab ?_) List.nodup_range
  have h1 := (gNum_rg hs (show a < 10 by have := List.mem_range.mp ha; omega) (hr _)).2.2
  have h2 := (gNum_rg hs (show b < 10 by have := List.mem_range.mp hb; omega) (hr _)).2.2
  rw [z] at h1
  omega
theorem getD_label {names : List Str} (h : namesOk names) {i : Nat} (hi : i < 4) : isLabel (names.getD i "") = true := by
  rw [List.getD_eq_getElem?_getD, List.getElem?_eq_getElem (by rw [h.1]; exact hi)]
  exact h.2 _ (List.getElem_mem _)
theorem atI_getD {α : Type} {as : List α} {i : Int} {d : α} (h0 : 0 ≤ i) (h : i.toNat < as.length) : atI as i = some (as.getD i.toNat d) := atI_nat' h0 (by rw [List.getD_eq_getElem?_getD, List.getElem?_eq_getElem h]; rfl)
theorem gBits_rg {j : Nat} (h : j < 9) : 0 < cellF gBits j ∧ cellF gBits j < 1073741824 := by
  rcases (show j = 0 ∨ j = 1 ∨ j = 2 ∨ j = 3 ∨ j = 4 ∨ j = 5 ∨ j = 6 ∨ j = 7 ∨ j = 8 by omega) with h | h | h | h | h | h | h | h | h <;> rw [h] <;> exact ⟨by decide, by decide⟩
section
variable {P : Program} {w : World} {K : PySem.W.Frag} {mg : Str → Option Value} {base : Heap} {f : Addr} {fd : FuncData}
theorem ok_law_graph (Fn : FnP K "_law_graph" "_law_graph" d__law_graph f fd) (hr : mg "range" = none) (hi : mg "int" = none) (hl : mg "len" = none) (Ro : Hs P w K mg base 2 "_law_row" (spRow K)) : FnOk P w K mg base (L2.CX P w) 4 f fd ["_law_cell_here", "_law_most", "_law_names_here"] (spLawGraph K) := by
  refine fn_spM Fn sc__law_graph (fun _ => rfl) ?_
  rintro ⟨c, m, names⟩ ⟨hm, hn⟩ cdv A outer s H E R C ok
  have hm : m ≤ 8 := hm
  have hn : namesOk names := hn
  have e9 := sizeLine_eq
  show S _ [some ⟨c⟩, some ⟨(m : Int)⟩, some ⟨names⟩, none, none, none, none, none, none, none, none, none, none, none, none, none] _ _ _
  refine S_set 3 ok.nd (E_call (c, 2 + 5 * m) ok Ro (A_cons (E_var 0) (A_cons (E_bin E_int (E_bin E_int (E_var 1) (bin_mulI (by unfold CMul; omega))) bin_addI) A_nil)) (by show 2 + 5 * m ≤ 1000; omega)) ?_
  have hrl := rowF_len c (2 + 5 * m)
  have hrg := rowF_rng c (2 + 5 * m)
  show S _ [some ⟨c⟩, some ⟨(m : Int)⟩, some ⟨names⟩, some ⟨rowF c (2 + 5 * m)⟩, none, none, none, none, none, none, none, none, none, none, none, none] _ _ _
  generalize rowF c (2 + 5 * m) = row at hrl hrg
  have at0 : atI row (0 : Int) = some (cellF row 0) := at_row (by omega) (by omega)
  have at1 : atI row (1 : Int) = some (cellF row 1) := at_row (by omega) (by omega)
  refine S_set 4 ok.nd (E_bin (E_bi cal_intI (A_cons (E_ix (E_var 3).imm E_int at0) A_nil) hi) (E_bin (E_var 1) E_int bin_addI) (bin_modI (by omega))) ?_
  have hc0 := Int.emod_nonneg (cellF row 0) (show ((m : Int) + 1) ≠ 0 by omega)
  have hc1 := Int.emod_lt_of_pos (cellF row 0) (show (0 : Int) < (m : Int) + 1 by omega)
  generalize cellF row 0 % ((m : Int) + 1) = cnt at hc0 hc1
  refine S_set 5 ok.nd (E_lst gBits (A_cons E_int (A_cons E_int (A_cons E_int (A_cons E_int (A_cons E_int (A_cons E_int (A_cons E_int (A_cons E_int (A_cons E_int A_nil)))))))))) ?_
  refine S_set 6 ok.nd (E_bin E_int (E_bin (E_bi cal_intI (A_cons (E_ix (E_var 3).imm E_int at1) A_nil) hi) E_int (bin_modI (by decide))) bin_addI) ?_
  refine S_set 7 ok.nd (E_bin E_int (E_bin (E_bi cal_intI (A_cons (E_bin (E_ix (E_var 3).imm E_int at1) E_int (bin_fdivI (by decide))) A_nil) hi) E_int (bin_modI (by decide))) bin_addI) ?_
  refine S_set 8 ok.nd (E_bin (E_bi cal_intI (A_cons (E_bin (E_ix (E_var 3).imm E_int at1) E_int (bin_fdivI (by decide))) A_nil) hi) E_int (bin_modI (by decide))) ?_
  have m0 := Int.emod_nonneg (cellF row 1) (show (3 : Int) ≠ 0 by decide)
  have m1 := Int.emod_lt_of_pos (cellF row 1) (show (0 : Int) < 3 by decide)
  have t0 := Int.emod_nonneg (cellF row 1 / 3) (show (3 : Int) ≠ 0 by decide)
  have t1 := Int.emod_lt_of_pos (cellF row 1 / 3) (show (0 : Int) < 3 by decide)
  have p0 := Int.emod_nonneg (cellF row 1 / 9) (show (2 : Int) ≠ 0 by decide)
  have p1 := Int.emod_lt_of_pos (cellF row 1 / 9) (show (0 : Int) < 2 by decide)
  generalize cellF row 1 % 3 = mm at m0 m1
  generalize cellF row 1 / 3 % 3 = tt at t0 t1
  generalize cellF row 1 / 9 % 2 = pp at p0 p1
  refine S_newL 9 ([] : List Int) ok.nd A_nil (fun la => ?_)
  refine S_newL 10 ([] : List Str) ok.nd A_nil (fun lb => ?_)
  refine S_newL 11 ([] : List (List Bool)) ok.nd A_nil (fun lc => ?_)
  refine S_for ok (fun i env L => ∃ o1 o2 : Option Ent, env = [some ⟨c⟩, some ⟨(m : Int)⟩, some ⟨names⟩, some ⟨row⟩, some ⟨cnt⟩, some ⟨gBits⟩, some ⟨(1 + mm : Int)⟩, some ⟨(1 + tt : Int)⟩, some ⟨pp⟩, some ⟨(At.mk la)⟩, some ⟨(At.mk lb)⟩, some ⟨(At.mk lc)⟩, o1, o2, none, none]
    ∧ L = [Cell.lst lc ((List.range i).map (gNet row (1 + tt) cnt)), Cell.lst lb ((List.range i).map (gLab row names (1 + mm))), Cell.lst la ((List.range i).map (gNum row pp))]) (EI_rng1 (E_var 4) hr (by omega)) ⟨none, none, rfl, rfl⟩ ?_ ?_
  · rintro i a env' L' ha ⟨o1, o2, rfl, rfl⟩
    obtain ⟨hi', rfl⟩ := rng0_of ha
    have hi8 : i < 8 := by omega
    refine ⟨_, _, G_name 12 ok.nd, ?_⟩
    have a2 : atI row (2 + 5 * (i : Int)) = some (cellF row (2 + 5 * i)) := at_row (j := 2 + 5 * (i : Int)) (by omega) (by omega)
    have a3 : atI row (3 + 5 * (i : Int)) = some (cellF row (3 + 5 * i)) := at_row (j := 3 + 5 * (i : Int)) (by omega) (by omega)
    have r2 := hrg (2 + 5 * i)
    have q0 := Int.emod_nonneg (cellF row (3 + 5 * i)) (show (1 + mm) ≠ 0 by omega)
    have q1 := Int.emod_lt_of_pos (cellF row (3 + 5 * i)) (show (0 : Int) < 1 + mm by omega)
    refine S_app 2 (E_var 9) (E_bin (E_var 12) (E_bin (E_bin E_int (E_var 8) (bin_mulI (by unfold CMul; omega))) (E_ix (E_var 3).imm (E_bin E_int (E_bin E_int (E_var 12) (bin_mulI (by unfold CMul; omega))) bin_addI) a2) (bin_mulI (by unfold CMul; omega))) bin_addI) rfl (by rw [List.length_map, List.length_range]; omega) ?_
    refine S_app 1 (E_var 10) (E_ix (E_var 2).imm (E_bin (E_bi cal_intI (A_cons (E_ix (E_var 3).imm (E_bin E_int (E_bin E_int (E_var 12) (bin_mulI (by unfold CMul; omega))) bin_addI) a3) A_nil) hi) (E_var 6) (bin_modI (by omega))) (atI_getD (d := ("" : Str)) q0 (by rw [hn.1]; omega))) rfl (by rw [List.length_map, List.length_range]; omega) ?_
    refine S_set 13 ok.nd (E_sl (E_var 3).imm (EO_some (E_bin E_int (E_bin E_int (E_var 12) (bin_mulI (by unfold CMul; omega))) bin_addI)) (EO_some (E_bin (E_bin E_int (E_bin E_int (E_var 12) (bin_mulI (by unfold CMul; omega))) bin_addI) (E_var 7) bin_addI))) ?_
    refine S_app 0 (E_var 11) (E_lc [("_law_b", 14)] (fun b : Int => decide (((picks (fun x : Int => x) (fun x => decide (x / cellF gBits b.toNat % 2 = 1)) (cut row (some (4 + 5 * (i : Int))) (some (4 + 5 * (i : Int) + (1 + tt))))).length : Int) = 1 + tt)) (fun _ => true) ok (EI_rng1 (E_var 4) hr (by omega)) ?_) rfl (by rw [List.length_map, List.length_range]; omega) ?_
    · intro j b hb
      obtain ⟨hj, rfl⟩ := rng0_of hb
      refine ⟨_, _, ?_, fun R s H C0 cl fp okb => ⟨G_name 14 okb.nd, Ts_nil, fun _ => ?_⟩⟩
      · intro x hx
        exact hx
      · refine E_cmp (E_biR calR_len (E_lc [("_law_x", 15)] (fun x : Int => x) (fun x => decide (x / cellF gBits (j : Int).toNat % 2 = 1)) okb (EI_list (E_var 13)) ?_).imm hl) (E_var 7) cmp_eqI (nomark _)
        intro jj x hx
        refine ⟨_, _, ?_, fun R s H C0 cl fp okc => ⟨G_name 15 okc.nd, Ts_one (T_cmp (E_bin (E_bi cal_intI (A_cons (E_bin (E_var 15) (E_ix (E_var 5).imm (E_var 14) (at_row (ns := gBits) (by omega) (by show (j : Int) < 9; omega))) (bin_fdivI (gBits_rg (by omega)))) A_nil) hi) E_int (bin_modI (by decide))) E_int cmp_eqI (nomark _)), fun _ => E_var 15⟩⟩
        intro x hx
        exact hx
    · refine S_nil ⟨_, _, rfl, ?_⟩
      rw [map_range_succ, map_range_succ, map_range_succ]
      rfl
  · rintro env' L' ⟨o1, o2, rfl, rfl⟩
    rw [rng_len]
    refine S_frz 11 0 rfl rfl (S_frz 10 0 rfl rfl (S_frz 9 0 rfl rfl (S_ret (E_h3 (A_cons (E_var 9) (A_cons (E_var 10) (A_cons (E_var 11) A_nil)))) ⟨_, _, _, ?_, rfl, rfl⟩)))
    refine ⟨⟨by simp, by simp, ?_, gNum_nodup ⟨p0, by omega⟩ (by omega) hrg, by rw [List.length_map, List.length_range]; omega, ?_⟩, ?_⟩
    · intro r hr
      obtain ⟨j, hj, rfl⟩ := List.mem_map.mp hr
      unfold gNet
      rw [picks_all, List.length_map, rng_len, List.length_map, List.length_range]
    · intro n hn
      obtain ⟨j, hj, rfl⟩ := List.mem_map.mp hn
      have := gNum_rg ⟨p0, by omega⟩ (show j < 10 by have := List.mem_range.mp hj; omega) (hrg (2 + 5 * j))
      omega
    · intro y hy
      obtain ⟨j, hj, rfl⟩ := List.mem_map.mp hy
      have q0 := Int.emod_nonneg (cellF row (3 + 5 * j)) (show (1 + mm) ≠ 0 by omega)
      have q1 := Int.emod_lt_of_pos (cellF row (3 + 5 * j)) (show (0 : Int) < 1 + mm by omega)
      exact getD_label hn (by omega)
end

/-! ### wide graphs, any graph, the graph made -/
def spLawWide (K : PySem.W.Frag) : Sp := spM (γ := Int × List Str) K (fun g => [⟨g.1⟩, ⟨g.2⟩]) (fun _ => []) (fun g => namesOk g.2)
  (fun _ r L' => ∃ ns ls net, DrawnX ns ls net ∧ r = ⟨(H3.mk ns ls net)⟩ ∧ L' = []) (fun _ _ _ _ => False)
def spAnyGraph (K : PySem.W.Frag) : Sp := spM (γ := List Int × Nat × List Str) K (fun g => [⟨(Scr.mk g.1)⟩, ⟨(g.2.1 : Int)⟩, ⟨g.2.2⟩]) (fun _ => []) (fun g => namesOk g.2.2)
  (fun _ r L' => ∃ ns ls net, DrawnX ns ls net ∧ r = ⟨(H3.mk ns ls net)⟩ ∧ L' = []) (fun _ _ _ _ => False)
def wNet (row : List Int) (n : Int) (j : Nat) : List Bool := picks (fun b : Int => decide (b = ((j : Int) * (1 + cellF row 4 % 5) + cellF row 5) % n) || (decide (cellF row 6 % 2 = 1) && decide (b = (j : Int) + 1))) (fun _ => true) (rng 0 n.toNat)
section
variable {P : Program} {w : World} {K : PySem.W.Frag} {mg : Str → Option Value} {base : Heap} {f : Addr} {fd : FuncData}
theorem ok_law_wide (Fn : FnP K "_law_wide" "_law_wide" d__law_wide f fd) (hr : mg "range" = none) (hi : mg "int" = none) (Ro : Hs P w K mg base 2 "_law_row" (spRow K)) : FnOk P w K mg base (L2.CX P w) 4 f fd ["_law_cell_here", "_law_names_here"] (spLawWide K) := by
  refine fn_spM Fn sc__law_wide (fun _ => rfl) ?_
  rintro ⟨c, names⟩ hn cdv A outer s H E R C ok
  have hn : namesOk names := hn
  have e9 := sizeLine_eq
  show S _ [some ⟨c⟩, some ⟨names⟩, none, none, none, none, none, none, none, none] _ _ _
  refine S_set 2 ok.nd (E_call (c, 8) ok Ro (A_cons (E_var 0) (A_cons E_int A_nil)) (by show 8 ≤ 1000; omega)) ?_
  have hrl := rowF_len c 8
  have hrg := rowF_rng c 8
  show S _ [some ⟨c⟩, some ⟨names⟩, some ⟨rowF c 8⟩, none, none, none, none, none, none, none] _ _ _
  generalize rowF c 8 = row at hrl hrg
  have at0 : atI row (0 : Int) = some (cellF row 0) := at_row (by omega) (by omega)
  have at1 : atI row (1 : Int) = some (cellF row 1) := at_row (by omega) (by omega)
  have at2 : atI row (2 : Int) = some (cellF row 2) := at_row (by omega) (by omega)
  have at3 : atI row (3 : Int) = some (cellF row 3) := at_row (by omega) (by omega)
  have at4 : atI row (4 : Int) = some (cellF row 4) := at_row (by omega) (by omega)
  have at5 : atI row (5 : Int) = some (cellF row 5) := at_row (by omega) (by omega)
  have at6 : atI row (6 : Int) = some (cellF row 6) := at_row (by omega) (by omega)
  have at7 : atI row (7 : Int) = some (cellF row 7) := at_row (by omega) (by omega)
  have g2 := hrg 2
  have g3 := hrg 3
  have g7 := hrg 7
  refine S_set 3 ok.nd (E_bin E_int (E_bin (E_bi cal_intI (A_cons (E_ix (E_var 2).imm E_int at0) A_nil) hi) E_int (bin_modI (by decide))) bin_addI) ?_
  have hc0 := Int.emod_nonneg (cellF row 0) (show (51 : Int) ≠ 0 by decide)
  have hc1 := Int.emod_lt_of_pos (cellF row 0) (show (0 : Int) < 51 by decide)
  generalize cellF row 0 % 51 = cn at hc0 hc1
  have hcnt : 10 ≤ 10 + cn ∧ 10 + cn ≤ 60 := by omega
  generalize 10 + cn = cnt at hcnt
  refine S_set 4 ok.nd (E_bin E_int (E_bin (E_bi cal_intI (A_cons (E_ix (E_var 2).imm E_int at1) A_nil) hi) E_int (bin_modI (by decide))) bin_addI) ?_
  have m0 := Int.emod_nonneg (cellF row 1) (show (3 : Int) ≠ 0 by decide)
  have m1 := Int.emod_lt_of_pos (cellF row 1) (show (0 : Int) < 3 by decide)
  generalize cellF row 1 % 3 = mm at m0 m1
  refine S_setLc 5 [("_law_a", 7)] (fun a : Int => names.getD ((cellF row 2 * a + cellF row 3) / 7 % (1 + mm)).toNat ("" : Str)) (fun _ => true) ok (EI_rng1 (E_var 3) hr (by omega)) ?_ ?_
  · intro i a ha
    obtain ⟨hi', rfl⟩ := rng0_of ha
    have q0 := Int.emod_nonneg ((cellF row 2 * (i : Int) + cellF row 3) / 7) (show (1 + mm) ≠ 0 by omega)
    have q1 := Int.emod_lt_of_pos ((cellF row 2 * (i : Int) + cellF row 3) / 7) (show (0 : Int) < 1 + mm by omega)
    refine ⟨_, _, ?_, fun R s H C0 cl fp okb => ⟨G_name 7 okb.nd, Ts_nil, fun _ => E_ix (E_var 1).imm (E_bin (E_bi cal_intI (A_cons (E_bin (E_bin (E_bin (E_ix (E_var 2).imm E_int at2) (E_var 7) (bin_mulI (by unfold CMul; omega))) (E_ix (E_var 2).imm E_int at3) bin_addI) E_int (bin_fdivI (by decide))) A_nil) hi) (E_var 4) (bin_modI (by omega))) (atI_getD (d := ("" : Str)) q0 (by rw [hn.1]; omega))⟩⟩
    intro x hx
    exact hx
  refine S_newL 6 ([] : List (List Bool)) ok.nd A_nil (fun lc => ?_)
  have z0 := Int.emod_nonneg (cellF row 4) (show (5 : Int) ≠ 0 by decide)
  have z1 := Int.emod_lt_of_pos (cellF row 4) (show (0 : Int) < 5 by decide)
  refine S_for ok (fun i env L => ∃ o1 o2 : Option Ent, env = [some ⟨c⟩, some ⟨names⟩, some ⟨row⟩, some ⟨cnt⟩, some ⟨(1 + mm : Int)⟩, some ⟨(picks (fun a : Int => names.getD ((cellF row 2 * a + cellF row 3) / 7 % (1 + mm)).toNat ("" : Str)) (fun _ => true) (rng 0 cnt.toNat))⟩, some ⟨(At.mk lc)⟩, o1, o2, none]
    ∧ L = [Cell.lst lc ((List.range i).map (wNet row cnt))]) (EI_rng1 (E_var 3) hr (by omega)) ⟨none, none, rfl, rfl⟩ ?_ ?_
  · rintro i a env' L' ha ⟨o1, o2, rfl, rfl⟩
    obtain ⟨hi', rfl⟩ := rng0_of ha
    refine ⟨_, _, G_name 7 ok.nd, ?_⟩
    refine S_set 8 ok.nd (E_bin (E_bi cal_intI (A_cons (E_bin (E_bin (E_var 7) (E_bin E_int (E_bin (E_bi cal_intI (A_cons (E_ix (E_var 2).imm E_int at4) A_nil) hi) E_int (bin_modI (by decide))) bin_addI) (bin_mulI (by unfold CMul; omega))) (E_ix (E_var 2).imm E_int at5) bin_addI) A_nil) hi) (E_var 3) (bin_modI (by omega))) ?_
    refine S_app 0 (E_var 6) (E_lc [("_law_b", 9)] (fun b : Int => decide (b = ((i : Int) * (1 + cellF row 4 % 5) + cellF row 5) % cnt) || (decide (cellF row 6 % 2 = 1) && decide (b = (i : Int) + 1))) (fun _ => true) ok (EI_rng1 (E_var 3) hr (by omega)) ?_) rfl (by rw [List.length_map, List.length_range]; omega) ?_
    · intro j b hb
      refine ⟨_, _, ?_, fun R s H C0 cl fp okb => ⟨G_name 9 okb.nd, Ts_nil, fun _ => ?_⟩⟩
      · intro x hx
        exact hx
      · exact E_or (E_cmp (E_var 9) (E_var 8) cmp_eqI (nomark _)) (fun _ => E_one (E_and (E_cmp (E_bin (E_bi cal_intI (A_cons (E_ix (E_var 2).imm E_int at6) A_nil) hi) E_int (bin_modI (by decide))) E_int cmp_eqI (nomark _)) (fun _ => E_one (E_cmp (E_var 9) (E_bin (E_var 7) E_int bin_addI) cmp_eqI (nomark _)))))
    · refine S_nil ⟨_, _, rfl, ?_⟩
      rw [map_range_succ]
      rfl
  · rintro env' L' ⟨o1, o2, rfl, rfl⟩
    rw [rng_len]
    refine S_frz 6 0 rfl rfl (S_ret (E_h3 (A_cons (E_lc [("_law_a", 7)] (fun a : Int => a * (1 + cellF row 7)) (fun _ => true) ok (EI_rng1 (E_var 3) hr (by omega)) ?_) (A_cons (E_var 5) (A_cons (E_var 6) A_nil)))) ⟨_, _, _, ?_, rfl, rfl⟩)
    · intro j a ha
      obtain ⟨hj, rfl⟩ := rng0_of ha
      refine ⟨_, _, ?_, fun R s H C0 cl fp okb => ⟨G_name 7 okb.nd, Ts_nil, fun _ => E_bin (E_var 7) (E_bin E_int (E_ix (E_var 2).imm E_int at7) bin_addI) (bin_mulI (by unfold CMul; omega))⟩⟩
      intro x hx
      exact hx
    · rw [picks_all, picks_all]
      have hmem : ∀ n ∈ (rng 0 cnt.toNat).map (fun a : Int => a * (1 + cellF row 7)), ∃ j : Nat, j < 60 ∧ n = (j : Int) * (1 + cellF row 7) := by
        intro n hn
        obtain ⟨a, ha, rfl⟩ := List.mem_map.mp hn
        obtain ⟨i, hi2⟩ := List.mem_iff_getElem?.mp ha
        obtain ⟨h1, rfl⟩ := rng0_of hi2
        exact ⟨i, by omega, rfl⟩
      refine ⟨⟨by simp, by simp [rng_len], ?_, ?_, by rw [List.length_map, rng_len]; omega, ?_⟩, ?_⟩
      · intro r hr
        obtain ⟨j, hj, rfl⟩ := List.mem_map.mp hr
        unfold wNet
        rw [picks_all, List.length_map, List.length_map]
      · rw [List.nodup_iff_pairwise_ne, List.pairwise_map]
        have hp : (rng 0 cnt.toNat).Pairwise (fun a b => a ≠ b) := by
          unfold rng
          rw [List.pairwise_map]
          refine List.Pairwise.imp ?_ (show (List.range cnt.toNat).Pairwise (· ≠ ·) from List.nodup_range)
          intro a b hab z
          exact hab (by omega)
        refine List.Pairwise.imp ?_ hp
        intro a b hab z
        rcases Int.lt_trichotomy a b with q | q | q
        · exact absurd z (Int.ne_of_lt (Int.mul_lt_mul_of_pos_right q (by omega)))
        · exact hab q
        · exact absurd z.symm (Int.ne_of_lt (Int.mul_lt_mul_of_pos_right q (by omega)))
      · intro n hn
        obtain ⟨j, hj, rfl⟩ := hmem n hn
        have h1 : 0 ≤ (j : Int) * (1 + cellF row 7) := Int.mul_nonneg (by omega) (by omega)
        have h2 : (j : Int) * (1 + cellF row 7) ≤ 60 * 1000 := Int.mul_le_mul (by omega) (by omega) (by omega) (by omega)
        omega
      · intro y hy
        obtain ⟨a, ha, rfl⟩ := List.mem_map.mp hy
        have q0 := Int.emod_nonneg ((cellF row 2 * a + cellF row 3) / 7) (show (1 + mm) ≠ 0 by omega)
        have q1 := Int.emod_lt_of_pos ((cellF row 2 * a + cellF row 3) / 7) (show (0 : Int) < 1 + mm by omega)
        exact getD_label hn (by omega)
theorem ok_law_any_graph (Fn : FnP K "_law_any_graph" "_law_any_graph" d__law_any_graph f fd) (hi : mg "int" = none) (Ce : Hs P w K mg base 2 "_law_cell" (spCell K)) (Wi : Hs P w K mg base 4 "_law_wide" (spLawWide K)) (Gr : Hs P w K mg base 4 "_law_graph" (spLawGraph K)) : FnOk P w K mg base (L2.CX P w) 6 f fd ["_law_script", "_law_k", "_law_names_here"] (spAnyGraph K) := by
  refine fn_spM Fn sc__law_any_graph (fun _ => rfl) ?_
  rintro ⟨ns, k, names⟩ hn cdv A outer s H E R C ok
  have hn : namesOk names := hn
  show S _ [some ⟨(Scr.mk ns)⟩, some ⟨(k : Int)⟩, some ⟨names⟩] _ _ _
  refine S_if (T_cmp (E_bin (E_bi cal_intI (A_cons (E_call (ns, k) ok Ce (A_cons (E_var 0) (A_cons (E_var 1) A_nil)) trivial) A_nil) hi) E_int (bin_modI (by decide))) E_int cmp_eqI (nomark _)) (fun h => ?_) (fun h => ?_)
  · refine S_retM (EM_call (cellF ns (k + 1), names) ok Wi (A_cons (E_call (ns, k + 1) ok Ce (A_cons (E_var 0) (A_cons (E_bin (E_var 1) E_int bin_addI) A_nil)) trivial) (A_cons (E_var 2) A_nil)) hn (LR := []) (List.Perm.refl _)) ?_ (fun _ _ _ ⟨_, z, _⟩ => z.elim)
    rintro _ _ ⟨_, ⟨a, b, c, h1, rfl, rfl⟩, rfl⟩
    exact ⟨a, b, c, h1, rfl, rfl⟩
  · refine S_nil (S_retM (EM_call (cellF ns (k + 1), 8, names) ok Gr (A_cons (E_call (ns, k + 1) ok Ce (A_cons (E_var 0) (A_cons (E_bin (E_var 1) E_int bin_addI) A_nil)) trivial) (A_cons E_int (A_cons (E_var 2) A_nil))) ⟨by show 8 ≤ 8; omega, hn⟩ (LR := []) (List.Perm.refl _)) ?_ (fun _ _ _ ⟨_, z, _⟩ => z.elim))
    rintro _ _ ⟨_, ⟨a, b, c, h1, rfl, rfl⟩, rfl⟩
    exact ⟨a, b, c, h1, rfl, rfl⟩
end

/-! ### the law makes its graph -/
def spMade (K : PySem.W.Frag) : Sp := spM (γ := List Int × List Str × List (List Bool)) K (fun g => [⟨g.1⟩, ⟨g.2.1⟩, ⟨g.2.2⟩]) (fun _ => []) (fun g => DrawnX g.1 g.2.1 g.2.2)
  (fun g r L' => ∃ a : GA, r = ⟨(At.mk a.p)⟩ ∧ L' = grC K a (madeF g.1 g.2.1 g.2.2)) (fun _ _ _ _ => False)
theorem GB.sm {ns ls k S g} (h : GB ns ls k S g) (hk : k ≤ ns.length) (few : ns.length ≤ 60) : GSm g ∧ g.rows.length = k := by
  have hl : (ns.take k).length = k := by rw [List.length_take]; omega
  have h1 := h.rows.length_eq
  have h2 := congrArg List.length h.kt
  have h3 := congrArg List.length h.ku
  have h4 := congrArg List.length h.kd
  rw [List.length_map] at h2 h3 h4
  exact ⟨⟨by omega, by omega, by omega, by omega⟩, by omega⟩
theorem netAt_row {ns ls net} (d : Drawn ns ls net) {u v : Nat} (hu : u < ns.length) (hv : v < ns.length) : net[u]? = some (net[u]?.getD []) ∧ (net[u]?.getD [])[v]? = some (netAt net u v) := by
  have l1 : u < net.length := by rw [d.nl]; exact hu
  have e1 := List.getElem?_eq_getElem l1
  have l2 := d.row _ (List.getElem_mem l1)
  unfold netAt
  rw [e1]
  refine ⟨rfl, ?_⟩
  show (net[u])[v]? = some ((net[u])[v]?.getD false)
  rw [List.getElem?_eq_getElem (by rw [l2]; exact hv)]; rfl
theorem edgG_succ {ns net g a k} : edgG ns net g a (k + 1) = if netAt net a k then addE (edgG ns net g a k) (atN ns a) (atN ns k) else edgG ns net g a k := by
  unfold edgG
  rw [foldl_range]
section
variable {P : Program} {w : World} {K : PySem.W.Frag} {mg : Str → Option Value} {base : Heap} {f : Addr} {fd : FuncData}
theorem ok_law_made (Fn : FnP K "_law_made" "_law_made" d__law_made f fd) (T : GraphT K mg) (hr : mg "range" = none) (Mg0 : Mks P w K mg base 2 (He.ga K "Graph") "Graph" (spGrInit K)) (Se : Ms P w K mg base 6 (He.ga K "Graph") "__setitem__" (spGrSet0 K)) (Ia : Ms P w K mg base 4 (He.ga K "Graph") "__iadd__" (spGrIadd K)) : FnOk P w K mg base (L2.CX P w) 8 f fd ["_law_numbers", "_law_labels", "_law_net"] (spMade K) := by
  refine fn_spM Fn sc__law_made (fun _ => rfl) ?_
  rintro ⟨ns, ls, net⟩ dx cdv A outer s H E R C ok
  have dx : DrawnX ns ls net := dx
  have d := dx.d
  have few := d.few
  have e9 := sizeLine_eq
  have hN : ∀ {i : Nat}, i < ns.length → atI ns (i : Int) = some (atN ns i) := fun hi => atI_nat' (by omega) (by rw [Int.toNat_natCast]; exact get_atN hi)
  show S _ [some ⟨ns⟩, some ⟨ls⟩, some ⟨net⟩, none, none, none] _ _ _
  refine S_setM 3 ok.nd (EM_Graph ok Mg0) ?_ (fun _ _ _ z => z.elim)
  rintro _ _ ⟨a, rfl, rfl⟩
  show S _ _ (grC K a GD.nil) _ _
  refine S_for ok (fun i env L => ∃ o : Option Ent, env = [some ⟨ns⟩, some ⟨ls⟩, some ⟨net⟩, some ⟨(At.mk a.p)⟩, o, none] ∧ L = grC K a (labG ns ls i)) (EI_rng1 (E_biR calR_len (E_var 0).imm T.len) hr (by omega)) ⟨none, rfl, rfl⟩ ?_ ?_
  · rintro i x env' L' hx ⟨o, rfl, rfl⟩
    obtain ⟨hi, rfl⟩ := rng0_of hx
    rw [Int.toNat_natCast] at hi
    refine ⟨_, _, G_name 4 ok.nd, ?_⟩
    have gb := labG_ok d.nd d.len i (by omega)
    obtain ⟨sm, hlen⟩ := gb.sm (by omega) few
    have hl2 : i < ls.length := by rw [d.len]; exact hi
    have hy : ls[i]? = some (atL ls i) := by unfold atL; rw [List.getD_eq_getElem?_getD, List.getElem?_eq_getElem hl2]; rfl
    have hrg := d.rg _ (List.mem_of_getElem? (get_atN hi))
    refine S_setO (a, labG ns ls i, atN ns i, atL ls i) ok T.ns Se (E_ix (E_var 1).imm (E_var 4) (atI_nat' (by omega) (by rw [Int.toNat_natCast]; exact hy))) (E_var 3) (E_ix (E_var 0).imm (E_var 4) (hN hi)) rfl ⟨⟨hrg.1, Int.le_of_lt hrg.2⟩, dx.lb _ (List.mem_of_getElem? hy), sm, Or.inr (by show (labG ns ls i).rows.length < 60; omega)⟩ (LR := []) (List.Perm.refl _) (Seen.obj mem0) ?_ (fun _ _ _ z => z.elim)
    rintro _ _ ⟨rfl, rfl⟩
    refine S_nil ⟨_, rfl, ?_⟩
    show grC K a (setG (labG ns ls i) (atN ns i) (atL ls i)) ++ [] = _
    rw [List.append_nil]
    unfold labG
    rw [foldl_range]
  · rintro env' L' ⟨o, rfl, rfl⟩
    rw [rng_len, Int.toNat_natCast]
    have gb0 := labG_ok d.nd d.len ns.length (Nat.le_refl _)
    refine S_for ok (fun i env L => ∃ o o2 : Option Ent, env = [some ⟨ns⟩, some ⟨ls⟩, some ⟨net⟩, some ⟨(At.mk a.p)⟩, o, o2] ∧ L = grC K a (allG ns net (labG ns ls ns.length) i)) (EI_rng1 (E_biR calR_len (E_var 0).imm T.len) hr (by omega)) ⟨_, _, rfl, rfl⟩ ?_ ?_
    · rintro i x env' L' hx ⟨o, o2, rfl, rfl⟩
      obtain ⟨hi, rfl⟩ := rng0_of hx
      rw [Int.toNat_natCast] at hi
      refine ⟨_, _, G_name 4 ok.nd, ?_⟩
      have gbi := allG_ok (net := net) gb0 d.nd i (by omega)
      refine S_for ok (fun j env L => ∃ o2 : Option Ent, env = [some ⟨ns⟩, some ⟨ls⟩, some ⟨net⟩, some ⟨(At.mk a.p)⟩, some ⟨(i : Int)⟩, o2] ∧ L = grC K a (edgG ns net (allG ns net (labG ns ls ns.length) i) i j)) (EI_rng1 (E_biR calR_len (E_var 0).imm T.len) hr (by omega)) ⟨_, rfl, rfl⟩ ?_ ?_
      · rintro j y env' L' hy ⟨o2, rfl, rfl⟩
        obtain ⟨hj, rfl⟩ := rng0_of hy
        rw [Int.toNat_natCast] at hj
        refine ⟨_, _, G_name 5 ok.nd, ?_⟩
        have gbj := edgG_ok (net := net) gbi d.nd hi j (by omega)
        obtain ⟨r1, r2⟩ := netAt_row d hi hj
        have hin : ∀ {k : Nat}, k < ns.length → atN ns k ∈ (edgG ns net (allG ns net (labG ns ls ns.length) i) i j).rows := fun hk => gbj.rows.mem_iff.mpr (by rw [List.take_length]; exact List.mem_of_getElem? (get_atN hk))
        refine S_if (T_val (E_ix (E_ix (E_var 2).imm (E_var 4) (atI_nat' (by omega) (by rw [Int.toNat_natCast]; exact r1))).imm (E_var 5) (atI_nat' (by omega) (by rw [Int.toNat_natCast]; exact r2)))) (fun h => ?_) (fun h => ?_)
        · have h : netAt net i j = true := h
          refine S_iaddO (a, edgG ns net (allG ns net (labG ns ls ns.length) i) i j, atN ns i, atN ns j) 3 ok T.sf Ia rfl (E_tup2 (A_cons (E_ix (E_var 0).imm (E_var 4) (hN hi)) (A_cons (E_ix (E_var 0).imm (E_var 5) (hN hj)) A_nil))) rfl ⟨gbj.ok few, hin hi, hin hj⟩ (LR := []) (List.Perm.refl _) (Seen.obj mem0) ?_ (fun _ _ _ z => z.elim)
          rintro _ _ ⟨rfl, rfl⟩
          refine S_nil (S_nil ⟨_, rfl, ?_⟩)
          show grC K a (addE _ _ _) ++ [] = _
          rw [List.append_nil, edgG_succ, if_pos h]
        · have h : netAt net i j = false := h
          refine S_nil (S_nil ⟨_, rfl, ?_⟩)
          rw [edgG_succ, if_neg (by rw [h]; decide)]
      · rintro env' L' ⟨o2, rfl, rfl⟩
        rw [rng_len, Int.toNat_natCast]
        refine S_nil ⟨_, _, rfl, ?_⟩
        unfold allG
        rw [foldl_range]
    · rintro env' L' ⟨o, o2, rfl, rfl⟩
      rw [rng_len, Int.toNat_natCast]
      exact S_ret (E_var 3) ⟨a, rfl, rfl⟩
end

/-! ### the law's kinds, walked -/
theorem kindsL_take {ls net} {cs : List Str} {i : Nat} {c : Str} (h : cs[i]? = some c) : kindsL ls net (cs.take (i + 1)) = roundL net ls.length (kindsL ls net (cs.take i)) c := by
  unfold kindsL
  rw [List.take_add_one, h, List.foldl_append]; rfl
theorem rng0_eq (n : Nat) : rng 0 n = (List.range n).map fun (i : Nat) => (i : Int) := by
  unfold rng
  exact List.map_congr_left fun i _ => by omega
theorem picks_rng {α : Type} (f : Nat → α) (q : Nat → Bool) (n : Nat) : picks (fun u : Int => f u.toNat) (fun u : Int => q u.toNat) (rng 0 n) = ((List.range n).filter q).map f := by
  unfold picks
  rw [rng0_eq, List.filter_map, List.map_map]
  rfl
def spLawKinds (K : PySem.W.Frag) : Sp := spF (γ := List Str × List (List Bool) × Str) K (fun g => [⟨g.1⟩, ⟨g.2.1⟩, ⟨g.2.2⟩]) (fun g => ∃ ns, Drawn ns g.1 g.2.1) (fun g => ⟨kindsL g.1 g.2.1 (signs g.2.2)⟩)
section
variable {P : Program} {w : World} {K : PySem.W.Frag} {mg : Str → Option Value} {base : Heap} {f : Addr} {fd : FuncData}
theorem ok_law_kinds (Fn : FnP K "_law_kinds" "_law_kinds" d__law_kinds f fd) (hr : mg "range" = none) (hl : mg "len" = none) : FnOk P w K mg base (L2.CX P w) 2 f fd ["_law_labels", "_law_net", "_law_text"] (spLawKinds K) := by
  refine fn_spM Fn sc__law_kinds (fun _ => rfl) ?_
  rintro ⟨ls, net, text⟩ ⟨ns, d⟩ cdv A outer s H E R C ok
  have d : Drawn ns ls net := d
  have few := d.few
  have dl := d.len
  have e9 := sizeLine_eq
  show S _ [some ⟨ls⟩, some ⟨net⟩, some ⟨text⟩, none, none, none, none, none, none, none, none, none] _ _ _
  refine S_set 3 ok.nd (E_lc [("_law_x", 9)] (fun x : Str => (ixIn ls x : Int)) (fun _ => true) ok (EI_list (E_var 0)) ?_) ?_
  · intro i x hx
    refine ⟨_, _, ?_, fun R s H C0 cl fp okb => ⟨G_name 9 okb.nd, Ts_nil, fun _ => E_indexD okb (E_var 0) (E_var 9) (ixIn_at (List.mem_of_getElem? hx)) (fun m hm => ixIn_first hm)⟩⟩
    intro x hx
    exact hx
  rw [picks_all]
  refine S_for ok (fun i env L => ∃ o4 o5 o6 o7 o8 : Option Ent, env = [some ⟨ls⟩, some ⟨net⟩, some ⟨text⟩, some ⟨kindsL ls net ((signs text).take i)⟩, o4, o5, o6, o7, o8, none, none, none] ∧ L = []) (EI_str (E_var 2)) ⟨none, none, none, none, none, rfl, rfl⟩ ?_ ?_
  · rintro i c env' L' hi ⟨o4, o5, o6, o7, o8, rfl, rfl⟩
    refine ⟨_, _, G_name 4 ok.nd, ?_⟩
    have hkl := kindsL_len (ls := ls) (net := net) ((signs text).take i)
    have hK := kindsL_take (ls := ls) (net := net) hi
    generalize kindsL ls net ((signs text).take i) = ks at hkl hK
    have hks : ∀ {u : Nat}, u < ls.length → atI ks (u : Int) = some (kAt ks u) := fun hu => atI_nat' (by omega) (by rw [Int.toNat_natCast]; unfold kAt; rw [List.getD_eq_getElem?_getD, List.getElem?_eq_getElem (by rw [hkl]; exact hu)]; rfl)
    refine S_newL 5 ([] : List (H2 Int (List Int))) ok.nd A_nil (fun lm => ?_)
    refine S_for ok (fun j env L => ∃ o6 o7 o8 : Option Ent, env = [some ⟨ls⟩, some ⟨net⟩, some ⟨text⟩, some ⟨ks⟩, some ⟨c⟩, some ⟨(At.mk lm)⟩, o6, o7, o8, none, none, none] ∧ L = [Cell.lst lm ((List.range j).map (markL net ls.length ks c))]) (EI_rng1 (E_biR calR_len (E_var 0).imm hl) hr (by omega)) ⟨o6, o7, o8, rfl, rfl⟩ ?_ ?_
    · rintro j x env' L' hx ⟨o6, o7, o8, rfl, rfl⟩
      obtain ⟨hj, rfl⟩ := rng0_of hx
      rw [Int.toNat_natCast] at hj
      refine ⟨_, _, G_name 6 ok.nd, ?_⟩
      have rowA : ∀ {u v : Nat}, u < ls.length → v < ls.length → atI net (u : Int) = some (net[u]?.getD []) ∧ atI (net[u]?.getD []) (v : Int) = some (netAt net u v) := by
        intro u v hu hv
        obtain ⟨r1, r2⟩ := netAt_row d (u := u) (v := v) (by omega) (by omega)
        exact ⟨atI_nat' (by omega) (by rw [Int.toNat_natCast]; exact r1), atI_nat' (by omega) (by rw [Int.toNat_natCast]; exact r2)⟩
      refine S_set 7 ok.nd (E_lc [("_law_u", 10)] (fun u : Int => if decide (c = "U") then netAt net u.toNat j else netAt net j u.toNat) (fun _ => true) ok (EI_rng1 (E_biR calR_len (E_var 0).imm hl) hr (by omega)) ?_) ?_
      · intro i2 u hu
        obtain ⟨hu2, rfl⟩ := rng0_of hu
        rw [Int.toNat_natCast] at hu2
        refine ⟨_, _, ?_, fun R s H C0 cl fp okb => ⟨G_name 10 okb.nd, Ts_nil, fun _ => E_ife (T_cmp (E_var 4) E_str cmp_eqS (nomark _)) (fun _ => E_ix (E_ix (E_var 1).imm (E_var 10) (rowA hu2 hj).1).imm (E_var 6) (rowA hu2 hj).2) (fun _ => E_ix (E_ix (E_var 1).imm (E_var 6) (rowA hj hu2).1).imm (E_var 10) (rowA hj hu2).2)⟩⟩
        intro x hx
        exact hx
      have e7 : picks (fun u : Int => if decide (c = "U") then netAt net u.toNat j else netAt net j u.toNat) (fun _ => true) (rng 0 ((ls.length : Int)).toNat) = (List.range ls.length).map (nearL net c j) := by
        have h := picks_rng (fun u : Nat => if decide (c = "U") then netAt net u j else netAt net j u) (fun _ => true) ls.length
        rw [Int.toNat_natCast]
        refine h.trans ?_
        rw [List.filter_eq_self.mpr fun _ _ => rfl]
        refine List.map_congr_left fun u _ => ?_
        unfold nearL
        by_cases q : c = "U"
        · rw [if_pos (decide_eq_true q), if_pos q]
        · rw [if_neg (by rw [decide_eq_false q]; decide), if_neg q]
      rw [e7]
      refine S_set 8 ok.nd (E_lc [("_law_u", 10)] (fun u : Int => kAt ks u.toNat) (fun u : Int => nearL net c j u.toNat) ok (EI_rng1 (E_biR calR_len (E_var 0).imm hl) hr (by omega)) ?_) ?_
      · intro i2 u hu
        obtain ⟨hu2, rfl⟩ := rng0_of hu
        rw [Int.toNat_natCast] at hu2
        refine ⟨_, _, ?_, fun R s H C0 cl fp okb => ⟨G_name 10 okb.nd, Ts_one (T_val (E_ix (E_var 7).imm (E_var 10) (atI_nat' (by omega) ?_))), fun _ => E_ix (E_var 3).imm (E_var 10) (hks hu2)⟩⟩
        · intro x hx
          exact hx
        · rw [Int.toNat_natCast, List.getElem?_map, List.getElem?_range hu2]; rfl
      have e8 : picks (fun u : Int => kAt ks u.toNat) (fun u : Int => nearL net c j u.toNat) (rng 0 ((ls.length : Int)).toNat) = metL net ls.length ks c j := by
        rw [Int.toNat_natCast]
        exact picks_rng (kAt ks) (nearL net c j) ls.length
      rw [e8]
      refine S_app 0 (E_var 5) (E_h2 (A_cons (E_ix (E_var 3).imm (E_var 6) (hks hj)) (A_cons (E_lc [("_law_k", 11)] (fun k : Int => k) (fun k : Int => decide (k ∈ metL net ls.length ks c j)) ok (EI_rng1 (E_biR calR_len (E_var 0).imm hl) hr (by omega)) ?_) A_nil))) rfl (by rw [List.length_map, List.length_range]; omega) ?_
      · intro i2 u hu
        refine ⟨_, _, ?_, fun R s H C0 cl fp okb => ⟨G_name 11 okb.nd, Ts_one (T_inL (E_var 11) (E_var 8).imm), fun _ => E_var 11⟩⟩
        intro x hx
        exact hx
      · refine S_nil ⟨_, _, _, rfl, ?_⟩
        have e : picks (fun k : Int => k) (fun k : Int => decide (k ∈ metL net ls.length ks c j)) (rng 0 ((ls.length : Int)).toNat) = setL ls.length (metL net ls.length ks c j) := by
          rw [Int.toNat_natCast]
          unfold picks setL
          rw [rng0_eq]
          simp
        rw [map_range_succ, e]
        rfl
    · rintro env' L' ⟨o6, o7, o8, rfl, rfl⟩
      rw [rng_len, Int.toNat_natCast]
      refine S_frz 5 0 rfl rfl ?_
      refine S_set 3 ok.nd (E_lc [("_law_x", 9)] (fun x : H2 Int (List Int) => (ixIn ((List.range ls.length).map (markL net ls.length ks c)) x : Int)) (fun _ => true) ok (EI_list (E_var 5)) ?_) ?_
      · intro i x hx
        refine ⟨_, _, ?_, fun R s H C0 cl fp okb => ⟨G_name 9 okb.nd, Ts_nil, fun _ => E_indexD okb (E_var 5) (E_var 9) (ixIn_at (List.mem_of_getElem? hx)) (fun m hm => ixIn_first hm)⟩⟩
        intro x hx
        exact hx
      rw [picks_all]
      refine S_nil ⟨some ⟨c⟩, some ⟨(List.range ls.length).map (markL net ls.length ks c)⟩, o6, o7, o8, ?_, rfl⟩
      rw [hK]
      rfl
  · rintro env' L' ⟨o4, o5, o6, o7, o8, rfl, rfl⟩
    rw [List.take_length]
    exact S_ret (E_var 3) ⟨rfl, rfl⟩
end

/-! ### the law's groups -/
theorem picks_id {α : Type} (as : List α) : picks (fun x : α => x) (fun _ => true) as = as := by rw [picks_all]; exact List.map_id' as
def spGroups (K : PySem.W.Frag) : Sp := spF (γ := List Int × List Str × List (List Bool) × List Int) K (fun g => [⟨(H3.mk g.1 g.2.1 g.2.2.1)⟩, ⟨g.2.2.2⟩]) (fun g => g.2.2.2.length = g.1.length ∧ g.1.length ≤ 60) (fun g => ⟨grp (fun x => kAt g.2.2.2 (ixIn g.1 x)) (sortI g.1)⟩)
section
variable {P : Program} {w : World} {K : PySem.W.Frag} {mg : Str → Option Value} {base : Heap} {f : Addr} {fd : FuncData}
theorem ok_law_groups (Fn : FnP K "_law_groups" "_law_groups" d__law_groups f fd) (hs : mg "sorted" = none) (hi : mg "int" = none) : FnOk P w K mg base (L2.CX P w) 2 f fd ["_law_drawn", "_law_kinds_here"] (spGroups K) := by
  refine fn_spM Fn sc__law_groups (fun _ => rfl) ?_
  rintro ⟨ns, ls, net, ks⟩ ⟨hkl, few⟩ cdv A outer s H E R C ok
  have hkl : ks.length = ns.length := hkl
  have few : ns.length ≤ 60 := few
  have e9 := sizeLine_eq
  have hsl : (sortI ns).length = ns.length := (sortI_perm ns).length_eq
  show S _ [some ⟨(H3.mk ns ls net)⟩, some ⟨ks⟩, none, none, none, none, none] _ _ _
  refine S_newL 2 ([] : List Int) ok.nd A_nil (fun lm => ?_)
  refine S_newL 3 ([] : List At) ok.nd A_nil (fun lg => ?_)
  have hp : sortI (picks (fun x : Int => x) (fun _ => true) ns) = sortI ns := by rw [picks_id]
  refine S_for ok (fun i env L => ∃ (ags : List (Addr × List Int)) (o4 o5 : Option Ent), env = [some ⟨(H3.mk ns ls net)⟩, some ⟨ks⟩, some ⟨(At.mk lm)⟩, some ⟨(At.mk lg)⟩, o4, o5, none] ∧ ags.map (·.2) = grp (fun x => kAt ks (ixIn ns x)) ((sortI ns).take i) ∧ L = Cell.lst lg (ags.map fun p => At.mk p.1) :: Cell.lst lm (ags.map fun p => kAt ks (ixIn ns (hdI p.2))) :: agC ags)
    (EI_list (E_biR calR_sortedI (E_lc [("_law_n", 6)] (fun n : Int => n) (fun _ => true) ok (EI_list (E_h3a (E_var 0) E_int)) ?_ (blkOk_by (by rfl))).imm hs)) ⟨[], none, none, rfl, rfl, rfl⟩ ?_ ?_
  · intro i a ha
    refine ⟨_, _, ?_, fun R s H C0 cl fp okb => ⟨G_name 6 okb.nd, Ts_nil, fun _ => E_bi cal_intI (A_cons (E_var 6) A_nil) hi⟩⟩
    intro x hx
    exact hx
  · rintro i x env' L' hi2 ⟨ags, o4, o5, rfl, hag, rfl⟩
    have hi2 : (sortI ns)[i]? = some x := hp ▸ hi2
    refine ⟨_, _, G_name 4 ok.nd, ?_⟩
    have hlt : i < (sortI ns).length := (List.getElem?_eq_some_iff.mp hi2).1
    have hx : x ∈ ns := (sortI_perm ns).mem_iff.mp (List.mem_of_getElem? hi2)
    have gi := grpI (fun x => kAt ks (ixIn ns x)) (sortI ns) i (by omega)
    rw [← hag] at gi
    have fw := gi.few
    rw [List.length_map] at fw
    have hnx := grp_take (f := fun x => kAt ks (ixIn ns x)) hi2
    rw [← hag] at hnx
    have hix := ixIn_lt hx
    have hat : atI ks (ixIn ns x : Int) = some (kAt ks (ixIn ns x)) := atI_nat' (by omega) (by rw [Int.toNat_natCast]; unfold kAt; rw [List.getD_eq_getElem?_getD, List.getElem?_eq_getElem (by omega)]; rfl)
    refine S_set 5 ok.nd (E_ix (E_var 1).imm (E_indexD (α := Int) ok (E_h3a (E_var 0) E_int) (E_var 4) (ixIn_at hx) (fun m hm => ixIn_first hm)) hat) ?_
    refine S_if (T_inL (E_var 5) (Py.E.own (E_var 2) (List.mem_cons_of_mem _ List.mem_cons_self))) (fun h => ?_) (fun h => ?_)
    · have h : decide (kAt ks (ixIn ns x) ∈ ags.map fun p => kAt ks (ixIn ns (hdI p.2))) = true := h
      have h := of_decide_eq_true h
      cases q : (ags.map (·.2)).findIdx? (fun v => decide (kAt ks (ixIn ns (hdI v)) = kAt ks (ixIn ns x))) with
      | none =>
        obtain ⟨p, hp1, hp2⟩ := List.mem_map.mp h
        have := List.findIdx?_eq_none_iff.mp q p.2 (List.mem_map.mpr ⟨p, hp1, rfl⟩)
        exact absurd hp2 (of_decide_eq_false this)
      | some j =>
        obtain ⟨hj, hj2, hj3⟩ := List.findIdx?_eq_some_iff_getElem.mp q
        have hj2 := of_decide_eq_true hj2
        rw [List.getElem_map] at hj2
        have hjl : j < ags.length := by rw [List.length_map] at hj; exact hj
        have z : ags[j]? = some ags[j] := List.getElem?_eq_getElem hjl
        generalize ags[j] = p at hj2 z
        have hv : p.2 ∈ ags.map (·.2) := List.mem_map.mpr ⟨p, List.mem_of_getElem? z, rfl⟩
        have hlen := gi.len p.2 hv
        have hja : (agC ags)[j]? = some (Cell.lst p.1 p.2) := by unfold agC; rw [List.getElem?_map, z]; rfl
        refine S_app (as := p.2) (j + 2) (E_ix (as := ags.map fun p => At.mk p.1) (v := At.mk p.1) (Py.E.own (E_var 3) List.mem_cons_self) (E_index (jx := j) (Py.E.own (E_var 2) (List.mem_cons_of_mem _ List.mem_cons_self)) (E_var 5) ?_ ?_) (atI_nat' (by omega) ?_)) (E_var 4) hja (by omega) ?_
        · rw [List.getElem?_map, z]
          exact congrArg some hj2
        · intro m hm e
          have := hj3 m hm
          rw [List.getElem?_map] at e
          cases z2 : ags[m]? with
          | none => rw [z2] at e; cases e
          | some p2 =>
            rw [z2] at e
            have e : some (kAt ks (ixIn ns (hdI p2.2))) = some (kAt ks (ixIn ns x)) := e
            refine absurd (Option.some.inj e) ?_
            have hm2 : m < ags.length := (List.getElem?_eq_some_iff.mp z2).1
            have z3 : ags[m] = p2 := (List.getElem?_eq_some_iff.mp z2).2
            simp only [List.getElem_map, z3] at this
            simpa using this
        · rw [Int.toNat_natCast, List.getElem?_map, z]; rfl
        · refine S_nil (S_nil ⟨ags.set j (p.1, p.2 ++ [x]), _, _, rfl, ?_, ?_⟩)
          · rw [hnx, addG_at q, List.map_set]
            refine List.ext_getElem? fun m => ?_
            rw [List.getElem?_modify, List.getElem?_set]
            by_cases hm : j = m
            · subst hm
              rw [if_pos rfl, List.length_map, if_pos hjl, List.getElem?_map, z]
              simp
            · rw [if_neg hm]
              simp [hm]
          · have key : ∀ {β : Type 0} (F : Addr × List Int → β), F (p.1, p.2 ++ [x]) = F p → (ags.set j (p.1, p.2 ++ [x])).map F = ags.map F := by
              intro β F hF
              rw [List.map_set]
              refine List.ext_getElem? fun m => ?_
              rw [List.getElem?_set]
              by_cases hm : j = m
              · subst hm
                rw [if_pos rfl, List.length_map, if_pos hjl, List.getElem?_map, z, hF]; rfl
              · rw [if_neg hm]
            have e2 : agC (ags.set j (p.1, p.2 ++ [x])) = (agC ags).set j (Cell.lst p.1 (p.2 ++ [x])) := by
              unfold agC
              rw [List.map_set]
            rw [key (fun p => At.mk p.1) rfl, key (fun p => kAt ks (ixIn ns (hdI p.2))) (by show kAt ks (ixIn ns (hdI (p.2 ++ [x]))) = _; rw [hdI_app (gi.mem _ hv).1]), e2]
            rfl
    · have h : decide (kAt ks (ixIn ns x) ∈ ags.map fun p => kAt ks (ixIn ns (hdI p.2))) = false := h
      have h := of_decide_eq_false h
      have q : (ags.map (·.2)).findIdx? (fun v => decide (kAt ks (ixIn ns (hdI v)) = kAt ks (ixIn ns x))) = none := by
        rw [List.findIdx?_eq_none_iff]
        intro v hv
        obtain ⟨p, hp1, rfl⟩ := List.mem_map.mp hv
        exact decide_eq_false fun e => h (List.mem_map.mpr ⟨p, hp1, e⟩)
      refine S_app 1 (E_var 2) (E_var 5) rfl (by rw [List.length_map]; omega) ?_
      refine S_appNew (ys := [x]) 0 (E_var 3) (A_cons (E_var 4) A_nil) rfl (by rw [List.length_map]; omega) (by show 1 ≤ sizeLine; omega) (fun l => ?_)
      refine S_perm (L' := Cell.lst lg ((ags ++ [(l, [x])]).map fun p => At.mk p.1) :: Cell.lst lm ((ags ++ [(l, [x])]).map fun p => kAt ks (ixIn ns (hdI p.2))) :: agC (ags ++ [(l, [x])])) (S_nil (S_nil ⟨ags ++ [(l, [x])], _, _, rfl, ?_, rfl⟩)) ?_
      · rw [hnx, addG_new q, List.map_append]; rfl
      · have e2 : agC (ags ++ [(l, [x])]) = agC ags ++ [Cell.lst l [x]] := by unfold agC; rw [List.map_append]; rfl
        rw [e2, List.map_append, List.map_append]
        show List.Perm _ (Cell.lst l [x] :: Cell.lst lg (ags.map (fun p => At.mk p.1) ++ [At.mk l]) :: Cell.lst lm (ags.map (fun p => kAt ks (ixIn ns (hdI p.2))) ++ [kAt ks (ixIn ns x)]) :: agC ags)
        exact List.perm_append_comm (l₁ := Cell.lst lg (ags.map (fun p => At.mk p.1) ++ [At.mk l]) :: Cell.lst lm (ags.map (fun p => kAt ks (ixIn ns (hdI p.2))) ++ [kAt ks (ixIn ns x)]) :: agC ags) (l₂ := [Cell.lst l [x]])
  · rintro env' L' ⟨ags, o4, o5, rfl, hag, rfl⟩
    have hag : ags.map (·.2) = grp (fun x => kAt ks (ixIn ns x)) ((sortI ns).take (sortI (picks (fun x : Int => x) (fun _ => true) ns)).length) := hag
    rw [hp, List.take_length] at hag
    refine S_frzAll 3 (Cell.lst lg (ags.map fun p => At.mk p.1) :: agC ags) (r1 := ⟨(ags.map (·.2))⟩) (L' := [Cell.lst lm (ags.map fun p => kAt ks (ixIn ns (hdI p.2)))]) rfl ?_ (frzTo_lsts ags) (S_retD (E_var 3) ⟨?_, rfl⟩)
    · refine List.Perm.cons _ ?_
      exact List.perm_append_comm (l₁ := agC ags) (l₂ := [Cell.lst lm (ags.map fun p => kAt ks (ixIn ns (hdI p.2)))])
    · show (⟨(ags.map (·.2))⟩ : Ent) = ⟨grp (fun x => kAt ks (ixIn ns x)) (sortI ns)⟩
      rw [hag]
end

/-! ### the law's own words -/
def lett (i : Int) : Str := if i = 0 then "U" else "D"
def wordL (row : List Int) : Nat → Str
  | 0 => ""
  | k + 1 => wordL row k ++ lett (cellF row (1 + k) % 2)
def wordF (c : Int) (m : Nat) : Str := wordL (rowF c (1 + m)) (cellF (rowF c (1 + m)) 0 % ((m : Int) + 1)).toNat
theorem lett_okW (i : Int) : okW (lett i) = true ∧ (lett i).length = 1 := by
  unfold lett
  split <;> exact ⟨by decide +kernel, by decide +kernel⟩
theorem wordL_ok (row : List Int) : ∀ k, okW (wordL row k) = true ∧ (wordL row k).length = k
  | 0 => ⟨show okW "" = true by decide +kernel, rfl⟩
  | k + 1 => by
    obtain ⟨h1, h2⟩ := wordL_ok row k
    obtain ⟨h3, h4⟩ := lett_okW (cellF row (1 + k) % 2)
    exact ⟨okW_append h1 h3, by unfold wordL; rw [str_len_append, h2, h4]⟩
theorem wordF_ok (c : Int) (m : Nat) : okW (wordF c m) = true ∧ (wordF c m).length ≤ m := by
  obtain ⟨h1, h2⟩ := wordL_ok (rowF c (1 + m)) (cellF (rowF c (1 + m)) 0 % ((m : Int) + 1)).toNat
  refine ⟨h1, ?_⟩
  unfold wordF
  rw [h2]
  have := Int.emod_lt_of_pos (cellF (rowF c (1 + m)) 0) (show (0 : Int) < (m : Int) + 1 by omega)
  omega
theorem ud_at {i : Int} : atI ("UD" : Str).cps.toList (i % 2) = some (if i % 2 = 0 then 85 else 68) := by
  have h1 : 0 ≤ i % 2 := Int.emod_nonneg _ (by decide)
  have h2 : i % 2 < 2 := Int.emod_lt_of_pos _ (by decide)
  rcases (show i % 2 = 0 ∨ i % 2 = 1 by omega) with h | h <;> rw [h] <;> decide +kernel
theorem lett_eq (i : Int) : lett i = ⟨#[if i = 0 then 85 else 68]⟩ := by
  unfold lett
  split <;> decide +kernel
def spLawWord (K : PySem.W.Frag) : Sp := spF (γ := Int × Nat) K (fun g => [⟨g.1⟩, ⟨(g.2 : Int)⟩]) (fun g => g.2 ≤ 900) (fun g => ⟨wordF g.1 g.2⟩)
def spStands (K : PySem.W.Frag) : Sp := spF (γ := Str × Str) K (fun g => [⟨g.1⟩, ⟨g.2⟩]) (fun _ => True) (fun g => ⟨stands g.1 g.2⟩)
section
variable {P : Program} {w : World} {K : PySem.W.Frag} {mg : Str → Option Value} {base : Heap} {f : Addr} {fd : FuncData}
theorem ok_law_word (Fn : FnP K "_law_word" "_law_word" d__law_word f fd) (hr : mg "range" = none) (hi : mg "int" = none) (Ro : Hs P w K mg base 2 "_law_row" (spRow K)) : FnOk P w K mg base (L2.CX P w) 4 f fd ["_law_cell_here", "_law_most"] (spLawWord K) := by
  refine fn_spM Fn sc__law_word (fun _ => rfl) ?_
  rintro ⟨c, m⟩ hm cdv A outer s H E R C ok
  have hm : m ≤ 900 := hm
  show S _ [some ⟨c⟩, some ⟨(m : Int)⟩, none, none, none] _ _ _
  refine S_set 2 ok.nd (E_call (c, 1 + m) ok Ro (A_cons (E_var 0) (A_cons (E_bin E_int (E_var 1) bin_addI) A_nil)) (by show 1 + m ≤ 1000; omega)) ?_
  have hl := rowF_len c (1 + m)
  have hq := Int.emod_lt_of_pos (cellF (rowF c (1 + m)) 0) (show (0 : Int) < (m : Int) + 1 by omega)
  have hq0 := Int.emod_nonneg (cellF (rowF c (1 + m)) 0) (show ((m : Int) + 1) ≠ 0 by omega)
  refine S_set 3 ok.nd E_str ?_
  refine S_for ok (fun i env L => ∃ o : Option Ent, env = [some ⟨c⟩, some ⟨(m : Int)⟩, some ⟨rowF c (1 + m)⟩, some ⟨wordL (rowF c (1 + m)) i⟩, o] ∧ L = [])
    (EI_rng1 (E_bin (E_bi cal_intI (A_cons (E_ix (E_var 2).imm E_int (at_row (by decide) (by show (0 : Int) < _; rw [hl]; omega))) A_nil) hi) (E_bin (E_var 1) E_int bin_addI) (bin_modI (by omega))) hr (by show cellF (rowF c (1 + m)) 0 % ((m : Int) + 1) ≤ 16777216; omega) (by show -(2 ^ 62) ≤ cellF (rowF c (1 + m)) 0 % ((m : Int) + 1); omega)) ⟨none, rfl, rfl⟩ ?_ ?_
  · rintro i a env' L' ha ⟨o, rfl, rfl⟩
    obtain ⟨hi', rfl⟩ := rng0_of ha
    have hi' : i < (cellF (rowF c (1 + m)) 0 % ((m : Int) + 1)).toNat := hi'
    refine ⟨_, _, G_name 4 ok.nd, ?_⟩
    refine S_set 3 ok.nd (E_bin (E_var 3) (E_ixS (z := "UD") E_str (E_bin (E_bi cal_intI (A_cons (E_ix (E_var 2).imm (E_bin E_int (E_var 4) bin_addI) (at_row (by omega) (by rw [hl]; omega))) A_nil) hi) E_int (bin_modI (by decide))) ud_at) (bin_addS ?_)) (S_nil ⟨some ⟨(i : Int)⟩, ?_, rfl⟩)
    · have h1 := (wordL_ok (rowF c (1 + m)) i).2
      show (wordL (rowF c (1 + m)) i).length + 1 ≤ _
      rw [h1, sizeLine_eq]; omega
    · have e : (1 + (i : Int)).toNat = 1 + i := by omega
      rw [show wordL (rowF c (1 + m)) (i + 1) = wordL (rowF c (1 + m)) i ++ lett (cellF (rowF c (1 + m)) (1 + i) % 2) from rfl, lett_eq, ← e]
      rfl
  · rintro env' L' ⟨o, rfl, rfl⟩
    rw [rng_len]
    exact S_ret (E_var 3) ⟨rfl, rfl⟩
end

/-! ### longer words divide finer -/
theorem roundL_iff {ns ls net} (d : Drawn ns ls net) {kl : List Int} (hb : ∀ i : Nat, i < ns.length → 0 ≤ kAt kl i ∧ kAt kl i < (ns.length : Int)) (c : Str) {i j : Nat} (hi : i < ns.length) (hj : j < ns.length) :
    kAt (roundL net ls.length kl c) i = kAt (roundL net ls.length kl c) j ↔ kAt kl i = kAt kl j ∧ (∀ u : Nat, u < ns.length → nearL net c i u = true → ∃ v : Nat, v < ns.length ∧ nearL net c j v = true ∧ kAt kl v = kAt kl u) ∧ (∀ u : Nat, u < ns.length → nearL net c j u = true → ∃ v : Nat, v < ns.length ∧ nearL net c i v = true ∧ kAt kl v = kAt kl u) := by
  have hmk : ∀ {i : Nat}, i < ns.length → ((List.range ls.length).map (markL net ls.length kl c))[i]? = some (markL net ls.length kl c i) := by
    intro i hi
    rw [List.getElem?_map, List.getElem?_range (by rw [d.len]; exact hi)]; rfl
  have hmet : ∀ i, ∀ z ∈ metL net ls.length kl c i, 0 ≤ z ∧ z < (ls.length : Int) := by
    intro i z hz
    unfold metL at hz
    obtain ⟨u, hu, rfl⟩ := List.mem_map.mp hz
    have := List.mem_range.mp (List.mem_filter.mp hu).1
    rw [d.len] at this ⊢
    exact hb u this
  unfold roundL
  rw [firsts_at (hmk hi), firsts_at (hmk hj)]
  have e2 := ixIn_inj (List.mem_of_getElem? (hmk hi)) (List.mem_of_getElem? (hmk hj))
  have e3 : ((ixIn ((List.range ls.length).map (markL net ls.length kl c)) (markL net ls.length kl c i) : Int) = (ixIn ((List.range ls.length).map (markL net ls.length kl c)) (markL net ls.length kl c j) : Int)) ↔ markL net ls.length kl c i = markL net ls.length kl c j := by
    rw [← e2]; omega
  rw [e3]
  unfold markL
  rw [H2.mk.injEq, setL_eq (hmet i) (hmet j)]
  refine and_congr_right fun _ => ?_
  have mm : ∀ i z, z ∈ metL net ls.length kl c i ↔ ∃ u : Nat, u < ns.length ∧ nearL net c i u = true ∧ kAt kl u = z := by
    intro i z
    unfold metL
    rw [List.mem_map]
    constructor
    · rintro ⟨u, hu, e⟩
      obtain ⟨h1, h2⟩ := List.mem_filter.mp hu
      exact ⟨u, by rw [← d.len]; exact List.mem_range.mp h1, h2, e⟩
    · rintro ⟨u, h1, h2, e⟩
      exact ⟨u, List.mem_filter.mpr ⟨List.mem_range.mpr (by rw [d.len]; exact h1), h2⟩, e⟩
  constructor
  · intro z
    refine ⟨fun u hu hn => ?_, fun u hu hn => ?_⟩
    · obtain ⟨v, h1, h2, h3⟩ := (mm j _).mp ((z (kAt kl u)).mp ((mm i _).mpr ⟨u, hu, hn, rfl⟩))
      exact ⟨v, h1, h2, h3⟩
    · obtain ⟨v, h1, h2, h3⟩ := (mm i _).mp ((z (kAt kl u)).mpr ((mm j _).mpr ⟨u, hu, hn, rfl⟩))
      exact ⟨v, h1, h2, h3⟩
  · rintro ⟨z1, z2⟩ z
    constructor
    · intro h
      obtain ⟨u, h1, h2, rfl⟩ := (mm i z).mp h
      obtain ⟨v, h3, h4, h5⟩ := z1 u h1 h2
      exact (mm j _).mpr ⟨v, h3, h4, h5⟩
    · intro h
      obtain ⟨u, h1, h2, rfl⟩ := (mm j z).mp h
      obtain ⟨v, h3, h4, h5⟩ := z2 u h1 h2
      exact (mm i _).mpr ⟨v, h3, h4, h5⟩
theorem kindsL_snoc {ls net} (cs : List Str) (c : Str) : kindsL ls net (cs ++ [c]) = roundL net ls.length (kindsL ls net cs) c := by
  unfold kindsL
  rw [List.foldl_append]; rfl
theorem kindsL_rg {ns ls net} (d : Drawn ns ls net) (cs : List Str) : ∀ i : Nat, i < ns.length → 0 ≤ kAt (kindsL ls net cs) i ∧ kAt (kindsL ls net cs) i < (ns.length : Int) := by
  have h := (kinds_iff d (made_fit d) cs cs.length (Nat.le_refl _)).2
  rwa [List.take_length] at h
theorem sub_snoc {α : Type} {as bs : List α} {b : α} (h : as.Sublist (bs ++ [b])) : as.Sublist bs ∨ ∃ as', as = as' ++ [b] ∧ as'.Sublist bs := by
  obtain ⟨l1, l2, e, h1, h2⟩ := List.sublist_append_iff.mp h
  cases h2 with
  | cons _ h2 =>
    rw [List.sublist_nil.mp h2, List.append_nil] at e
    exact Or.inl (e ▸ h1)
  | cons_cons _ h2 =>
    rw [List.sublist_nil.mp h2] at e
    exact Or.inr ⟨l1, e, h1⟩
theorem kinds_finer {ns ls net} (d : Drawn ns ls net) : ∀ (n : Nat) (cs ss : List Str), cs.length = n → ss.Sublist cs → ∀ i j : Nat, i < ns.length → j < ns.length → kAt (kindsL ls net cs) i = kAt (kindsL ls net cs) j → kAt (kindsL ls net ss) i = kAt (kindsL ls net ss) j
  | 0, cs, ss, hn, hs, i, j, _, _, h => by
    have e := List.eq_nil_of_length_eq_zero hn
    subst e
    rw [List.sublist_nil.mp hs]
    exact h
  | n + 1, cs, ss, hn, hs, i, j, hi, hj, h => by
    obtain ⟨l, c, rfl⟩ : ∃ l c, cs = l ++ [c] := by
      rcases List.eq_nil_or_concat cs with e | ⟨l, c, e⟩
      · rw [e] at hn; simp at hn
      · exact ⟨l, c, by rw [e, List.concat_eq_append]⟩
    have hl : l.length = n := by rw [List.length_append] at hn; simpa using hn
    rw [kindsL_snoc, roundL_iff d (kindsL_rg d l) c hi hj] at h
    obtain ⟨h1, h2, h3⟩ := h
    rcases sub_snoc hs with hs2 | ⟨s', rfl, hs2⟩
    · exact kinds_finer d n l ss hl hs2 i j hi hj h1
    · rw [kindsL_snoc, roundL_iff d (kindsL_rg d s') c hi hj]
      refine ⟨kinds_finer d n l s' hl hs2 i j hi hj h1, fun u hu hn => ?_, fun u hu hn => ?_⟩
      · obtain ⟨v, g1, g2, g3⟩ := h2 u hu hn
        exact ⟨v, g1, g2, kinds_finer d n l s' hl hs2 v u g1 hu g3⟩
      · obtain ⟨v, g1, g2, g3⟩ := h3 u hu hn
        exact ⟨v, g1, g2, kinds_finer d n l s' hl hs2 v u g1 hu g3⟩
/-! ### what groups hold -/
structure GrpM (f : Int → Int) (ns : List Int) (gs : List (List Int)) : Prop where
  same : ∀ v ∈ gs, ∀ x ∈ v, f x = f (hdI v)
  all : ∀ x ∈ ns, ∃ v ∈ gs, x ∈ v
  flat : gs.flatten.Perm ns
theorem modify_flat {n : Int} : ∀ {gs : List (List Int)} {j : Nat}, j < gs.length → (gs.modify j (· ++ [n])).flatten.Perm (gs.flatten ++ [n])
  | v :: gs, 0, _ => by
    show ((v ++ [n]) ++ gs.flatten).Perm ((v ++ gs.flatten) ++ [n])
    rw [List.append_assoc, List.append_assoc]
    exact List.Perm.append_left _ List.perm_append_comm
  | v :: gs, j + 1, h => by
    show (v ++ (gs.modify j (· ++ [n])).flatten).Perm ((v ++ gs.flatten) ++ [n])
    rw [List.append_assoc]
    exact List.Perm.append_left _ (modify_flat (by simpa using h))
theorem grpM (f : Int → Int) (ns : List Int) : ∀ i, i ≤ ns.length → GrpM f (ns.take i) (grp f (ns.take i))
  | 0, _ => by
    refine ⟨fun v hv => ?_, fun x hx => ?_, List.Perm.refl _⟩
    · cases hv
    · simp at hx
  | i + 1, hi => by
    have hlt : i < ns.length := hi
    have ih := grpM f ns i (by omega)
    have gi := grpI f ns i (by omega)
    have htk : ns.take (i + 1) = ns.take i ++ [ns[i]] := by rw [List.take_add_one, List.getElem?_eq_getElem hlt]; rfl
    rw [grp_take (List.getElem?_eq_getElem hlt), htk]
    generalize grp f (ns.take i) = gs at ih gi
    generalize ns[i] = n
    cases q : gs.findIdx? (fun v => decide (f (hdI v) = f n)) with
    | some j =>
      rw [addG_at q]
      obtain ⟨hj, hj2, _⟩ := List.findIdx?_eq_some_iff_getElem.mp q
      have hj2 := of_decide_eq_true hj2
      have key : ∀ v ∈ gs.modify j (· ++ [n]), (v ∈ gs) ∨ v = gs[j] ++ [n] := by
        intro v hv
        obtain ⟨m, hm⟩ := List.mem_iff_getElem?.mp hv
        rw [List.getElem?_modify] at hm
        cases z : gs[m]? with
        | none => rw [z] at hm; cases hm
        | some w =>
          rw [z] at hm
          have hm : some (if j = m then w ++ [n] else w) = some v := hm
          cases hm
          split
          · rename_i e
            subst e
            rw [List.getElem?_eq_getElem hj] at z
            cases z
            exact Or.inr rfl
          · exact Or.inl (List.mem_of_getElem? z)
      have hne := (gi.mem _ (List.getElem_mem hj)).1
      refine ⟨fun v hv x hx => ?_, fun x hx => ?_, ?_⟩
      · rcases key v hv with h | h
        · exact ih.same v h x hx
        · subst h
          rw [hdI_app hne]
          rcases List.mem_append.mp hx with h | h
          · exact ih.same _ (List.getElem_mem hj) x h
          · rw [List.mem_singleton.mp h]; exact hj2.symm
      · have hm : gs[j] ++ [n] ∈ gs.modify j (· ++ [n]) := by
          refine List.mem_iff_getElem?.mpr ⟨j, ?_⟩
          rw [List.getElem?_modify, List.getElem?_eq_getElem hj]
          simp
        rcases List.mem_append.mp hx with h | h
        · obtain ⟨v, h1, h2⟩ := ih.all x h
          obtain ⟨m, hm2⟩ := List.mem_iff_getElem?.mp h1
          by_cases e : j = m
          · subst e
            rw [List.getElem?_eq_getElem hj] at hm2
            cases hm2
            exact ⟨_, hm, List.mem_append_left _ h2⟩
          · refine ⟨v, List.mem_iff_getElem?.mpr ⟨m, ?_⟩, h2⟩
            rw [List.getElem?_modify, hm2]
            simp [e]
        · rw [List.mem_singleton.mp h]
          exact ⟨_, hm, by simp⟩
      · exact (modify_flat hj).trans (ih.flat.append_right _)
    | none =>
      rw [addG_new q]
      refine ⟨fun v hv x hx => ?_, fun x hx => ?_, ?_⟩
      · rcases List.mem_append.mp hv with h | h
        · exact ih.same v h x hx
        · rw [List.mem_singleton.mp h] at hx ⊢
          rw [List.mem_singleton.mp hx]; rfl
      · rcases List.mem_append.mp hx with h | h
        · obtain ⟨v, h1, h2⟩ := ih.all x h
          exact ⟨v, List.mem_append_left _ h1, h2⟩
        · rw [List.mem_singleton.mp h]
          exact ⟨[n], List.mem_append_right _ List.mem_cons_self, List.mem_cons_self⟩
      · rw [List.flatten_append]
        show (gs.flatten ++ [n]).Perm _
        exact ih.flat.append_right _
theorem grp_M (f : Int → Int) (ns : List Int) : GrpM f ns (grp f ns) ∧ GrpI f ns ns.length (grp f ns) := by
  have h1 := grpM f ns ns.length (Nat.le_refl _)
  have h2 := grpI f ns ns.length (Nat.le_refl _)
  rw [List.take_length] at h1 h2
  exact ⟨h1, h2⟩
/-- a node lies in one group alone -/
theorem grp_one {f : Int → Int} {ns : List Int} {n : Int} (hn : n ∈ ns) : ∃ v ∈ grp f ns, (grp f ns).filter (fun w => decide (n ∈ w)) = [v] ∧ ∀ x ∈ ns, f x = f n → x ∈ v := by
  obtain ⟨m, i⟩ := grp_M f ns
  obtain ⟨v, hv, hnv⟩ := m.all n hn
  have uniq : ∀ a ∈ grp f ns, ∀ b ∈ grp f ns, f (hdI a) = f (hdI b) → a = b := by
    intro a ha b hb e
    obtain ⟨x, hx⟩ := List.mem_iff_getElem?.mp ha
    obtain ⟨y, hy⟩ := List.mem_iff_getElem?.mp hb
    have hx2 : ((grp f ns).map fun v => f (hdI v))[x]? = some (f (hdI a)) := by rw [List.getElem?_map, hx]; rfl
    have hy2 : ((grp f ns).map fun v => f (hdI v))[y]? = some (f (hdI a)) := by rw [List.getElem?_map, hy, e]; rfl
    have := nodup_at i.nd hx2 hy2
    subst this
    rw [hx] at hy
    exact Option.some.inj hy
  have key : ∀ w ∈ grp f ns, (n ∈ w ↔ w = v) := by
    intro w hw
    constructor
    · intro h
      exact uniq w hw v hv ((m.same w hw n h).symm.trans (m.same v hv n hnv))
    · intro h; rw [h]; exact hnv
  refine ⟨v, hv, ?_, fun x hx e => ?_⟩
  · have e1 : (grp f ns).filter (fun w => decide (n ∈ w)) = (grp f ns).filter (fun w => decide (w = v)) := List.filter_congr fun w hw => decide_eq_decide.mpr (key w hw)
    rw [e1]
    have hnd : (grp f ns).Nodup := by
      have := i.nd
      rw [List.nodup_iff_pairwise_ne, List.pairwise_map] at this
      rw [List.nodup_iff_pairwise_ne]
      exact this.imp fun h z => h (by rw [z])
    generalize grp f ns = gs at hv hnd
    clear e1 key uniq i m
    induction gs with
    | nil => cases hv
    | cons a gs ih =>
      obtain ⟨n1, n2⟩ := List.nodup_cons.mp hnd
      rw [List.filter_cons]
      by_cases h : a = v
      · rw [if_pos (decide_eq_true h), List.filter_eq_nil_iff.mpr fun b hb z => n1 (by rw [h, ← of_decide_eq_true z]; exact hb), h]
      · rw [if_neg (by rw [decide_eq_false h]; decide)]
        exact ih ((List.mem_cons.mp hv).resolve_left fun z => h z.symm) n2
  · obtain ⟨w, hw, hxw⟩ := m.all x hx
    have := uniq w hw v hv ((m.same w hw x hxw).symm.trans (e.trans (m.same v hv n hnv)))
    rw [← this]; exact hxw
theorem grp_count {f g : Int → Int} {ns : List Int} (h : ∀ x ∈ ns, ∀ y ∈ ns, f x = f y → g x = g y) : (grp g ns).length ≤ (grp f ns).length := by
  obtain ⟨m1, i1⟩ := grp_M f ns
  obtain ⟨m2, i2⟩ := grp_M g ns
  have hh : ∀ v ∈ grp g ns, hdI v ∈ ns := fun v hv => (i2.mem v hv).2 _ (hdI_mem (i2.mem v hv).1)
  have hnd : ((grp g ns).map fun v => f (hdI v)).Nodup := by
    have := i2.nd
    rw [List.nodup_iff_pairwise_ne, List.pairwise_map] at this ⊢
    exact List.Pairwise.imp_of_mem (fun {a b} ha hb hab z => hab (h _ (hh a ha) _ (hh b hb) z)) this
  have := nodup_le (bs := (grp f ns).map fun v => f (hdI v)) hnd fun x hx => by
    obtain ⟨v, hv, rfl⟩ := List.mem_map.mp hx
    obtain ⟨w, hw, hin⟩ := m1.all _ (hh v hv)
    exact List.mem_map.mpr ⟨w, hw, (m1.same w hw _ hin).symm⟩
  rwa [List.length_map, List.length_map] at this

/-! ### blocks -/
structure Bk where
  n : Int
  l : Str
  m : List Int
def bkF (b : Bk) : Fld := [("number", ⟨b.n⟩), ("label", ⟨b.l⟩), ("rows", ⟨b.m⟩)]
instance : Rep Bk := ⟨fun K F v b => ∃ p dx vs, v = .ref p ∧ F p = some (.ins (He.ga K "Block") dx vs) ∧ Pr (FldOk K F) vs (bkF b), fun e ⟨p, dx, vs, h1, h2, h3⟩ => ⟨p, dx, vs, h1, e _ _ h2, h3.imp fun _ _ => FldOk.mono e⟩⟩
structure BlockT (K : PySem.W.Frag) (mg : Str → Option Value) : Prop where
  cl : Cls K (He.ga K "Block")
  n1 : NoAttr K (He.ga K "Block") "number"
  n2 : NoAttr K (He.ga K "Block") "label"
  n3 : NoAttr K (He.ga K "Block") "rows"
  g : mg "Block" = some (.ref (He.ga K "Block"))
  len : mg "len" = none
  list : mg "list" = none
def blockFa : List He.Fa := [.cls "Block", .noat "Block" "number", .noat "Block" "label", .noat "Block" "rows", .glo "Block", .free "len", .free "list", .mkr "Block"]
def blockB (K : PySem.W.Frag) : Bool := faB blockFa K
theorem blockT_of {K : PySem.W.Frag} {h : Heap} {mg : Str → Option Value} (X : K.In h) (G : h.Ns mainGlobals mg) (c1 : blockB K = true) : BlockT K mg ∧ Mk K (He.ga K "Block") (He.ma K (He.ga K "Block") "__init__") :=
  ⟨⟨He.cls_ok (faB_at c1 0), He.noat_ok (faB_at c1 1), He.noat_ok (faB_at c1 2), He.noat_ok (faB_at c1 3), He.glo_ok X G (faB_at c1 4), He.free_ok X G (faB_at c1 5), He.free_ok X G (faB_at c1 6)⟩, He.mkr_ok (faB_at c1 7)⟩
theorem isI_Bk {K : PySem.W.Frag} {b : Bk} : IsI K ⟨b⟩ (He.ga K "Block") := fun F v ⟨p, dx, vs, h1, h2, _⟩ => ⟨p, dx, _, h1, h2⟩
theorem bk_fld {K : PySem.W.Frag} {α : Type} [Rep α] {b : Bk} {f : Str} {y : α} (hf : (bkF b).lookup f = some ⟨y⟩) : ∀ F v, Rep.rp K F v b → ∃ p dx fs w, v = .ref p ∧ F p = some (.ins (He.ga K "Block") dx fs) ∧ fs.lookup f = some w ∧ Rep.rp K F w y := fun F v ⟨p, dx, vs, h1, h2, h3⟩ => by
  obtain ⟨w, h4, h5⟩ := fld_lookup h3 hf
  exact ⟨p, dx, vs, w, h1, h2, h4, h5⟩
def spBkInit (K : PySem.W.Frag) : Sp := spM (γ := Addr × Addr × (Int × Str × List Int)) K (fun g => [⟨(At.mk g.1)⟩, ⟨g.2.2.1⟩, ⟨g.2.2.2.1⟩, ⟨g.2.2.2.2⟩]) (fun g => [Cell.obj g.1 (He.ga K "Block") g.2.1 []]) (fun _ => True)
  (fun g r L' => r = ⟨()⟩ ∧ L' = [Cell.obj g.1 (He.ga K "Block") g.2.1 (bkF ⟨g.2.2.1, g.2.2.2.1, g.2.2.2.2⟩)]) (fun _ _ _ _ => False)
def spBkIter (K : PySem.W.Frag) : Nat → Sp := spIt (γ := Bk) K (fun b => ⟨b⟩) (fun _ => []) (fun _ => True) (fun b => b.m)
def spBkLen (K : PySem.W.Frag) : Sp := spF (γ := Bk) K (fun b => [⟨b⟩]) (fun _ => True) (fun b => ⟨(b.m.length : Int)⟩)
def spBkIn (K : PySem.W.Frag) : Sp := spB (γ := Bk × Int) K (fun g => [⟨g.1⟩, ⟨g.2⟩]) (fun _ => []) (fun _ => True) (fun g => ⟨decide (g.2 ∈ g.1.m)⟩)
section
variable {P : Program} {w : World} {K : PySem.W.Frag} {mg : Str → Option Value} {base : Heap} {f : Addr} {fd : FuncData}
theorem ok_Bk_init (Fn : FnP K "__init__" "Block.__init__" d_Block___init__ f fd) (T : BlockT K mg) : FnOk P w K mg base (L2.CX P w) 2 f fd ["self", "number", "label", "members"] (spBkInit K) := by
  refine fn_spM Fn sc_Block___init__ (fun _ => rfl) ?_
  rintro ⟨p, dx, n, l, m⟩ _ cdv A outer s H E0 R C ok
  show S _ [some ⟨(At.mk p)⟩, some ⟨n⟩, some ⟨l⟩, some ⟨m⟩] [Cell.obj p (He.ga K "Block") dx []] _ _
  refine S_fld 0 T.cl T.n1 (E_var 0) (E_var 1) rfl ?_
  refine S_fld 0 T.cl T.n2 (E_var 0) (E_var 2) rfl ?_ (by show 1 < 1000; decide)
  refine S_fld 0 T.cl T.n3 (E_var 0) (E_biR calR_list (E_var 3).imm T.list) rfl ?_ (by show 2 < 1000; decide)
  exact S_nil ⟨rfl, rfl⟩
theorem ok_Bk_iter (Fn : FnP K "__iter__" "Block.__iter__" d_Block___iter__ f fd) (T : BlockT K mg) (hi : mg "iter" = none) : FnN P w K mg base (L2.CX P w) 2 f fd ["self"] (spBkIter K) := by
  refine fn_it Fn sc_Block___iter__ rfl hi ?_
  rintro b _ cdv A outer s H E0 R C ok
  exact ⟨_, _, _, _, rfl, rfl, rfl, rfl, E_fld T.cl T.n3 (bk_fld rfl) (E_var 0)⟩
theorem ok_Bk_len (Fn : FnP K "__len__" "Block.__len__" d_Block___len__ f fd) (T : BlockT K mg) : FnOk P w K mg base (L2.CX P w) 2 f fd ["self"] (spBkLen K) := by
  refine fn_spM Fn sc_Block___len__ (fun _ => rfl) ?_
  rintro b _ cdv A outer s H E0 R C ok
  show S _ [some ⟨b⟩] _ _ _
  exact S_ret (E_biR calR_len (E_fld (y := b.m) T.cl T.n3 (bk_fld rfl) (E_var 0)).imm T.len) ⟨rfl, rfl⟩
theorem ok_Bk_in (Fn : FnP K "__contains__" "Block.__contains__" d_Block___contains__ f fd) (T : BlockT K mg) : FnOk P w K mg base (L2.CX P w) 2 f fd ["self", "node"] (spBkIn K) := by
  refine fn_spM Fn sc_Block___contains__ (fun _ => rfl) ?_
  rintro ⟨b, n⟩ _ cdv A outer s H E0 R C ok
  show S _ [some ⟨b⟩, some ⟨n⟩] _ _ _
  exact S_ret (E_inL (E_var 1) (E_fld (y := b.m) T.cl T.n3 (bk_fld rfl) (E_var 0)).imm) ⟨rfl, rfl⟩
end
theorem E_Block {C : Cz} {k : Nat} {env : Env} {L : List Cell} {e1 e2 e3 : Expr} {p pos : Pos} {n : Int} {l : Str} {m : List Int} (ok : C.Ok k) (M : Mks C.X.prog C.X.w C.X.K C.X.mg C.X.base 2 (He.ga C.X.K "Block") "Block" (spBkInit C.X.K)) (h1 : E C env L e1 ⟨n⟩) (h2 : E C env L e2 ⟨l⟩) (h3 : E C env L e3 ⟨m⟩) (hj : 3 ≤ k := by decide) (hg : Gl C.X "Block" := by rfl)
    (he1 : starEach [e1, e2, e3] C.X.env = (false, eval e1 C.X.env) :: starEach [e2, e3] C.X.env := by rfl) (he2 : starEach [e2, e3] C.X.env = (false, eval e2 C.X.env) :: starEach [e3] C.X.env := by rfl) (he3 : starEach [e3] C.X.env = (false, eval e3 C.X.env) :: starEach [] C.X.env := by rfl) (hpl : (backTo pos (starEach [e2, e3] C.X.env)).any (·.1) = false := by rfl) :
    E C env L (.Call (.Name "Block" p) [e1, e2, e3] [] pos) ⟨(Bk.mk n l m)⟩ := by
  have h := EM_make (pos := pos) (p := p) (env := env) (L := L) (δ := Int × Str × List Int) (arg := fun d => [⟨d.1⟩, ⟨d.2.1⟩, ⟨d.2.2⟩]) (pre := fun _ => True) (post := fun p dx d r L' => r = ⟨()⟩ ∧ L' = [Cell.obj p (He.ga C.X.K "Block") dx (bkF ⟨d.1, d.2.1, d.2.2⟩)]) (exc := fun _ _ _ _ _ _ => False) (n, l, m) ok M (fun _ _ _ _ _ h => h.1) (A_cons h1 (A_cons h2 (A_cons h3 A_nil he3) he2) he1) trivial hj hg (by decide) he1 hpl
  refine EM.freeze (EM.imp h (fun _ _ z => z) (fun _ _ _ ⟨_, _, _, z, _⟩ => z.elim)) ?_
  rintro _ _ ⟨p, dx, _, rfl, ⟨_, rfl⟩, rfl⟩
  refine ⟨_, rfl, fun F H F' v h1 x h2 hv => ?_⟩
  have hv : v = V.ref p := hv
  subst hv
  obtain ⟨vs, g1, g2, g3⟩ := h1 _ List.mem_cons_self
  exact ⟨p, dx, vs, rfl, by rw [h2 _ List.mem_cons_self p List.mem_cons_self]; exact g1, g3.imp fun _ _ => FldOk.mono x⟩
/-! ### a graph is copied, a node struck -/
def copyF (g : GD) : GD := ⟨g.rows, dcF (fun n : Int => n) (lab g) (fun _ => true) g.rows, dcF (fun n : Int => n) (nbr g.ups) (fun _ => true) g.rows, dcF (fun n : Int => n) (nbr g.downs) (fun _ => true) g.rows⟩
def spCopied (K : PySem.W.Frag) : Sp := spM (γ := GA × GD) K (fun g => [⟨(At.mk g.1.p)⟩]) (fun g => grC K g.1 g.2) (fun g => GOk g.2)
  (fun g r L' => ∃ b : GA, r = ⟨(At.mk b.p)⟩ ∧ L' = grC K b (copyF g.2) ++ grC K g.1 g.2) (fun _ _ _ _ => False)
section
variable {P : Program} {w : World} {K : PySem.W.Frag} {mg : Str → Option Value} {base : Heap} {f : Addr} {fd : FuncData}
theorem ok_Gr_copied (Fn : FnP K "copied" "Graph.copied" d_Graph_copied f fd) (T : GraphT K mg) (Mg0 : Mks P w K mg base 2 (He.ga K "Graph") "Graph" (spGrInit K)) : FnOk P w K mg base (L2.CX P w) 4 f fd ["self"] (spCopied K) := by
  refine fn_spM Fn sc_Graph_copied (fun _ => rfl) ?_
  rintro ⟨a, g⟩ gok cdv A outer s H E0 R C ok
  have gok : GOk g := gok
  have hlab : ∀ n ∈ g.rows, lkp g.told n = some (lab g n) := fun n hn => by
    unfold lab
    have h := gok.told n hn
    cases q : lkp g.told n with
    | none => rw [q] at h; cases h
    | some y => rfl
  show S _ [some ⟨(At.mk a.p)⟩, none, none] (grC K a g) _ _
  refine S_setM 1 ok.nd (EM_Graph ok Mg0) ?_ (fun _ _ _ z => z.elim)
  rintro _ _ ⟨b, rfl, rfl⟩
  have up : ∀ {c : Cell} {L : List Cell}, c ∈ grC K a g → c ∈ L ++ grC K a g := fun h => List.mem_append_right _ h
  refine S_fld 0 T.cl T.n1 (E_var 1) (E_biR calR_list (E_fldO T.cl T.n1 (E_var 0) (up mem0) rfl).imm T.list) rfl ?_ (by show 4 < 1000; decide)
  show S _ _ ([Cell.obj b.p (He.ga K "Graph") b.dx [("rows", ⟨g.rows⟩), ("told", ⟨(At.mk b.d1)⟩), ("ups", ⟨(At.mk b.d2)⟩), ("downs", ⟨(At.mk b.d3)⟩)], Cell.dic b.d1 ([] : List (Int × Str)), Cell.dic b.d2 ([] : List (Int × List Int)), Cell.dic b.d3 ([] : List (Int × List Int))] ++ grC K a g) _ _
  refine S_fldM T.cl T.n2 (EM_dc [("node", 2)] (fun n : Int => n) (lab g) (fun _ => true) ok (EI_list (E_fldO T.cl T.n1 (E_var 0) (up mem0) rfl)) ?_) (fun _ _ _ z => z.elim) ?_
  · intro i n hn
    refine ⟨_, _, ?_, fun R s H C0 cl fp okb => ⟨G_name 2 okb.nd, Ts_nil, fun _ => ⟨E_var 2, E_dget okb (ED.own (E_fldO T.cl T.n2 (E_var 0) (up mem0) rfl) (up mem1)) (E_var 2) (hlab n (List.mem_of_getElem? hn))⟩⟩⟩
    intro x hx
    exact hx
  rintro _ _ ⟨d1, rfl, rfl⟩
  refine ⟨b.p, b.dx, _, 1, E_var 1, rfl, by show 4 < 1000; decide, ?_⟩
  have up1 : ∀ {x : Cell} {L : List Cell} {c : Cell}, c ∈ grC K a g → c ∈ x :: (L ++ grC K a g) := fun h => List.mem_cons_of_mem _ (List.mem_append_right _ h)
  refine S_fldM T.cl T.n3 (EM_dc [("node", 2)] (fun n : Int => n) (nbr g.ups) (fun _ => true) ok (EI_list (E_fldO T.cl T.n1 (E_var 0) (List.mem_cons_of_mem _ (List.mem_cons_of_mem _ (List.mem_cons_of_mem _ (List.mem_cons_of_mem _ (List.mem_cons_of_mem _ mem0))))) rfl)) ?_) (fun _ _ _ z => z.elim) ?_
  · intro i n hn
    refine ⟨_, _, ?_, fun R s H C0 cl fp okb => ⟨G_name 2 okb.nd, Ts_nil, fun _ => ⟨E_var 2, E_biR calR_list (E_dget okb (ED.own (E_fldO T.cl T.n3 (E_var 0) (List.mem_cons_of_mem _ (List.mem_cons_of_mem _ (List.mem_cons_of_mem _ (List.mem_cons_of_mem _ (List.mem_cons_of_mem _ mem0))))) rfl) (List.mem_cons_of_mem _ (List.mem_cons_of_mem _ (List.mem_cons_of_mem _ (List.mem_cons_of_mem _ (List.mem_cons_of_mem _ mem2)))))) (E_var 2) (lkp_nbr (gok.ups n (List.mem_of_getElem? hn)))).imm T.list⟩⟩⟩
    intro x hx
    exact hx
  rintro _ _ ⟨d2, rfl, rfl⟩
  refine ⟨b.p, b.dx, _, 2, E_var 1, rfl, by show 4 < 1000; decide, ?_⟩
  refine S_fldM T.cl T.n4 (EM_dc [("node", 2)] (fun n : Int => n) (nbr g.downs) (fun _ => true) ok (EI_list (E_fldO T.cl T.n1 (E_var 0) (List.mem_cons_of_mem _ (List.mem_cons_of_mem _ (List.mem_cons_of_mem _ (List.mem_cons_of_mem _ (List.mem_cons_of_mem _ (List.mem_cons_of_mem _ mem0)))))) rfl)) ?_) (fun _ _ _ z => z.elim) ?_
  · intro i n hn
    refine ⟨_, _, ?_, fun R s H C0 cl fp okb => ⟨G_name 2 okb.nd, Ts_nil, fun _ => ⟨E_var 2, E_biR calR_list (E_dget okb (ED.own (E_fldO T.cl T.n4 (E_var 0) (List.mem_cons_of_mem _ (List.mem_cons_of_mem _ (List.mem_cons_of_mem _ (List.mem_cons_of_mem _ (List.mem_cons_of_mem _ (List.mem_cons_of_mem _ mem0)))))) rfl) (List.mem_cons_of_mem _ (List.mem_cons_of_mem _ (List.mem_cons_of_mem _ (List.mem_cons_of_mem _ (List.mem_cons_of_mem _ (List.mem_cons_of_mem _ mem3))))))) (E_var 2) (lkp_nbr (gok.downs n (List.mem_of_getElem? hn)))).imm T.list⟩⟩⟩
    intro x hx
    exact hx
  rintro _ _ ⟨d3, rfl, rfl⟩
  refine ⟨b.p, b.dx, _, 3, E_var 1, rfl, by show 4 < 1000; decide, ?_⟩
  refine S_retP [Cell.dic b.d1 ([] : List (Int × Str)), Cell.dic b.d2 ([] : List (Int × List Int)), Cell.dic b.d3 ([] : List (Int × List Int))] (L' := grC K ⟨b.p, b.dx, d1, d2, d3⟩ (copyF g) ++ grC K a g) (E_var 1) ?_ ⟨⟨b.p, b.dx, d1, d2, d3⟩, rfl, rfl⟩
  exact (List.perm_append_comm_assoc _ (grC K ⟨b.p, b.dx, d1, d2, d3⟩ (copyF g)) (grC K a g)).trans ((List.reverse_perm (grC K ⟨b.p, b.dx, d1, d2, d3⟩ (copyF g))).symm.append_right ([Cell.dic b.d1 ([] : List (Int × Str)), Cell.dic b.d2 ([] : List (Int × List Int)), Cell.dic b.d3 ([] : List (Int × List Int))] ++ grC K a g))
end

/-- classes(..), frozen at once -/
theorem E_classesF {C : Cz} {k : Nat} {env : Env} {L LR : List Cell} {e1 e2 : Expr} {p pos : Pos} {a : GA} {g : GD} {wd : Wd} (ok : C.Ok k) (Cl : Hs C.X.prog C.X.w C.X.K C.X.mg C.X.base 6 "classes" (spClasses C.X.K)) (h1 : E C env L e1 ⟨(At.mk a.p)⟩) (h2 : E C env L e2 ⟨wd⟩) (gok : GOk g) (hL : L = LR ++ grC C.X.K a g) (hj : 6 ≤ k := by decide) (hg : Gl C.X "classes" := by rfl)
    (he1 : starEach [e1, e2] C.X.env = (false, eval e1 C.X.env) :: starEach [e2] C.X.env := by rfl) (he2 : starEach [e2] C.X.env = (false, eval e2 C.X.env) :: starEach [] C.X.env := by rfl) (hpl : (backTo pos (starEach [e2] C.X.env)).any (·.1) = false := by rfl) : E C env L (.Call (.Name "classes" p) [e1, e2] [] pos) ⟨grp (mkOf (kindsF g (signs wd.t))) g.rows⟩ := by
  subst hL
  refine EM.freeze (P := fun r L' => ∃ ags : List (Addr × List Int), r = ⟨(ags.map fun p => At.mk p.1)⟩ ∧ ags.map (·.2) = grp (mkOf (kindsF g (signs wd.t))) g.rows ∧ L' = agC ags ++ (LR ++ grC C.X.K a g)) (EM.perm (EM.imp (EM_call (a, g, wd) ok Cl (A_cons h1 (A_cons h2 A_nil he2) he1) gok (LR := LR) List.perm_append_comm hj hg (by decide) he1 hpl) (fun _ _ z => z) (fun _ _ _ ⟨_, z, _⟩ => z.elim)) ?_) ?_
  · rintro _ _ ⟨_, ⟨ags, rfl, hag, rfl⟩, rfl⟩
    refine ⟨agC ags ++ (LR ++ grC C.X.K a g), ?_, ags, rfl, hag, rfl⟩
    rw [List.append_assoc]
    exact List.Perm.append_left _ List.perm_append_comm
  · rintro _ _ ⟨ags, rfl, hag, rfl⟩
    refine ⟨agC ags, rfl, ?_⟩
    have h := frzTo_ats (K := C.X.K) ags
    rw [hag] at h
    exact h
theorem grp_few {f : Int → Int} {ns : List Int} (h : ns.length ≤ 60) : (grp f ns).length ≤ 1000 ∧ ∀ p ∈ grp f ns, p.length ≤ 1000 := by
  have gi := grpI f ns ns.length (Nat.le_refl _)
  rw [List.take_length] at gi
  exact ⟨by have := gi.few; omega, fun p hp => by have := gi.len p hp; omega⟩

/-! ### the index -/
structure XA where
  p : Addr
  dx : Addr
  hd : Addr
  ga : GA
structure XD where
  w : Wd
  g : GD
  rows : List Bk
  home : List (Int × Bk)
  used : Int
  gone : List Int
  made : List Int
def ixF (a : XA) (d : XD) : Fld := [("word", ⟨d.w⟩), ("held", ⟨(At.mk a.ga.p)⟩), ("rows", ⟨d.rows⟩), ("home", ⟨(At.mk a.hd)⟩), ("used", ⟨d.used⟩), ("gone", ⟨d.gone⟩), ("made", ⟨d.made⟩)]
def ixC (K : PySem.W.Frag) (a : XA) (d : XD) : List Cell := Cell.obj a.p (He.ga K "Index") a.dx (ixF a d) :: Cell.dic a.hd d.home :: grC K a.ga d.g
structure IndexT (K : PySem.W.Frag) (mg : Str → Option Value) : Prop where
  cl : Cls K (He.ga K "Index")
  n1 : NoAttr K (He.ga K "Index") "word"
  n2 : NoAttr K (He.ga K "Index") "held"
  n3 : NoAttr K (He.ga K "Index") "rows"
  n4 : NoAttr K (He.ga K "Index") "home"
  n5 : NoAttr K (He.ga K "Index") "used"
  n6 : NoAttr K (He.ga K "Index") "gone"
  n7 : NoAttr K (He.ga K "Index") "made"
  g : mg "Index" = some (.ref (He.ga K "Index"))
  ns : PySem.W.noSeq K (He.ga K "Index") = true
  len : mg "len" = none
  list : mg "list" = none
  tuple : mg "tuple" = none
def indexFa : List He.Fa := [.cls "Index", .noat "Index" "word", .noat "Index" "held", .noat "Index" "rows", .noat "Index" "home", .noat "Index" "used", .noat "Index" "gone", .noat "Index" "made", .glo "Index", .free "len", .free "list", .free "tuple", .mkr "Index"]
def indexB (K : PySem.W.Frag) : Bool := faB indexFa K && PySem.W.noSeq K (He.ga K "Index")
theorem indexT_of {K : PySem.W.Frag} {h : Heap} {mg : Str → Option Value} (X : K.In h) (G : h.Ns mainGlobals mg) (c : indexB K = true) : IndexT K mg ∧ Mk K (He.ga K "Index") (He.ma K (He.ga K "Index") "__init__") := by
  obtain ⟨c1, c2⟩ := He.ba c
  exact ⟨⟨He.cls_ok (faB_at c1 0), He.noat_ok (faB_at c1 1), He.noat_ok (faB_at c1 2), He.noat_ok (faB_at c1 3), He.noat_ok (faB_at c1 4), He.noat_ok (faB_at c1 5), He.noat_ok (faB_at c1 6), He.noat_ok (faB_at c1 7), He.glo_ok X G (faB_at c1 8), c2, He.free_ok X G (faB_at c1 9), He.free_ok X G (faB_at c1 10), He.free_ok X G (faB_at c1 11)⟩, He.mkr_ok (faB_at c1 12)⟩
def oldF (rows : List Bk) : List (P2 Str (Tup Int) × Bk) := dcF (fun b : Bk => P2.mk b.l (Tup.mk b.m)) (fun b : Bk => b) (fun _ => true) rows
structure RS where
  kept : List Int
  made : List Bk
  used : Int
def renStep (g : GD) (old : List (P2 Str (Tup Int) × Bk)) (s : RS) (v : List Int) : RS := match lkp old (P2.mk (lab g (hdI v)) (Tup.mk v)) with
  | some b => ⟨s.kept ++ [b.n], s.made, s.used⟩
  | none => ⟨s.kept, s.made ++ [⟨s.used, lab g (hdI v), v⟩], s.used + 1⟩
def renS (g : GD) (old : List (P2 Str (Tup Int) × Bk)) (used : Int) (G : List (List Int)) : RS := G.foldl (renStep g old) ⟨[], [], used⟩
def homeF (rows : List Bk) : List (Int × Bk) := dcP (fun (_ : Bk) (n : Int) => n) (fun (b : Bk) (_ : Int) => b) (prs rows (fun b : Bk => b.m))
def clsF (d : XD) : List (List Int) := grp (mkOf (kindsF d.g (signs d.w.t))) d.g.rows
def renR (d : XD) : RS := renS d.g (oldF d.rows) d.used (clsF d)
def renewF (d : XD) : XD := ⟨d.w, d.g, d.rows.filter (fun b => decide (b.n ∈ (renR d).kept)) ++ (renR d).made, homeF (d.rows.filter (fun b => decide (b.n ∈ (renR d).kept)) ++ (renR d).made), (renR d).used, (d.rows.filter (fun b => !decide (b.n ∈ (renR d).kept))).map (·.n), (renR d).made.map (·.n)⟩
theorem renS_take {g old used} {G : List (List Int)} {i : Nat} {v : List Int} (h : G[i]? = some v) : renS g old used (G.take (i + 1)) = renStep g old (renS g old used (G.take i)) v := by
  unfold renS
  rw [List.take_add_one, h, List.foldl_append]; rfl
theorem renS_len (g old used) (G : List (List Int)) : ∀ i, i ≤ G.length → (renS g old used (G.take i)).kept.length ≤ i ∧ (renS g old used (G.take i)).made.length ≤ i ∧ ∀ b ∈ (renS g old used (G.take i)).made, b.m ∈ G
  | 0, _ => by
    refine ⟨Nat.le_refl _, Nat.le_refl _, fun b hb => ?_⟩
    cases hb
  | i + 1, hi => by
    have hlt : i < G.length := hi
    obtain ⟨h1, h2, h3⟩ := renS_len g old used G i (by omega)
    rw [renS_take (List.getElem?_eq_getElem hlt)]
    unfold renStep
    cases lkp old (P2.mk (lab g (hdI G[i])) (Tup.mk G[i])) with
    | some b => exact ⟨by simp; omega, by show (renS g old used (G.take i)).made.length ≤ _; omega, h3⟩
    | none =>
      refine ⟨by show (renS g old used (G.take i)).kept.length ≤ _; omega, by simp; omega, fun b hb => ?_⟩
      rcases List.mem_append.mp hb with z | z
      · exact h3 b z
      · rw [List.mem_singleton.mp z]
        exact List.getElem_mem hlt
theorem prs_len {rows : List Bk} (h : ∀ b ∈ rows, b.m.length ≤ 1000) : (prs rows (fun b : Bk => b.m)).length ≤ rows.length * 1000 := by
  induction rows with
  | nil => exact Nat.le_refl _
  | cons b rows ih =>
    have h1 := h b List.mem_cons_self
    have h2 := ih fun c hc => h c (List.mem_cons_of_mem _ hc)
    have e : prs (b :: rows) (fun b : Bk => b.m) = (b.m.map fun n => (b, n)) ++ prs rows (fun b : Bk => b.m) := by
      unfold prs
      rw [List.flatMap_cons]
    rw [e, List.length_append, List.length_map, List.length_cons, Nat.succ_mul]
    omega
theorem perm4 {α : Type} (a b c d : α) (r : List α) : ([b, d] ++ (c :: a :: r)).Perm (a :: b :: c :: d :: r) :=
  (((List.reverse_perm [a, c, d]).append_right r).cons b).trans (List.Perm.swap _ _ _)
structure XOk (d : XD) : Prop where
  g : GOk d.g
  few : d.rows.length ≤ 1000
  len : ∀ b ∈ d.rows, b.m.length ≤ 1000
def spRenew (K : PySem.W.Frag) : Sp := spM (γ := XA × XD) K (fun g => [⟨(At.mk g.1.p)⟩]) (fun g => ixC K g.1 g.2) (fun g => XOk g.2)
  (fun g r L' => ∃ hd : Addr, r = ⟨()⟩ ∧ L' = ixC K ⟨g.1.p, g.1.dx, hd, g.1.ga⟩ (renewF g.2)) (fun _ _ _ _ => False)
section
variable {P : Program} {w : World} {K : PySem.W.Frag} {mg : Str → Option Value} {base : Heap} {f : Addr} {fd : FuncData}
theorem ok_renew (Fn : FnP K "renew" "Index.renew" d_Index_renew f fd) (T : IndexT K mg) (TG : GraphT K mg) (BT : BlockT K mg) (Cl : Hs P w K mg base 6 "classes" (spClasses K)) (Ge : Ms P w K mg base 2 (He.ga K "Graph") "__getitem__" (spGrGet0 K)) (BM : Mks P w K mg base 2 (He.ga K "Block") "Block" (spBkInit K)) (BI : Mi P w K mg base 2 (He.ga K "Block") (spBkIter K)) : FnOk P w K mg base (L2.CX P w) 8 f fd ["self"] (spRenew K) := by
  refine fn_spM Fn sc_Index_renew (fun _ => rfl) ?_
  rintro ⟨a, d⟩ xok cdv A outer s H E0 R C ok
  have xok : XOk d := xok
  have gok := xok.g
  have e9 := sizeLine_eq
  have s1 := gok.sm.rows
  have hG := grp_few (f := mkOf (kindsF d.g (signs d.w.t))) s1
  have gi := grpI (mkOf (kindsF d.g (signs d.w.t))) d.g.rows d.g.rows.length (Nat.le_refl _)
  rw [List.take_length] at gi
  show S _ [some ⟨(At.mk a.p)⟩, none, none, none, none, none, none, none] (ixC K a d) _ _
  refine S_setDcK 1 [("block", 6)] (fun b : Bk => P2.mk b.l (Tup.mk b.m)) (fun b : Bk => b) (fun _ => true) ok (EI_list (E_fldO T.cl T.n3 (E_var 0) List.mem_cons_self rfl)) ?_ ?_
  · intro i b hb
    refine ⟨_, _, ?_, fun R s H C0 cl fp okb => ⟨G_name 6 okb.nd, Ts_nil, fun _ => ⟨E_tup2 (A_cons (E_fld (y := b.l) BT.cl BT.n2 (bk_fld rfl) (E_var 6)) (A_cons (E_biR calR_tuple (E_fld (y := b.m) BT.cl BT.n3 (bk_fld rfl) (E_var 6)).imm T.tuple) A_nil)), E_var 6⟩⟩⟩
    intro x hx
    exact hx
  intro lo
  refine S_newL 2 ([] : List Int) ok.nd A_nil (fun lk => ?_)
  refine S_newL 3 ([] : List Bk) ok.nd A_nil (fun lm => ?_)
  refine S_for ok (fun i env L => ∃ o4 o5 : Option Ent, env = [some ⟨(At.mk a.p)⟩, some ⟨(At.mk lo)⟩, some ⟨(At.mk lk)⟩, some ⟨(At.mk lm)⟩, o4, o5, none, none]
    ∧ L = Cell.lst lm (renS d.g (oldF d.rows) d.used ((clsF d).take i)).made :: Cell.lst lk (renS d.g (oldF d.rows) d.used ((clsF d).take i)).kept :: Cell.dkn C.X.prog C.X.w lo (oldF d.rows) :: Cell.obj a.p (He.ga K "Index") a.dx (ixF a ⟨d.w, d.g, d.rows, d.home, (renS d.g (oldF d.rows) d.used ((clsF d).take i)).used, d.gone, d.made⟩) :: Cell.dic a.hd d.home :: grC K a.ga d.g)
    (EI_list (E_classesF (a := a.ga) (g := d.g) (wd := d.w) (LR := [Cell.lst lm ([] : List Bk), Cell.lst lk ([] : List Int), Cell.dkn C.X.prog C.X.w lo (oldF d.rows), Cell.obj a.p (He.ga K "Index") a.dx (ixF a d), Cell.dic a.hd d.home]) ok Cl (E_fldO T.cl T.n2 (E_var 0) (List.mem_cons_of_mem _ (List.mem_cons_of_mem _ (List.mem_cons_of_mem _ List.mem_cons_self))) rfl) (E_fldO T.cl T.n1 (E_var 0) (List.mem_cons_of_mem _ (List.mem_cons_of_mem _ (List.mem_cons_of_mem _ List.mem_cons_self))) rfl) gok rfl)) ⟨none, none, rfl, rfl⟩ ?_ ?_
  · rintro i v env' L' hi ⟨o4, o5, rfl, rfl⟩
    have hi : (clsF d)[i]? = some v := hi
    refine ⟨_, _, G_name 4 ok.nd, ?_⟩
    have hlt : i < (clsF d).length := (List.getElem?_eq_some_iff.mp hi).1
    have hv := List.mem_of_getElem? hi
    obtain ⟨v1, v2⟩ := gi.mem v hv
    have hfew := hG.1
    have hfew : (clsF d).length ≤ 1000 := hfew
    obtain ⟨r1, r2, _⟩ := renS_len d.g (oldF d.rows) d.used (clsF d) i (by omega)
    have hN := renS_take (g := d.g) (old := oldF d.rows) (used := d.used) hi
    generalize renS d.g (oldF d.rows) d.used ((clsF d).take i) = s at r1 r2 hN
    have hv0 : atI v (0 : Int) = some (hdI v) := by
      cases v with
      | nil => exact absurd rfl v1
      | cons x v => exact atI_nat' (by decide) (by rfl)
    have hh := v2 _ (hdI_mem v1)
    have mo : Cell.obj a.p (He.ga K "Index") a.dx (ixF a ⟨d.w, d.g, d.rows, d.home, s.used, d.gone, d.made⟩) ∈ Cell.lst lm s.made :: Cell.lst lk s.kept :: Cell.dkn C.X.prog C.X.w lo (oldF d.rows) :: Cell.obj a.p (He.ga K "Index") a.dx (ixF a ⟨d.w, d.g, d.rows, d.home, s.used, d.gone, d.made⟩) :: Cell.dic a.hd d.home :: grC K a.ga d.g := List.mem_cons_of_mem _ (List.mem_cons_of_mem _ (List.mem_cons_of_mem _ List.mem_cons_self))
    have mk : Cell.dkn C.X.prog C.X.w lo (oldF d.rows) ∈ Cell.lst lm s.made :: Cell.lst lk s.kept :: Cell.dkn C.X.prog C.X.w lo (oldF d.rows) :: Cell.obj a.p (He.ga K "Index") a.dx (ixF a ⟨d.w, d.g, d.rows, d.home, s.used, d.gone, d.made⟩) :: Cell.dic a.hd d.home :: grC K a.ga d.g := List.mem_cons_of_mem _ (List.mem_cons_of_mem _ List.mem_cons_self)
    have hperm : (Cell.lst lm s.made :: Cell.lst lk s.kept :: Cell.dkn C.X.prog C.X.w lo (oldF d.rows) :: Cell.obj a.p (He.ga K "Index") a.dx (ixF a ⟨d.w, d.g, d.rows, d.home, s.used, d.gone, d.made⟩) :: Cell.dic a.hd d.home :: grC K a.ga d.g).Perm (grC K a.ga d.g ++ [Cell.lst lm s.made, Cell.lst lk s.kept, Cell.dkn C.X.prog C.X.w lo (oldF d.rows), Cell.obj a.p (He.ga K "Index") a.dx (ixF a ⟨d.w, d.g, d.rows, d.home, s.used, d.gone, d.made⟩), Cell.dic a.hd d.home]) := List.perm_append_comm (l₁ := [Cell.lst lm s.made, Cell.lst lk s.kept, Cell.dkn C.X.prog C.X.w lo (oldF d.rows), Cell.obj a.p (He.ga K "Index") a.dx (ixF a ⟨d.w, d.g, d.rows, d.home, s.used, d.gone, d.made⟩), Cell.dic a.hd d.home])
    refine S_set 5 ok.nd (r := ⟨(P2.mk (lab d.g (hdI v)) (Tup.mk v))⟩) (E_tup2 (A_cons (EM.lent (γ := GA × GD × Int) (g := (a.ga, d.g, hdI v)) (cel := fun g => grC K g.1 g.2.1) (res := fun g => ⟨lab g.2.1 g.2.2⟩) hperm ?_) (A_cons (E_biR calR_tuple (E_var 4).imm T.tuple) A_nil))) ?_
    · exact EM_ixO (a.ga, d.g, hdI v) ok Ge (E_fldO T.cl T.n2 (E_var 0) mo rfl) (E_ix (E_var 4).imm E_int hv0) rfl (gok.told _ hh) hperm (Seen.obj (List.mem_cons_of_mem _ (List.mem_cons_of_mem _ (List.mem_cons_of_mem _ (List.mem_cons_of_mem _ (List.mem_cons_of_mem _ mem0))))))
    cases q : lkp (oldF d.rows) (P2.mk (lab d.g (hdI v)) (Tup.mk v)) with
    | some b =>
      refine S_if (T_kin ok (E_var 5) (EK.own (E_var 1) mk)) (fun h => ?_) (fun h => ?_)
      · refine S_app 1 (E_var 2) (E_fld (y := b.n) BT.cl BT.n1 (bk_fld rfl) (E_kget ok (EK.own (E_var 1) mk) (E_var 5) q)) rfl (by omega) (S_nil (S_nil ⟨_, _, rfl, ?_⟩))
        rw [hN]
        unfold renStep
        rw [q]
        rfl
      · rw [q] at h; cases h
    | none =>
      refine S_if (T_kin ok (E_var 5) (EK.own (E_var 1) mk)) (fun h => ?_) (fun h => ?_)
      · rw [q] at h; cases h
      · refine S_app 0 (E_var 3) (E_Block ok BM (E_fldO T.cl T.n5 (E_var 0) mo rfl) (E_2a (t := P2.mk (lab d.g (hdI v)) (Tup.mk v)) (E_var 5) E_int) (E_var 4)) rfl (by omega) ?_
        refine S_fldAug 3 T.cl T.n5 (E_var 0) E_int rfl rfl (S_nil (S_nil ⟨_, _, rfl, ?_⟩)) (by show 7 < 1000; decide)
        rw [hN]
        unfold renStep
        rw [q]
        rfl
  · rintro env' L' ⟨o4, o5, rfl, rfl⟩
    have hr := renS_len d.g (oldF d.rows) d.used (clsF d) (clsF d).length (Nat.le_refl _)
    rw [List.take_length] at hr
    rw [show (clsF d).take (grp (mkOf (kindsF d.g (signs d.w.t))) d.g.rows).length = clsF d from List.take_length]
    have hR : renS d.g (oldF d.rows) d.used (clsF d) = renR d := rfl
    rw [hR] at hr ⊢
    obtain ⟨r1, r2, r3⟩ := hr
    have hfew : (clsF d).length ≤ 1000 := hG.1
    have xf := xok.few
    refine S_frz 3 0 rfl rfl (S_frz 2 0 rfl rfl ?_)
    show S _ [some ⟨(At.mk a.p)⟩, some ⟨(At.mk lo)⟩, some ⟨(renR d).kept⟩, some ⟨(renR d).made⟩, o4, o5, none, none] (Cell.dkn C.X.prog C.X.w lo (oldF d.rows) :: Cell.obj a.p (He.ga K "Index") a.dx (ixF a ⟨d.w, d.g, d.rows, d.home, (renR d).used, d.gone, d.made⟩) :: Cell.dic a.hd d.home :: grC K a.ga d.g) _ _
    have fl : (d.rows.filter (fun b => decide (b.n ∈ (renR d).kept))).length ≤ d.rows.length := List.length_filter_le _ _
    refine S_fld 1 T.cl T.n6 (E_var 0) (E_lc [("block", 6)] (fun b : Bk => b.n) (fun b : Bk => !decide (b.n ∈ (renR d).kept)) ok (EI_list (E_fldO (y := ⟨d.rows⟩) T.cl T.n3 (E_var 0) (List.mem_cons_of_mem _ List.mem_cons_self) rfl)) ?_) rfl ?_ (by show 7 < 1000; decide)
    · intro i b hb
      refine ⟨_, _, ?_, fun R s H C0 cl fp okb => ⟨G_name 6 okb.nd, Ts_one (T_ninL (E_fld (y := b.n) BT.cl BT.n1 (bk_fld rfl) (E_var 6)) (E_var 2).imm), fun _ => E_fld (y := b.n) BT.cl BT.n1 (bk_fld rfl) (E_var 6)⟩⟩
      intro x hx
      exact hx
    refine S_fld 1 T.cl T.n7 (E_var 0) (E_lc [("block", 6)] (fun b : Bk => b.n) (fun _ => true) ok (EI_list (E_var 3)) ?_) rfl ?_ (by show 7 < 1000; decide)
    · intro i b hb
      refine ⟨_, _, ?_, fun R s H C0 cl fp okb => ⟨G_name 6 okb.nd, Ts_nil, fun _ => E_fld (y := b.n) BT.cl BT.n1 (bk_fld rfl) (E_var 6)⟩⟩
      intro x hx
      exact hx
    refine S_fld 1 T.cl T.n3 (E_var 0) (E_bin (E_lc [("block", 6)] (fun b : Bk => b) (fun b : Bk => decide (b.n ∈ (renR d).kept)) ok (EI_list (E_fldO (y := ⟨d.rows⟩) T.cl T.n3 (E_var 0) (List.mem_cons_of_mem _ List.mem_cons_self) rfl)) ?_) (E_var 3) (bin_catL (by have := picks_le (fun b : Bk => b) (fun b : Bk => decide (b.n ∈ (renR d).kept)) d.rows; omega))) rfl ?_ (by show 7 < 1000; decide)
    · intro i b hb
      refine ⟨_, _, ?_, fun R s H C0 cl fp okb => ⟨G_name 6 okb.nd, Ts_one (T_inL (E_fld (y := b.n) BT.cl BT.n1 (bk_fld rfl) (E_var 6)) (E_var 2).imm), fun _ => E_var 6⟩⟩
      intro x hx
      exact hx
    have ep : picks (fun b : Bk => b) (fun b : Bk => decide (b.n ∈ (renR d).kept)) d.rows ++ (renR d).made = (renewF d).rows := by
      unfold picks
      rw [List.map_id']; rfl
    rw [ep]
    have hlen : (prs (renewF d).rows (fun b : Bk => b.m)).length ≤ sizeLine := by
      have h1 : ∀ b ∈ (renewF d).rows, b.m.length ≤ 1000 := fun b hb => by
        rcases List.mem_append.mp hb with z | z
        · exact xok.len b (List.mem_filter.mp z).1
        · exact hG.2 _ (r3 b z)
      have h2 := prs_len h1
      have h3 : (renewF d).rows.length ≤ 2000 := by
        show (d.rows.filter _ ++ (renR d).made).length ≤ 2000
        rw [List.length_append]
        omega
      omega
    refine S_fldM T.cl T.n4 (EM_dc2 (L1 := []) [("block", 6), ("node", 7)] [7] (fun b : Bk => b.m) (fun (_ : Bk) (n : Int) => n) (fun (b : Bk) (_ : Int) => b) ok (EI_list (E_fldO (y := ⟨(renewF d).rows⟩) T.cl T.n3 (E_var 0) (List.mem_cons_of_mem _ List.mem_cons_self) rfl)) ?_ hlen) (fun _ _ _ z => z.elim) ?_
    · intro i b hb
      refine ⟨_, _, ?_, fun R s H C0 cl fp okb => ⟨G_name 6 okb.nd, EI_own b okb BI (E_var 6) trivial (List.Perm.refl _) (Seen.of isI_Bk)⟩, fun j n hn => ⟨_, _, ?_, fun R s H C0 cl fp okb => ⟨G_name 7 okb.nd, E_var 7, E_var 6⟩⟩⟩
      · intro x hx
        rw [List.mem_singleton.mp hx]
        exact List.mem_cons_self
      · intro x hx
        exact hx
    rintro _ _ ⟨hd, rfl, rfl⟩
    refine ⟨a.p, a.dx, _, 2, E_var 0, rfl, by show 7 < 1000; decide, ?_⟩
    refine S_drop [Cell.dkn C.X.prog C.X.w lo (oldF d.rows), Cell.dic a.hd d.home] (L' := ixC K ⟨a.p, a.dx, hd, a.ga⟩ (renewF d)) (S_nil ⟨hd, rfl, rfl⟩) ?_
    have eg : picks (fun b : Bk => b.n) (fun b : Bk => !decide (b.n ∈ (renR d).kept)) d.rows = (renewF d).gone := rfl
    have em : picks (fun b : Bk => b.n) (fun _ => true) (renR d).made = (renewF d).made := by rw [picks_all]; rfl
    rw [eg, em]
    exact perm4 _ _ _ _ _
end

/-! ### an index is made, asked for its blocks -/
def XD.mk0 (w : Wd) (g : GD) : XD := ⟨w, copyF g, [], [], 0, [], []⟩
def noMade (d : XD) : XD := ⟨d.w, d.g, d.rows, d.home, d.used, d.gone, []⟩
def newX (w : Wd) (g : GD) : XD := noMade (renewF (XD.mk0 w g))
def spIxInit (K : PySem.W.Frag) : Sp := spM (γ := Addr × Addr × (GA × GD × Wd)) K (fun g => [⟨(At.mk g.1)⟩, ⟨(At.mk g.2.2.1.p)⟩, ⟨g.2.2.2.2⟩]) (fun g => Cell.obj g.1 (He.ga K "Index") g.2.1 [] :: grC K g.2.2.1 g.2.2.2.1) (fun g => GOk g.2.2.2.1 ∧ GOk (copyF g.2.2.2.1))
  (fun g r L' => r = ⟨()⟩ ∧ ∃ (hd : Addr) (b : GA), L' = ixC K ⟨g.1, g.2.1, hd, b⟩ (newX g.2.2.2.2 g.2.2.2.1) ++ grC K g.2.2.1 g.2.2.2.1) (fun _ _ _ _ => False)
def spIxIter (K : PySem.W.Frag) : Nat → Sp := spIt (γ := XA × XD) K (fun g => ⟨(At.mk g.1.p)⟩) (fun g => ixC K g.1 g.2) (fun _ => True) (fun g => g.2.rows)
def spIxLen (K : PySem.W.Frag) : Sp := spB (γ := XA × XD) K (fun g => [⟨(At.mk g.1.p)⟩]) (fun g => ixC K g.1 g.2) (fun _ => True) (fun g => ⟨(g.2.rows.length : Int)⟩)
def spIxIn (K : PySem.W.Frag) : Sp := spB (γ := XA × XD × Int) K (fun g => [⟨(At.mk g.1.p)⟩, ⟨g.2.2⟩]) (fun g => ixC K g.1 g.2.1) (fun _ => True) (fun g => ⟨(lkp g.2.1.home g.2.2).isSome⟩)
def homeAt (d : XD) (n : Int) : Bk := (lkp d.home n).getD ⟨0, "", []⟩
def spIxGet (K : PySem.W.Frag) : Sp := spB (γ := XA × XD × Int) K (fun g => [⟨(At.mk g.1.p)⟩, ⟨g.2.2⟩]) (fun g => ixC K g.1 g.2.1) (fun g => (lkp g.2.1.home g.2.2).isSome = true) (fun g => ⟨homeAt g.2.1 g.2.2⟩)
def spIxChanged (K : PySem.W.Frag) : Sp := spB (γ := XA × XD) K (fun g => [⟨(At.mk g.1.p)⟩]) (fun g => ixC K g.1 g.2) (fun _ => True) (fun g => ⟨(P2.mk g.2.gone g.2.made)⟩)
def setX (d : XD) (n : Int) (y : Str) : XD := renewF ⟨d.w, setG d.g n y, d.rows, d.home, d.used, d.gone, d.made⟩
def spIxSet (K : PySem.W.Frag) : Sp := spM (γ := XA × XD × Int × Str) K (fun g => [⟨(At.mk g.1.p)⟩, ⟨g.2.2.1⟩, ⟨g.2.2.2⟩]) (fun g => ixC K g.1 g.2.1) (fun g => ((0 ≤ g.2.2.1 ∧ g.2.2.1 ≤ 999999) ∧ isLabel g.2.2.2 = true ∧ GSm g.2.1.g ∧ ((lkp g.2.1.g.told g.2.2.1).isSome = true ∨ g.2.1.g.rows.length < 60)) ∧ XOk ⟨g.2.1.w, setG g.2.1.g g.2.2.1 g.2.2.2, g.2.1.rows, g.2.1.home, g.2.1.used, g.2.1.gone, g.2.1.made⟩)
  (fun g r L' => ∃ hd : Addr, r = ⟨()⟩ ∧ L' = ixC K ⟨g.1.p, g.1.dx, hd, g.1.ga⟩ (setX g.2.1 g.2.2.1 g.2.2.2)) (fun _ _ _ _ => False)
section
variable {P : Program} {w : World} {K : PySem.W.Frag} {mg : Str → Option Value} {base : Heap} {f : Addr} {fd : FuncData}
theorem imem0 {a : XA} {d : XD} : Cell.obj a.p (He.ga K "Index") a.dx (ixF a d) ∈ ixC K a d := List.mem_cons_self
theorem imem1 {a : XA} {d : XD} : Cell.dic a.hd d.home ∈ ixC K a d := List.mem_cons_of_mem _ List.mem_cons_self
theorem ok_Ix_iter (Fn : FnP K "__iter__" "Index.__iter__" d_Index___iter__ f fd) (T : IndexT K mg) (hi : mg "iter" = none) : FnN P w K mg base (L2.CX P w) 2 f fd ["self"] (spIxIter K) := by
  refine fn_it Fn sc_Index___iter__ rfl hi ?_
  rintro ⟨a, d⟩ _ cdv A outer s H E0 R C ok
  exact ⟨_, _, _, _, rfl, rfl, rfl, rfl, E_fldO T.cl T.n3 (E_var 0) imem0 rfl⟩
theorem ok_Ix_len (Fn : FnP K "__len__" "Index.__len__" d_Index___len__ f fd) (T : IndexT K mg) : FnOk P w K mg base (L2.CX P w) 2 f fd ["self"] (spIxLen K) := by
  refine fn_spM Fn sc_Index___len__ (fun _ => rfl) ?_
  rintro ⟨a, d⟩ _ cdv A outer s H E0 R C ok
  show S _ [some ⟨(At.mk a.p)⟩] (ixC K a d) _ _
  exact S_ret (E_biR calR_len (E.imm (as := d.rows) (E_fldO T.cl T.n3 (E_var 0) imem0 rfl)) T.len) ⟨rfl, rfl⟩
theorem ok_Ix_in (Fn : FnP K "__contains__" "Index.__contains__" d_Index___contains__ f fd) (T : IndexT K mg) : FnOk P w K mg base (L2.CX P w) 2 f fd ["self", "node"] (spIxIn K) := by
  refine fn_spM Fn sc_Index___contains__ (fun _ => rfl) ?_
  rintro ⟨a, d, n⟩ _ cdv A outer s H E0 R C ok
  show S _ [some ⟨(At.mk a.p)⟩, some ⟨n⟩] (ixC K a d) _ _
  exact S_ret (E_din ok (E_var 1) (ED.own (E_fldO T.cl T.n4 (E_var 0) imem0 rfl) imem1)) ⟨rfl, rfl⟩
theorem ok_Ix_get (Fn : FnP K "__getitem__" "Index.__getitem__" d_Index___getitem__ f fd) (T : IndexT K mg) : FnOk P w K mg base (L2.CX P w) 2 f fd ["self", "node"] (spIxGet K) := by
  refine fn_spM Fn sc_Index___getitem__ (fun _ => rfl) ?_
  rintro ⟨a, d, n⟩ hn cdv A outer s H E0 R C ok
  have hn : (lkp d.home n).isSome = true := hn
  show S _ [some ⟨(At.mk a.p)⟩, some ⟨n⟩] (ixC K a d) _ _
  refine S_if (T_dnin ok (E_var 1) (ED.own (E_fldO T.cl T.n4 (E_var 0) imem0 rfl) imem1)) (fun h => ?_) (fun h => ?_)
  · have h : (!(lkp d.home n).isSome) = true := h
    rw [hn] at h; cases h
  · refine S_nil (S_ret (E_dget ok (ED.own (E_fldO T.cl T.n4 (E_var 0) imem0 rfl) imem1) (E_var 1) (y := homeAt d n) ?_) ⟨rfl, rfl⟩)
    unfold homeAt
    cases q : lkp d.home n with
    | none => rw [q] at hn; cases hn
    | some y => rfl
theorem ok_Ix_changed (Fn : FnP K "changed" "Index.changed" d_Index_changed f fd) (T : IndexT K mg) : FnOk P w K mg base (L2.CX P w) 2 f fd ["self"] (spIxChanged K) := by
  refine fn_spM Fn sc_Index_changed (fun _ => rfl) ?_
  rintro ⟨a, d⟩ _ cdv A outer s H E0 R C ok
  show S _ [some ⟨(At.mk a.p)⟩] (ixC K a d) _ _
  exact S_ret (E_tup2 (A_cons (E_biR calR_list (E.imm (as := d.gone) (E_fldO T.cl T.n6 (E_var 0) imem0 rfl)) T.list) (A_cons (E_biR calR_list (E.imm (as := d.made) (E_fldO T.cl T.n7 (E_var 0) imem0 rfl)) T.list) A_nil))) ⟨rfl, rfl⟩
theorem ok_Ix_set (Fn : FnP K "__setitem__" "Index.__setitem__" d_Index___setitem__ f fd) (T : IndexT K mg) (TG : GraphT K mg) (Se : Ms P w K mg base 6 (He.ga K "Graph") "__setitem__" (spGrSet0 K)) (Re : Ms P w K mg base 8 (He.ga K "Index") "renew" (spRenew K)) : FnOk P w K mg base (L2.CX P w) 10 f fd ["self", "node", "label"] (spIxSet K) := by
  refine fn_spM Fn sc_Index___setitem__ (fun _ => rfl) ?_
  rintro ⟨a, d, n, y⟩ ⟨h1, h2⟩ cdv A outer s H E0 R C ok
  show S _ [some ⟨(At.mk a.p)⟩, some ⟨n⟩, some ⟨y⟩] (ixC K a d) _ _
  refine S_setO (a.ga, d.g, n, y) ok TG.ns Se (E_var 2) (E_fldO T.cl T.n2 (E_var 0) imem0 rfl) (E_var 1) rfl h1 (LR := [Cell.obj a.p (He.ga K "Index") a.dx (ixF a d), Cell.dic a.hd d.home]) (List.perm_append_comm (l₁ := [Cell.obj a.p (He.ga K "Index") a.dx (ixF a d), Cell.dic a.hd d.home])) (Seen.obj (List.mem_cons_of_mem _ (List.mem_cons_of_mem _ mem0))) ?_ (fun _ _ _ z => z.elim)
  rintro _ _ ⟨rfl, rfl⟩
  refine S_perm (L' := ixC K a ⟨d.w, setG d.g n y, d.rows, d.home, d.used, d.gone, d.made⟩) ?_ (List.perm_append_comm (l₁ := [Cell.obj a.p (He.ga K "Index") a.dx (ixF a d), Cell.dic a.hd d.home]) (l₂ := grC K a.ga (setG d.g n y)))
  refine S_exprM (EM_meth0 (a, ⟨d.w, setG d.g n y, d.rows, d.home, d.used, d.gone, d.made⟩) ok T.cl Re (E_var 0) rfl h2 (LR := []) (by rw [List.append_nil]) (SeenM.obj imem0)) ?_ (fun _ _ _ ⟨_, z, _⟩ => z.elim)
  rintro _ _ ⟨_, ⟨hd, rfl, rfl⟩, rfl⟩
  refine S_nil ⟨hd, rfl, ?_⟩
  rw [List.append_nil]
  rfl
theorem ok_Ix_init (Fn : FnP K "__init__" "Index.__init__" d_Index___init__ f fd) (T : IndexT K mg) (TG : GraphT K mg) (Co : Ms P w K mg base 4 (He.ga K "Graph") "copied" (spCopied K)) (Re : Ms P w K mg base 8 (He.ga K "Index") "renew" (spRenew K)) : FnOk P w K mg base (L2.CX P w) 10 f fd ["self", "graph", "word"] (spIxInit K) := by
  refine fn_spM Fn sc_Index___init__ (fun _ => rfl) ?_
  rintro ⟨p, dx, ga, g, wd⟩ ⟨gok, cok⟩ cdv A outer s H E0 R C ok
  have gok : GOk g := gok
  have cok : GOk (copyF g) := cok
  show S _ [some ⟨(At.mk p)⟩, some ⟨(At.mk ga.p)⟩, some ⟨wd⟩] (Cell.obj p (He.ga K "Index") dx [] :: grC K ga g) _ _
  refine S_fld 0 T.cl T.n1 (E_var 0) (E_var 2) rfl ?_
  refine S_fldM T.cl T.n2 (EM_meth0 (ga, g) ok TG.cl Co (E_var 1) rfl gok (LR := [Cell.obj p (He.ga K "Index") dx [("word", ⟨wd⟩)]]) (List.perm_append_comm (l₁ := [Cell.obj p (He.ga K "Index") dx [("word", ⟨wd⟩)]])) (SeenM.obj (List.mem_cons_of_mem _ mem0))) (fun _ _ _ ⟨_, z, _⟩ => z.elim) ?_
  rintro _ _ ⟨_, ⟨b, rfl, rfl⟩, rfl⟩
  refine ⟨p, dx, [("word", ⟨wd⟩)], 8, E_var 0, rfl, by show 1 < 1000; decide, ?_⟩
  refine S_perm (L' := Cell.obj p (He.ga K "Index") dx [("word", ⟨wd⟩), ("held", ⟨(At.mk b.p)⟩)] :: (grC K b (copyF g) ++ grC K ga g)) ?_ (List.perm_append_comm (l₁ := [Cell.obj p (He.ga K "Index") dx [("word", ⟨wd⟩), ("held", ⟨(At.mk b.p)⟩)]]) (l₂ := grC K b (copyF g) ++ grC K ga g))
  refine S_fld 0 T.cl T.n3 (E_var 0) (E_lst ([] : List Bk) A_nil) rfl ?_ (by show 2 < 1000; decide)
  refine S_fldM T.cl T.n4 (EM_dnew Int Bk) (fun _ _ _ z => z.elim) ?_
  rintro _ _ ⟨h0, rfl, rfl⟩
  refine ⟨p, dx, _, 1, E_var 0, rfl, by show 3 < 1000; decide, ?_⟩
  refine S_fld 1 T.cl T.n5 (E_var 0) E_int rfl ?_ (by show 4 < 1000; decide)
  refine S_fld 1 T.cl T.n6 (E_var 0) (E_lst ([] : List Int) A_nil) rfl ?_ (by show 5 < 1000; decide)
  refine S_fld 1 T.cl T.n7 (E_var 0) (E_lst ([] : List Int) A_nil) rfl ?_ (by show 6 < 1000; decide)
  refine S_perm (L' := ixC K ⟨p, dx, h0, b⟩ (XD.mk0 wd g) ++ grC K ga g) ?_ (List.Perm.swap _ _ _)
  refine S_exprM (EM_meth0 (⟨p, dx, h0, b⟩, XD.mk0 wd g) ok T.cl Re (E_var 0) rfl ⟨cok, by show 0 ≤ 1000; decide, fun c hc => by cases hc⟩ (LR := grC K ga g) (List.Perm.refl _) (SeenM.obj (List.mem_append_left _ imem0))) ?_ (fun _ _ _ ⟨_, z, _⟩ => z.elim)
  rintro _ _ ⟨_, ⟨hd, rfl, rfl⟩, rfl⟩
  refine S_fld 0 T.cl T.n7 (E_var 0) (E_lst ([] : List Int) A_nil) rfl ?_ (by show 7 < 1000; decide)
  exact S_nil ⟨rfl, hd, b, rfl⟩
end

theorem set_ok {g : GD} {n : Int} {y : Str} (h : GOk g) (hn : n ∈ g.rows) : GOk (setG g n y) := by
  have e : setG g n y = { g with told := putA g.told n y } := by unfold setG; rw [h.told n hn]; rfl
  rw [e]
  refine ⟨⟨h.sm.rows, ?_, h.sm.ups, h.sm.downs⟩, fun m hm => ?_, h.ups, h.downs, h.up, h.down⟩
  · show (putA g.told n y).length ≤ 60
    unfold putA
    rw [if_pos (h.told n hn), List.length_map]
    exact h.sm.told
  · show (lkp (putA g.told n y) m).isSome = true
    rw [lkp_put]
    split
    · rfl
    · exact h.told m hm
/-! ### what an index holds -/
structure Pts (G : List (List Int)) : Prop where
  ne : ∀ v ∈ G, v ≠ []
  one : ∀ (i j : Nat) v w x, G[i]? = some v → G[j]? = some w → x ∈ v → x ∈ w → i = j
theorem grp_pts (f : Int → Int) (ns : List Int) : Pts (grp f ns) := by
  obtain ⟨m, gi⟩ := grp_M f ns
  refine ⟨fun v hv => (gi.mem v hv).1, fun i j v w x hi hj hv hw => ?_⟩
  have h1 := m.same v (List.mem_of_getElem? hi) x hv
  have h2 := m.same w (List.mem_of_getElem? hj) x hw
  have e1 : ((grp f ns).map fun v => f (hdI v))[i]? = some (f x) := by rw [List.getElem?_map, hi, h1]; rfl
  have e2 : ((grp f ns).map fun v => f (hdI v))[j]? = some (f x) := by rw [List.getElem?_map, hj, h2]; rfl
  exact nodup_at gi.nd e1 e2
def blkF (lb : Int → Str) (G : List (List Int)) : List Bk := (List.range G.length).map fun (k : Nat) => ⟨(k : Int), lb (hdI (G.getD k [])), G.getD k []⟩
theorem blkF_len {lb G} : (blkF lb G).length = G.length := by unfold blkF; rw [List.length_map, List.length_range]
theorem blkF_at {lb : Int → Str} {G : List (List Int)} {k : Nat} {v : List Int} (h : G[k]? = some v) : (blkF lb G)[k]? = some ⟨(k : Int), lb (hdI v), v⟩ := by
  have hlt := (List.getElem?_eq_some_iff.mp h).1
  unfold blkF
  rw [List.getElem?_map, List.getElem?_range hlt]
  have e : G.getD k [] = v := by rw [List.getD_eq_getElem?_getD, h]; rfl
  show some (Bk.mk (k : Int) (lb (hdI (G.getD k []))) (G.getD k [])) = _
  rw [e]
theorem blkF_mem {lb : Int → Str} {G : List (List Int)} {b : Bk} (h : b ∈ blkF lb G) : ∃ (k : Nat) (v : List Int), G[k]? = some v ∧ b = ⟨(k : Int), lb (hdI v), v⟩ := by
  obtain ⟨k, hk⟩ := List.mem_iff_getElem?.mp h
  have hlt := (List.getElem?_eq_some_iff.mp hk).1
  rw [blkF_len] at hlt
  have e := List.getElem?_eq_getElem hlt
  rw [blkF_at e] at hk
  exact ⟨k, _, e, (Option.some.inj hk).symm⟩
theorem renS_new {g : GD} {lb : Int → Str} {G : List (List Int)} (h : ∀ v ∈ G, lab g (hdI v) = lb (hdI v)) : ∀ i, i ≤ G.length → renS g [] 0 (G.take i) = ⟨[], (blkF lb G).take i, (i : Int)⟩
  | 0, _ => rfl
  | i + 1, hi => by
    have hlt : i < G.length := hi
    have e := List.getElem?_eq_getElem hlt
    rw [renS_take e, renS_new h i (by omega)]
    unfold renStep
    rw [lkp_nil]
    show RS.mk _ _ _ = _
    rw [List.take_add_one (l := blkF lb G), blkF_at e, h _ (List.getElem_mem hlt)]
    rfl
theorem renS_old {g : GD} {old : List (P2 Str (Tup Int) × Bk)} {u : Int} {lb : Int → Str} {G : List (List Int)} (h : ∀ (i : Nat) v, G[i]? = some v → lkp old (P2.mk (lab g (hdI v)) (Tup.mk v)) = some ⟨(i : Int), lb (hdI v), v⟩) : ∀ i, i ≤ G.length → renS g old u (G.take i) = ⟨(List.range i).map fun (k : Nat) => (k : Int), [], u⟩
  | 0, _ => rfl
  | i + 1, hi => by
    have hlt : i < G.length := hi
    have e := List.getElem?_eq_getElem hlt
    rw [renS_take e, renS_old h i (by omega)]
    unfold renStep
    rw [h i _ e]
    show RS.mk _ _ _ = _
    rw [List.range_succ, List.map_append]
    rfl
theorem lkp_puts {α κ β : Type} [DecidableEq κ] (fk : α → κ) (fv : α → β) (key : κ) (b : β) : ∀ (as : List α) (m : List (κ × β)), (∀ a ∈ as, fk a = key → fv a = b) → lkp (as.foldl (fun m a => putA m (fk a) (fv a)) m) key = if as.any (fun a => decide (fk a = key)) then some b else lkp m key
  | [], m, _ => rfl
  | a :: as, m, h => by
    rw [List.foldl_cons, lkp_puts fk fv key b as _ fun c hc => h c (List.mem_cons_of_mem _ hc), lkp_put, List.any_cons]
    by_cases q : fk a = key
    · rw [if_pos (c := key = fk a) q.symm, h a List.mem_cons_self q, decide_eq_true q]
      split <;> rfl
    · rw [if_neg (c := key = fk a) fun z => q z.symm, decide_eq_false q]
      rfl
theorem mem_prs {α β : Type} {as : List α} {bs : α → List β} {p : α × β} : p ∈ prs as bs ↔ p.1 ∈ as ∧ p.2 ∈ bs p.1 := by
  unfold prs
  rw [List.mem_flatMap]
  constructor
  · rintro ⟨a, ha, h⟩
    obtain ⟨b, hb, rfl⟩ := List.mem_map.mp h
    exact ⟨ha, hb⟩
  · rintro ⟨h1, h2⟩
    exact ⟨p.1, h1, List.mem_map.mpr ⟨p.2, h2, rfl⟩⟩
theorem lkp_homeF {rows : List Bk} {n : Int} {b : Bk} (h : ∀ c ∈ rows, n ∈ c.m → c = b) : lkp (homeF rows) n = if rows.any (fun c => decide (n ∈ c.m)) then some b else none := by
  unfold homeF dcP
  have e := lkp_puts (fun p : Bk × Int => p.2) (fun p : Bk × Int => p.1) n b (prs rows fun b : Bk => b.m) [] fun p hp hn => by
    obtain ⟨h1, h2⟩ := mem_prs.mp hp
    have hn : p.2 = n := hn
    exact h _ h1 (hn ▸ h2)
  refine e.trans ?_
  have e2 : ((prs rows fun b : Bk => b.m).any fun a => decide (a.2 = n)) = rows.any fun c => decide (n ∈ c.m) := by
    rw [Bool.eq_iff_iff, List.any_eq_true, List.any_eq_true]
    constructor
    · rintro ⟨p, hp, hn⟩
      obtain ⟨h1, h2⟩ := mem_prs.mp hp
      exact ⟨p.1, h1, decide_eq_true (of_decide_eq_true hn ▸ h2)⟩
    · rintro ⟨c, hc, hn⟩
      exact ⟨(c, n), mem_prs.mpr ⟨hc, of_decide_eq_true hn⟩, decide_eq_true rfl⟩
  rw [e2]
  rfl
theorem home_in {lb : Int → Str} {G : List (List Int)} {k : Nat} {v : List Int} {n : Int} (p : Pts G) (h : G[k]? = some v) (hn : n ∈ v) : lkp (homeF (blkF lb G)) n = some ⟨(k : Int), lb (hdI v), v⟩ := by
  rw [lkp_homeF (b := ⟨(k : Int), lb (hdI v), v⟩), if_pos]
  · rw [List.any_eq_true]
    exact ⟨_, List.mem_of_getElem? (blkF_at h), decide_eq_true hn⟩
  · intro c hc hm
    obtain ⟨j, w, hj, rfl⟩ := blkF_mem hc
    have : j = k := p.one j k w v n hj h hm hn
    subst this
    rw [h] at hj
    cases hj
    rfl
theorem home_out {lb : Int → Str} {G : List (List Int)} {n : Int} (h : ∀ v ∈ G, n ∉ v) : lkp (homeF (blkF lb G)) n = none := by
  rw [lkp_homeF (b := ⟨0, "", []⟩), if_neg]
  · rw [List.any_eq_true]
    rintro ⟨c, hc, hm⟩
    obtain ⟨j, w, hj, rfl⟩ := blkF_mem hc
    exact h w (List.mem_of_getElem? hj) (of_decide_eq_true hm)
  · intro c hc hm
    obtain ⟨j, w, hj, rfl⟩ := blkF_mem hc
    exact absurd hm (h w (List.mem_of_getElem? hj))
theorem old_at {g : GD} {lb : Int → Str} {G : List (List Int)} {i : Nat} {v : List Int} (p : Pts G) (h : G[i]? = some v) (hl : lab g (hdI v) = lb (hdI v)) : lkp (oldF (blkF lb G)) (P2.mk (lab g (hdI v)) (Tup.mk v)) = some ⟨(i : Int), lb (hdI v), v⟩ := by
  unfold oldF dcF
  rw [List.filter_eq_self.mpr fun _ _ => rfl, hl, lkp_puts (b := ⟨(i : Int), lb (hdI v), v⟩), if_pos]
  · rw [List.any_eq_true]
    exact ⟨_, List.mem_of_getElem? (blkF_at h), decide_eq_true rfl⟩
  · intro c hc hk
    obtain ⟨j, w, hj, rfl⟩ := blkF_mem hc
    have e : w = v := congrArg (fun q : P2 Str (Tup Int) => q.b.l) hk
    subst e
    have : j = i := p.one j i w w (hdI w) hj h (hdI_mem (p.ne _ (List.mem_of_getElem? h))) (hdI_mem (p.ne _ (List.mem_of_getElem? h)))
    subst this
    rfl
/-! ### the graph of an index -/
def labI (ns : List Int) (ls : List Str) (x : Int) : Str := ls.getD (ixIn ns x) ""
theorem labI_at {ns : List Int} {ls : List Str} {x : Int} (hl : ls.length = ns.length) (hx : x ∈ ns) : ls[ixIn ns x]? = some (labI ns ls x) := by
  have h := ixIn_lt hx
  unfold labI
  rw [List.getD_eq_getElem?_getD, List.getElem?_eq_getElem (by omega)]; rfl
theorem fit_lab {ns ls net g} (d : Drawn ns ls net) (h : GFit ns ls net g) {x : Int} (hx : x ∈ ns) : lab g x = labI ns ls x ∧ lkp g.told x = some (labI ns ls x) := by
  have e := h.told _ _ _ (ixIn_at hx) (labI_at d.len hx)
  refine ⟨?_, e⟩
  unfold lab
  rw [e]; rfl
theorem copy_fit {ns ls net g} (d : Drawn ns ls net) (h : GFit ns ls net g) : GFit ns ls net (copyF g) := by
  have hm : ∀ {i : Nat} {n : Int}, ns[i]? = some n → n ∈ g.rows := fun hi => h.rows.mem_iff.mpr (List.mem_of_getElem? hi)
  refine ⟨h.rows, fun i n y hn hy => ?_, fun i n hn x => ?_, fun i n hn x => ?_⟩
  · show lkp (dcF _ _ _ g.rows) n = _
    rw [lkp_dcF, if_pos (hm hn)]
    unfold lab
    rw [h.told i n y hn hy]; rfl
  · rw [← h.downs i n hn x]
    unfold nbr
    show x ∈ (lkp (dcF (fun n : Int => n) (nbr g.downs) _ g.rows) n).getD [] ↔ _
    rw [lkp_dcF, if_pos (hm hn)]; rfl
  · rw [← h.ups i n hn x]
    unfold nbr
    show x ∈ (lkp (dcF (fun n : Int => n) (nbr g.ups) _ g.rows) n).getD [] ↔ _
    rw [lkp_dcF, if_pos (hm hn)]; rfl
theorem copy_ok {g} (h : GOk g) : GOk (copyF g) := by
  have s1 := h.sm.rows
  have l1 := dcF_le (fun n : Int => n) (lab g) (fun _ => true) g.rows
  have l2 := dcF_le (fun n : Int => n) (nbr g.ups) (fun _ => true) g.rows
  have l3 := dcF_le (fun n : Int => n) (nbr g.downs) (fun _ => true) g.rows
  have eu : ∀ n ∈ g.rows, nbr (dcF (fun n : Int => n) (nbr g.ups) (fun _ => true) g.rows) n = nbr g.ups n := fun n hn => by
    show (lkp (dcF (fun n : Int => n) (nbr g.ups) _ g.rows) n).getD [] = _
    rw [lkp_dcF, if_pos hn]; rfl
  have ed : ∀ n ∈ g.rows, nbr (dcF (fun n : Int => n) (nbr g.downs) (fun _ => true) g.rows) n = nbr g.downs n := fun n hn => by
    show (lkp (dcF (fun n : Int => n) (nbr g.downs) _ g.rows) n).getD [] = _
    rw [lkp_dcF, if_pos hn]; rfl
  refine ⟨⟨s1, Nat.le_trans l1 s1, Nat.le_trans l2 s1, Nat.le_trans l3 s1⟩, fun n hn => ?_, fun n hn => ?_, fun n hn => ?_, fun n hn => ?_, fun n hn => ?_⟩
  · show (lkp (dcF _ _ _ g.rows) n).isSome = true
    rw [lkp_dcF, if_pos (show n ∈ g.rows from hn)]; rfl
  · show (lkp (dcF _ _ _ g.rows) n).isSome = true
    rw [lkp_dcF, if_pos (show n ∈ g.rows from hn)]; rfl
  · show (lkp (dcF _ _ _ g.rows) n).isSome = true
    rw [lkp_dcF, if_pos (show n ∈ g.rows from hn)]; rfl
  · show (∀ x ∈ nbr (dcF (fun n : Int => n) (nbr g.ups) (fun _ => true) g.rows) n, x ∈ g.rows) ∧ (nbr (dcF (fun n : Int => n) (nbr g.ups) (fun _ => true) g.rows) n).length ≤ 60
    rw [eu n hn]; exact h.up n hn
  · show (∀ x ∈ nbr (dcF (fun n : Int => n) (nbr g.downs) (fun _ => true) g.rows) n, x ∈ g.rows) ∧ (nbr (dcF (fun n : Int => n) (nbr g.downs) (fun _ => true) g.rows) n).length ≤ 60
    rw [ed n hn]; exact h.down n hn
theorem groups_fit {ns ls net g} (d : Drawn ns ls net) (h : GFit ns ls net g) (hr : g.rows = sortI ns) (cs : List Str) : grp (mkOf (kindsF g cs)) g.rows = grp (fun x => kAt (kindsL ls net cs) (ixIn ns x)) (sortI ns) := by
  rw [hr]
  refine grp_congr fun x hx y hy => ?_
  have hx := (sortI_perm ns).mem_iff.mp hx
  have hy := (sortI_perm ns).mem_iff.mp hy
  have h := (kinds_iff d h cs cs.length (Nat.le_refl _)).1 _ _ _ _ (ixIn_at hx) (ixIn_at hy)
  rwa [List.take_length] at h
def grL (ns : List Int) (ls : List Str) (net : List (List Bool)) (cs : List Str) : List (List Int) := grp (fun x => kAt (kindsL ls net cs) (ixIn ns x)) (sortI ns)
theorem grL_mem {ns ls net cs} {v : List Int} (h : v ∈ grL ns ls net cs) : v ≠ [] ∧ ∀ x ∈ v, x ∈ ns := by
  obtain ⟨h1, h2⟩ := (grp_M _ (sortI ns)).2.mem v h
  exact ⟨h1, fun x hx => (sortI_perm ns).mem_iff.mp (h2 x hx)⟩
theorem grL_few {ns ls net cs} (d : Drawn ns ls net) : (grL ns ls net cs).length ≤ 1000 ∧ ∀ v ∈ grL ns ls net cs, v.length ≤ 1000 := grp_few (by rw [(sortI_perm ns).length_eq]; exact d.few)
theorem lab_same {ns ls net cs} (d : Drawn ns ls net) {v : List Int} (hv : v ∈ grL ns ls net cs) {x : Int} (hx : x ∈ v) : labI ns ls x = labI ns ls (hdI v) := by
  obtain ⟨h1, h2⟩ := grL_mem hv
  have xn := h2 x hx
  have hn := h2 _ (hdI_mem h1)
  have e := (grp_M (fun x => kAt (kindsL ls net cs) (ixIn ns x)) (sortI ns)).1.same v hv x hx
  have e2 := kinds_finer d _ cs [] rfl (List.nil_sublist _) _ _ (ixIn_lt xn) (ixIn_lt hn) e
  have e3 : kAt (firsts ls) (ixIn ns x) = kAt (firsts ls) (ixIn ns (hdI v)) := e2
  have a1 := labI_at d.len xn
  have a2 := labI_at d.len hn
  rw [firsts_at a1, firsts_at a2] at e3
  exact (ixIn_inj (List.mem_of_getElem? a1) (List.mem_of_getElem? a2)).mp (by omega)
/-- an index of the drawn graph -/
structure IxS (ns : List Int) (ls : List Str) (net : List (List Bool)) (wd : Wd) (d : XD) : Prop where
  w : d.w = wd
  rows : d.rows = blkF (labI ns ls) (grL ns ls net (signs wd.t))
  home : d.home = homeF (blkF (labI ns ls) (grL ns ls net (signs wd.t)))
  gone : d.gone = []
  made : d.made = []
  fit : GFit ns ls net d.g
  so : d.g.rows = sortI ns
  ok : GOk d.g
theorem newX_ok {ns ls net} (d : Drawn ns ls net) (wd : Wd) : IxS ns ls net wd (newX wd (madeF ns ls net)) := by
  have hf := copy_fit d (made_fit d)
  have hr : (copyF (madeF ns ls net)).rows = sortI ns := made_rows d
  have hR : renR (XD.mk0 wd (madeF ns ls net)) = ⟨[], blkF (labI ns ls) (grL ns ls net (signs wd.t)), ((grL ns ls net (signs wd.t)).length : Int)⟩ := by
    unfold renR clsF
    show renS (copyF (madeF ns ls net)) [] 0 (grp (mkOf (kindsF (copyF (madeF ns ls net)) (signs wd.t))) (copyF (madeF ns ls net)).rows) = _
    rw [groups_fit d hf hr]
    have h := renS_new (g := copyF (madeF ns ls net)) (lb := labI ns ls) (G := grL ns ls net (signs wd.t)) (fun v hv => by
      obtain ⟨h1, h2⟩ := grL_mem hv
      exact (fit_lab d hf (h2 _ (hdI_mem h1))).1) (grL ns ls net (signs wd.t)).length (Nat.le_refl _)
    rw [List.take_length, List.take_of_length_le (by rw [blkF_len]; exact Nat.le_refl _)] at h
    exact h
  have hrows : (renewF (XD.mk0 wd (madeF ns ls net))).rows = blkF (labI ns ls) (grL ns ls net (signs wd.t)) := by
    show [] ++ (renR _).made = _
    rw [hR]; rfl
  refine ⟨rfl, hrows, ?_, rfl, rfl, hf, hr, copy_ok ((made_ok d).ok d.few)⟩
  show homeF (renewF (XD.mk0 wd (madeF ns ls net))).rows = _
  rw [hrows]
theorem set_same {ns ls net g} (d : Drawn ns ls net) (h : GFit ns ls net g) {n : Int} (hn : n ∈ ns) : GFit ns ls net (setG g n (labI ns ls n)) ∧ (setG g n (labI ns ls n)).rows = g.rows := by
  have e1 := (fit_lab d h hn).2
  have e : setG g n (labI ns ls n) = { g with told := putA g.told n (labI ns ls n) } := by unfold setG; rw [e1]; rfl
  rw [e]
  refine ⟨⟨h.rows, fun i m y hm hy => ?_, h.downs, h.ups⟩, rfl⟩
  show lkp (putA g.told n (labI ns ls n)) m = some y
  rw [lkp_put]
  split
  · rename_i q
    subst q
    rw [← e1, h.told i _ y hm hy]
  · exact h.told i m y hm hy
theorem setX_ok {ns ls net wd x} (d : Drawn ns ls net) (h : IxS ns ls net wd x) {n : Int} (hn : n ∈ ns) : IxS ns ls net wd (setX x n (labI ns ls n)) := by
  obtain ⟨sf, sr⟩ := set_same d h.fit hn
  have hr : (setG x.g n (labI ns ls n)).rows = sortI ns := sr.trans h.so
  have hR : renR ⟨x.w, setG x.g n (labI ns ls n), x.rows, x.home, x.used, x.gone, x.made⟩ = ⟨(List.range (grL ns ls net (signs wd.t)).length).map fun (k : Nat) => (k : Int), [], x.used⟩ := by
    unfold renR clsF
    show renS (setG x.g n (labI ns ls n)) (oldF x.rows) x.used (grp (mkOf (kindsF (setG x.g n (labI ns ls n)) (signs x.w.t))) (setG x.g n (labI ns ls n)).rows) = _
    rw [groups_fit d sf hr, h.w, h.rows]
    have e := renS_old (g := setG x.g n (labI ns ls n)) (old := oldF (blkF (labI ns ls) (grL ns ls net (signs wd.t)))) (u := x.used) (lb := labI ns ls) (G := grL ns ls net (signs wd.t)) (fun i v hi => by
      obtain ⟨h1, h2⟩ := grL_mem (List.mem_of_getElem? hi)
      exact old_at (grp_pts _ _) hi (fit_lab d sf (h2 _ (hdI_mem h1))).1) (grL ns ls net (signs wd.t)).length (Nat.le_refl _)
    rw [List.take_length] at e
    exact e
  have keep : ∀ b ∈ blkF (labI ns ls) (grL ns ls net (signs wd.t)), b.n ∈ (List.range (grL ns ls net (signs wd.t)).length).map fun (k : Nat) => (k : Int) := fun b hb => by
    obtain ⟨k, v, hk, rfl⟩ := blkF_mem hb
    exact List.mem_map.mpr ⟨k, List.mem_range.mpr (List.getElem?_eq_some_iff.mp hk).1, rfl⟩
  have hrows : (setX x n (labI ns ls n)).rows = blkF (labI ns ls) (grL ns ls net (signs wd.t)) := by
    show List.filter _ x.rows ++ (renR _).made = _
    rw [hR, h.rows, List.append_nil]
    exact List.filter_eq_self.mpr fun b hb => decide_eq_true (keep b hb)
  refine ⟨h.w, hrows, ?_, ?_, ?_, sf, hr, set_ok h.ok (by rw [h.so]; exact (sortI_perm ns).mem_iff.mpr hn)⟩
  · show homeF (setX x n (labI ns ls n)).rows = _
    rw [hrows]
  · show (List.filter _ x.rows).map _ = []
    rw [hR, h.rows, List.filter_eq_nil_iff.mpr fun b hb => by rw [decide_eq_true (keep b hb)]; decide]
    rfl
  · show (renR _).made.map _ = []
    rw [hR]; rfl
theorem ixs_ok {ns ls net wd x} (d : Drawn ns ls net) (h : IxS ns ls net wd x) {n : Int} (hn : n ∈ ns) (y : Str) : XOk ⟨x.w, setG x.g n y, x.rows, x.home, x.used, x.gone, x.made⟩ := by
  obtain ⟨f1, f2⟩ := grL_few (cs := signs wd.t) d
  refine ⟨set_ok h.ok (by rw [h.so]; exact (sortI_perm ns).mem_iff.mpr hn), ?_, fun b hb => ?_⟩
  · show x.rows.length ≤ 1000
    rw [h.rows, blkF_len]; exact f1
  · have hb : b ∈ x.rows := hb
    rw [h.rows] at hb
    obtain ⟨k, v, hk, rfl⟩ := blkF_mem hb
    exact f2 v (List.mem_of_getElem? hk)

/-! ### the text of a block -/
def bkTxt (b : Bk) : Str := catS [Txt.rjust (strI b.n) 4, (" " : Str), Txt.ljust b.l 8, (" " : Str), joinS (" " : Str) (b.m.map strI)]
structure BkT (b : Bk) : Prop where
  n : ∃ m : Nat, b.n = (m : Int) ∧ m < 1000000
  l : b.l.length ≤ 1000
  m : ∀ x ∈ b.m, ∃ m : Nat, x = (m : Int) ∧ m < 1000000
  len : b.m.length ≤ 1000
def spBkStr (K : PySem.W.Frag) : Sp := spF (γ := Bk) K (fun b => [⟨b⟩]) (fun b => BkT b) (fun b => ⟨bkTxt b⟩)
theorem sum_le {ys : List Str} {k : Nat} (h : ∀ y ∈ ys, y.length ≤ k) : (ys.map (·.length)).sum ≤ ys.length * k := by
  induction ys with
  | nil => exact Nat.zero_le _
  | cons y ys ih =>
    have h1 := h y List.mem_cons_self
    have h2 := ih fun z hz => h z (List.mem_cons_of_mem _ hz)
    rw [List.map_cons, List.sum_cons, List.length_cons, Nat.succ_mul]
    omega
theorem nums_le {xs : List Int} (h : ∀ x ∈ xs, ∃ m : Nat, x = (m : Int) ∧ m < 1000000) : ∀ y ∈ xs.map strI, y.length ≤ 6 := fun y hy => by
  obtain ⟨x, hx, rfl⟩ := List.mem_map.mp hy
  obtain ⟨m, rfl, hm⟩ := h x hx
  exact strI_le (by decide) (by omega)
theorem joins_le {xs : List Int} (h : ∀ x ∈ xs, ∃ m : Nat, x = (m : Int) ∧ m < 1000000) (hl : xs.length ≤ 1000) : ((xs.map strI).map (·.length)).sum + (xs.map strI).length * (" " : Str).length ≤ 16777216 := by
  have h1 := sum_le (nums_le h)
  rw [List.length_map] at h1 ⊢
  have : (" " : Str).length = 1 := by decide
  rw [this]
  omega
theorem joinS_le {xs : List Int} (h : ∀ x ∈ xs, ∃ m : Nat, x = (m : Int) ∧ m < 1000000) (hl : xs.length ≤ 1000) : (joinS (" " : Str) (xs.map strI)).length ≤ 7000 := by
  have h1 := joinS_len (" " : Str) (xs.map strI)
  have h2 := sum_le (nums_le h)
  have : (" " : Str).length = 1 := by decide
  rw [this] at h1
  rw [List.length_map] at h1 h2
  omega
theorem bkTxt_len {b : Bk} (h : BkT b) : (bkTxt b).length ≤ sizeLine := by
  have h1 := joinS_le h.m h.len
  obtain ⟨m, e, hm⟩ := h.n
  have h2 := strI_le (k := 6) (by decide) (m := m) (by omega)
  have h3 := h.l
  have a1 := rjust_len (strI b.n) 4
  have a2 := ljust_len b.l 8
  have e1 : (" " : Str).length = 1 := by decide
  have e0 : (Str.empty).length = 0 := rfl
  unfold bkTxt
  show (Txt.rjust (strI b.n) 4 ++ ((" " : Str) ++ (Txt.ljust b.l 8 ++ ((" " : Str) ++ (joinS (" " : Str) (b.m.map strI) ++ Str.empty))))).length ≤ _
  rw [str_len_append, str_len_append, str_len_append, str_len_append, str_len_append, sizeLine_eq]
  rw [e] at a1 ⊢
  have a1 : (Txt.rjust (strI (m : Int)) 4).length = max 4 (strI (m : Int)).length := a1
  have a2 : (Txt.ljust b.l 8).length = max 8 b.l.length := a2
  rw [a1, a2]
  omega
section
variable {P : Program} {w : World} {K : PySem.W.Frag} {mg : Str → Option Value} {base : Heap} {f : Addr} {fd : FuncData}
theorem ok_Bk_str (Fn : FnP K "__str__" "Block.__str__" d_Block___str__ f fd) (T : BlockT K mg) (hst : mg "str" = none) : FnOk P w K mg base (L2.CX P w) 2 f fd ["self"] (spBkStr K) := by
  refine fn_spM Fn sc_Block___str__ (fun _ => rfl) ?_
  rintro b h cdv A outer s H E0 R C ok
  have h : BkT b := h
  have e9 := sizeLine_eq
  show S _ [some ⟨b⟩, none, none] _ _ _
  refine S_set 1 ok.nd (r := ⟨joinS (" " : Str) (picks strI (fun _ => true) b.m)⟩) (E_join E_str (E_lc [("node", 2)] strI (fun _ => true) ok (EI_list (E_fld (y := b.m) T.cl T.n3 (bk_fld rfl) (E_var 0))) ?_).imm ?_) ?_
  · intro i x hx
    refine ⟨_, _, ?_, fun R s H C0 cl fp okb => ⟨G_name 2 okb.nd, Ts_nil, fun _ => ?_⟩⟩
    · intro x hx
      exact hx
    · obtain ⟨m, rfl, hm⟩ := h.m x (List.mem_of_getElem? hx)
      exact E_bi (cal_strI (Nat.lt_trans hm (by decide))) (A_cons (E_var 2) A_nil) hst
  · rw [picks_all]
    exact joins_le h.m h.len
  rw [picks_all]
  obtain ⟨m, e, hm⟩ := h.n
  have hz := bkTxt_len h
  refine S_ret (E_fstr (ys := [Txt.rjust (strI (m : Int)) 4, (" " : Str), Txt.ljust b.l 8, (" " : Str), joinS (" " : Str) (b.m.map strI)]) (FJ_cons (E_fmtI4 (by rw [← e]; exact E_fld (y := b.n) T.cl T.n1 (bk_fld rfl) (E_var 0)) (Nat.lt_trans hm (by decide))) (FJ_cons E_str (FJ_cons (E_fmtS8 (E_fld (y := b.l) T.cl T.n2 (bk_fld rfl) (E_var 0)) h.l) (FJ_cons E_str (FJ_cons (E_fmtS (E_var 1)) FJ_nil))))) (by rw [← e]; exact hz)) ⟨?_, rfl⟩
  rw [← e]
  rfl
end

/-! ### Index(a graph that is made, a word) -/
theorem EM_made {C : Cz} {k : Nat} {env : Env} {L : List Cell} {e1 e2 e3 : Expr} {p pos : Pos} {ns : List Int} {ls : List Str} {net : List (List Bool)} (ok : C.Ok k) (Ma : Hs C.X.prog C.X.w C.X.K C.X.mg C.X.base 8 "_law_made" (spMade C.X.K)) (h1 : E C env L e1 ⟨ns⟩) (h2 : E C env L e2 ⟨ls⟩) (h3 : E C env L e3 ⟨net⟩) (dx : DrawnX ns ls net) (hj : 8 ≤ k := by decide) (hg : Gl C.X "_law_made" := by rfl)
    (he1 : starEach [e1, e2, e3] C.X.env = (false, eval e1 C.X.env) :: starEach [e2, e3] C.X.env := by rfl) (he2 : starEach [e2, e3] C.X.env = (false, eval e2 C.X.env) :: starEach [e3] C.X.env := by rfl) (he3 : starEach [e3] C.X.env = (false, eval e3 C.X.env) :: starEach [] C.X.env := by rfl) (hpl : (backTo pos (starEach [e2, e3] C.X.env)).any (·.1) = false := by rfl) :
    EM C env L (.Call (.Name "_law_made" p) [e1, e2, e3] [] pos) (fun r L' => ∃ a : GA, r = ⟨(At.mk a.p)⟩ ∧ L' = grC C.X.K a (madeF ns ls net) ++ L) (fun _ _ _ => False) := by
  refine EM.imp (EM_call (ns, ls, net) ok Ma (A_cons h1 (A_cons h2 (A_cons h3 A_nil he3) he2) he1) dx (LR := L) (List.Perm.refl _) hj hg (by decide) he1 hpl) ?_ (fun _ _ _ ⟨_, z, _⟩ => z.elim)
  rintro r L' ⟨_, ⟨a, rfl, rfl⟩, rfl⟩
  exact ⟨a, rfl, rfl⟩
theorem EM_IndexM {C : Cz} {k : Nat} {env : Env} {L : List Cell} {e1 e2 : Expr} {p pos : Pos} {g : GD} {wd : Wd} (ok : C.Ok k) (M : Mks C.X.prog C.X.w C.X.K C.X.mg C.X.base 10 (He.ga C.X.K "Index") "Index" (spIxInit C.X.K)) (h1 : EM C env L e1 (fun r L' => ∃ a : GA, r = ⟨(At.mk a.p)⟩ ∧ L' = grC C.X.K a g ++ L) (fun _ _ _ => False)) (h2 : ∀ L', E C env L' e2 ⟨wd⟩) (gok : GOk g) (hj : 11 ≤ k := by decide) (hg : Gl C.X "Index" := by rfl)
    (he1 : starEach [e1, e2] C.X.env = (false, eval e1 C.X.env) :: starEach [e2] C.X.env := by rfl) (he2 : starEach [e2] C.X.env = (false, eval e2 C.X.env) :: starEach [] C.X.env := by rfl) (hpl : (backTo pos (starEach [e2] C.X.env)).any (·.1) = false := by rfl) :
    EM C env L (.Call (.Name "Index" p) [e1, e2] [] pos) (fun r L' => ∃ (xa : XA) (a : GA), r = ⟨(At.mk xa.p)⟩ ∧ L' = ixC C.X.K xa (newX wd g) ++ grC C.X.K a g ++ L) (fun _ _ _ => False) := by
  refine EM_makeA (δ := GA × GD × Wd) (arg := fun d => [⟨(At.mk d.1.p)⟩, ⟨d.2.2⟩]) (cel := fun d => grC C.X.K d.1 d.2.1) (pre := fun d => GOk d.2.1 ∧ GOk (copyF d.2.1)) (post := fun p dx d r L' => r = ⟨()⟩ ∧ ∃ (hd : Addr) (b : GA), L' = ixC C.X.K ⟨p, dx, hd, b⟩ (newX d.2.2 d.2.1) ++ grC C.X.K d.1 d.2.1) ok M (fun _ _ _ _ _ h => h.1) (AM_cons (P2 := fun _ L' rs' L'' => rs' = [⟨wd⟩] ∧ L'' = L') h1 (fun r L' _ => A.am (A_cons (h2 L') A_nil he2)) he1) ?_ hj hg (by decide) he1 hpl
  rintro rs L2 ⟨r, L', rs', ⟨a, rfl, rfl⟩, ⟨rfl, rfl⟩, rfl⟩
  refine ⟨(a, g, wd), L, rfl, ⟨gok, copy_ok gok⟩, List.Perm.refl _, ?_⟩
  rintro p dx L1 ⟨_, hd, b, rfl⟩
  exact ⟨⟨p, dx, hd, b⟩, a, rfl, rfl⟩

/-! ### the law -/
def lineF (ns : List Int) (ls : List Str) (k : Nat) (v : List Int) : Str := Txt.rjust (strI (k : Int)) 4 ++ (" " : Str) ++ Txt.ljust (labI ns ls (hdI v)) 8 ++ (" " : Str) ++ joinS (" " : Str) (v.map strI)
theorem lineF_eq (ns ls k v) : lineF ns ls k v = bkTxt ⟨(k : Int), labI ns ls (hdI v), v⟩ := by
  unfold lineF bkTxt
  show _ = Txt.rjust (strI (k : Int)) 4 ++ ((" " : Str) ++ (Txt.ljust (labI ns ls (hdI v)) 8 ++ ((" " : Str) ++ (joinS (" " : Str) (v.map strI) ++ Str.empty))))
  rw [PySem.Str.append_empty, PySem.Str.append_assoc, PySem.Str.append_assoc, PySem.Str.append_assoc]
theorem label_short {y : Str} (h : isLabel y = true) : y.length ≤ 8 := by
  unfold isLabel at h
  obtain ⟨h1, _⟩ := Bool.and_eq_true_iff.mp h
  rw [Bool.not_eq_true', Bool.or_eq_false_iff] at h1
  have := of_decide_eq_false h1.2
  omega
section
variable {P : Program} {w : World} {K : PySem.W.Frag} {mg : Str → Option Value} {base : Heap} {f : Addr} {fd : FuncData}
theorem ok_law (Fn : FnP K "law" "law" d_law f fd) (T : GraphT K mg) (TI : IndexT K mg) (hr : mg "range" = none) (Ce : Hs P w K mg base 2 "_law_cell" (spCell K)) (Na : Hs P w K mg base 2 "_law_names" (spNames K)) (An : Hs P w K mg base 6 "_law_any_graph" (spAnyGraph K)) (Ma : Hs P w K mg base 8 "_law_made" (spMade K)) (Wo : Hs P w K mg base 4 "_law_word" (spLawWord K)) (Kd : Hs P w K mg base 2 "_law_kinds" (spLawKinds K)) (Gp : Hs P w K mg base 2 "_law_groups" (spGroups K)) (Mw : Mks P w K mg base 2 (He.ga K "Word") "Word" (spWordInit K)) (MI : Mks P w K mg base 10 (He.ga K "Index") "Index" (spIxInit K)) (It : Mi P w K mg base 2 (He.ga K "Index") (spIxIter K)) (Ge : Ms P w K mg base 2 (He.ga K "Index") "__getitem__" (spIxGet K)) (BS : Ms P w K mg base 2 (He.ga K "Block") "__str__" (spBkStr K)) (hst : mg "str" = none) :
    FnOk P w K mg base (L2.CX P w) 12 f fd ["_law_script"] (spLaw K) := by
  refine fn_spM Fn sc_law (fun _ => rfl) ?_
  rintro sc _ cdv A outer s H E0 R C ok
  have e9 := sizeLine_eq
  show S _ [some ⟨(Scr.mk sc)⟩, none, none, none, none, none, none, none, none, none, none, none, none] _ _ _
  refine S_set 1 ok.nd (E_call (cellF sc 2) ok Na (A_cons (E_call (sc, 2) ok Ce (A_cons (E_var 0) (A_cons E_int A_nil)) trivial) A_nil) trivial) ?_
  have hn : namesOk (namesF (cellF sc 2)) := namesF_ok _
  generalize namesF (cellF sc 2) = names at hn
  refine S_setM 2 ok.nd (EM_call (sc, 0, names) ok An (A_cons (E_var 0) (A_cons E_int (A_cons (E_var 1) A_nil))) hn (LR := []) (List.Perm.refl _)) ?_ (fun _ _ _ ⟨_, z, _⟩ => z.elim)
  rintro _ _ ⟨_, ⟨ns, ls, net, dx, rfl, rfl⟩, rfl⟩
  have d := dx.d
  have few := d.few
  show S _ _ [] _ _
  refine S_set 3 ok.nd (E_call (cellF sc 3, 3) ok Wo (A_cons (E_call (sc, 3) ok Ce (A_cons (E_var 0) (A_cons E_int A_nil)) trivial) (A_cons E_int A_nil)) (by show 3 ≤ 900; omega)) ?_
  have k1 : okT (wordF (cellF sc 3) 3) := ⟨(wordF_ok _ _).1, by have := (wordF_ok (cellF sc 3) 3).2; omega⟩
  generalize wordF (cellF sc 3) 3 = w1 at k1
  have hkl : (kindsL ls net (signs w1)).length = ns.length := by rw [kindsL_len, d.len]
  refine S_set 4 ok.nd (E_call (ns, ls, net, kindsL ls net (signs w1)) ok Gp (A_cons (E_var 2) (A_cons (E_call (ls, net, w1) ok Kd (A_cons (E_h3b (t := H3.mk ns ls net) (E_var 2) E_int) (A_cons (E_h3c (t := H3.mk ns ls net) (E_var 2) E_int) (A_cons (E_var 3) A_nil))) ⟨ns, d⟩) A_nil)) ⟨hkl, few⟩) ?_
  have gb := made_ok d
  have gok := gb.ok few
  refine S_setM 5 ok.nd (EM_IndexM (g := madeF ns ls net) (wd := Wd.mk w1) ok MI (EM_made ok Ma (E_h3a (t := H3.mk ns ls net) (E_var 2) E_int) (E_h3b (t := H3.mk ns ls net) (E_var 2) E_int) (E_h3c (t := H3.mk ns ls net) (E_var 2) E_int) dx) (fun _ => EM.toE (EM_Word' ok Mw k1 (E_var 3))) gok) ?_ (fun _ _ _ z => z.elim)
  rintro _ _ ⟨xa, a, rfl, rfl⟩
  have ix := newX_ok d (Wd.mk w1)
  show S _ [some ⟨(Scr.mk sc)⟩, some ⟨names⟩, some ⟨(H3.mk ns ls net)⟩, some ⟨w1⟩, some ⟨grL ns ls net (signs w1)⟩, some ⟨(At.mk xa.p)⟩, none, none, none, none, none, none, none] (ixC K xa (newX (Wd.mk w1) (madeF ns ls net)) ++ grC K a (madeF ns ls net) ++ []) _ _
  rw [List.append_nil]
  obtain ⟨few1, few2⟩ := grL_few (cs := signs w1) d
  have hmem := fun v hv => grL_mem (ns := ns) (ls := ls) (net := net) (cs := signs w1) (v := v) hv
  have pts : Pts (grL ns ls net (signs w1)) := grp_pts _ _
  have hall : ∀ y ∈ ns, ∃ v ∈ grL ns ls net (signs w1), y ∈ v := fun y hy => (grp_M _ (sortI ns)).1.all y ((sortI_perm ns).mem_iff.mpr hy)
  have hrows := ix.rows
  have hhome := ix.home
  generalize newX (Wd.mk w1) (madeF ns ls net) = x at ix hrows hhome
  have hw1 : (⟨w1⟩ : Wd).t = w1 := rfl
  rw [show (Wd.mk w1).t = w1 from rfl] at hrows hhome
  generalize grL ns ls net (signs w1) = G at few1 few2 hmem pts hall hrows hhome
  have hnum : ∀ v ∈ G, ∀ y ∈ v, ∃ m : Nat, y = (m : Int) ∧ m < 1000000 := fun v hv y hy => by
    have := d.rg _ ((hmem v hv).2 y hy)
    exact ⟨y.toNat, by omega, by omega⟩
  have hlab : ∀ v ∈ G, (labI ns ls (hdI v)).length ≤ 8 := fun v hv => label_short (dx.lb _ (List.mem_of_getElem? (labI_at d.len ((hmem v hv).2 _ (hdI_mem (hmem v hv).1)))))
  have hbk : ∀ b ∈ x.rows, BkT b := fun b hb => by
    rw [hrows] at hb
    obtain ⟨k, v, hk, rfl⟩ := blkF_mem hb
    have hv := List.mem_of_getElem? hk
    have hl := (List.getElem?_eq_some_iff.mp hk).1
    exact ⟨⟨k, rfl, by omega⟩, by have := hlab v hv; show (labI ns ls (hdI v)).length ≤ 1000; omega, hnum v hv, few2 v hv⟩
  have hlines : x.rows.map bkTxt = (List.range G.length).map fun k => lineF ns ls k (G.getD k []) := by
    rw [hrows]
    unfold blkF
    rw [List.map_map]
    exact List.map_congr_left fun k _ => (lineF_eq ns ls k _).symm
  refine S_newL 6 ([] : List Str) ok.nd A_nil (fun ln => ?_)
  refine S_for ok (fun i env L => ∃ o7 o8 o9 : Option Ent, env = [some ⟨(Scr.mk sc)⟩, some ⟨names⟩, some ⟨(H3.mk ns ls net)⟩, some ⟨w1⟩, some ⟨G⟩, some ⟨(At.mk xa.p)⟩, some ⟨(At.mk ln)⟩, o7, o8, o9, none, none, none] ∧ L = Cell.lst ln ((List.range i).map fun k => lineF ns ls k (G.getD k [])) :: (ixC K xa x ++ grC K a (madeF ns ls net))) (EI_rng1 (E_biR calR_len (E_var 4).imm TI.len) hr (by omega)) ⟨none, none, none, rfl, rfl⟩ ?_ ?_
  · rintro i x' env' L' hkk ⟨o7, o8, o9, rfl, rfl⟩
    obtain ⟨hi, rfl⟩ := rng0_of hkk
    rw [Int.toNat_natCast] at hi
    refine ⟨_, _, G_name 7 ok.nd, ?_⟩
    have hv : G[i]? = some G[i] := List.getElem?_eq_getElem hi
    have hg : G.getD i [] = G[i] := by rw [List.getD_eq_getElem?_getD, hv]; rfl
    generalize G[i] = v at hv hg
    have hvm := List.mem_of_getElem? hv
    have hva : atI G (i : Int) = some v := atI_nat' (by omega) (by rw [Int.toNat_natCast]; exact hv)
    have hh0 : atI v (0 : Int) = some (hdI v) := by
      have := (hmem v hvm).1
      cases v with
      | nil => exact absurd rfl this
      | cons y v => exact atI_nat' (by decide) (by rfl)
    have hdn := (hmem v hvm).2 _ (hdI_mem (hmem v hvm).1)
    have hla := labI_at d.len hdn
    refine S_set 8 ok.nd (E_ix (E_h3b (t := H3.mk ns ls net) (E_var 2) E_int).imm (E_indexD (α := Int) ok (E_h3a (t := H3.mk ns ls net) (E_var 2) E_int) (E_ix (E_ix (E_var 4).imm (E_var 7) hva).imm E_int hh0) (ixIn_at hdn) (fun m hm => ixIn_first hm)) (atI_nat' (by omega) (by rw [Int.toNat_natCast]; exact hla))) ?_
    refine S_set 9 ok.nd (r := ⟨joinS (" " : Str) (picks strI (fun _ => true) v)⟩) (E_join E_str (E_lc [("_law_x", 11)] strI (fun _ => true) ok (EI_list (E_ix (E_var 4).imm (E_var 7) hva)) ?_).imm ?_) ?_
    · intro j y hy
      refine ⟨_, _, ?_, fun R s H C0 cl fp okb => ⟨G_name 11 okb.nd, Ts_nil, fun _ => ?_⟩⟩
      · intro x hx
        exact hx
      · obtain ⟨m, rfl, hm⟩ := hnum v hvm y (List.mem_of_getElem? hy)
        exact E_bi (cal_strI (Nat.lt_trans hm (by decide))) (A_cons (E_var 11) A_nil) hst
    · rw [picks_all]
      exact joins_le (hnum v hvm) (few2 v hvm)
    rw [picks_all]
    have l1 : (Txt.rjust (strI (i : Int)) ((4 : Nat) : Int)).length = max 4 (strI (i : Int)).length := rjust_len _ 4
    have l2 : (Txt.ljust (labI ns ls (hdI v)) ((8 : Nat) : Int)).length = max 8 (labI ns ls (hdI v)).length := ljust_len _ 8
    have l3 := strI_le (k := 6) (by decide) (m := i) (by omega)
    have l4 := hlab v hvm
    have l5 := joinS_le (hnum v hvm) (few2 v hvm)
    have l6 : (" " : Str).length = 1 := by decide
    refine S_app 0 (E_var 6) (E_bin (E_bin (E_bin (E_bin (E_rjust (m := 4) (E_bi (cal_strI (m := i) (Nat.lt_trans (show i < 1000000 by omega) (by decide))) (A_cons (E_var 7) A_nil) hst) E_int (by decide) (by decide)) E_str (bin_addS (by rw [l6]; omega))) (E_ljust (m := 8) (E_var 8) E_int (by decide) (by decide)) (bin_addS (by rw [str_len_append]; omega))) E_str (bin_addS (by rw [str_len_append, str_len_append]; omega))) (E_var 9) (bin_addS (by rw [str_len_append, str_len_append, str_len_append]; omega))) rfl (by rw [List.length_map, List.length_range]; omega) (S_nil ⟨_, _, _, rfl, ?_⟩)
    rw [List.range_succ, List.map_append, List.map_singleton, hg]
    rfl
  rintro env' L' ⟨o7, o8, o9, rfl, rfl⟩
  rw [rng_len, Int.toNat_natCast]
  refine S_frz 6 0 rfl rfl ?_
  show S _ [some ⟨(Scr.mk sc)⟩, some ⟨names⟩, some ⟨(H3.mk ns ls net)⟩, some ⟨w1⟩, some ⟨G⟩, some ⟨(At.mk xa.p)⟩, some ⟨(List.range G.length).map fun k => lineF ns ls k (G.getD k [])⟩, o7, o8, o9, none, none, none] (ixC K xa x ++ grC K a (madeF ns ls net)) _ _
  rw [← hlines]
  have hrl : x.rows.length = G.length := by rw [hrows, blkF_len]
  refine S_if (bo := !decide (picks bkTxt (fun _ => true) x.rows = x.rows.map bkTxt)) (T_cmp (E_lc [("_law_block", 12)] bkTxt (fun _ => true) ok (EI_own (xa, x) ok It (E_var 5) trivial (LR := grC K a (madeF ns ls net)) (List.Perm.refl _) (Seen.obj (List.mem_append_left _ imem0))) ?_) (E_var 6) (cmp_neD ok.room) (nomark _)) (fun h => ?_) (fun _ => ?_)
  · intro j b hb
    refine ⟨_, _, ?_, fun R s H C0 cl fp okb => ⟨G_name 12 okb.nd, Ts_nil, fun _ => E_bi (cal_strO b okb.room BS rfl (hbk b (List.mem_of_getElem? hb)) isI_Bk) (A_cons (E_var 12) A_nil) hst⟩⟩
    intro x hx
    exact hx
  · rw [picks_all, decide_eq_true rfl] at h; cases h
  have hat : ∀ y ∈ ns, (lkp x.home y).isSome = true ∧ homeAt x y ∈ x.rows := fun y hy => by
    obtain ⟨v, hv, hyv⟩ := hall y hy
    obtain ⟨k, hk⟩ := List.mem_iff_getElem?.mp hv
    have e := home_in (lb := labI ns ls) pts hk hyv
    rw [← hhome] at e
    refine ⟨by rw [e]; rfl, ?_⟩
    unfold homeAt
    rw [e, hrows]
    exact List.mem_of_getElem? (blkF_at hk)
  refine S_nil (S_set 10 ok.nd (r := ⟨picks (fun y : Int => bkTxt (homeAt x y)) (fun _ => true) ns⟩) (E_lc [("_law_x", 11)] (fun y : Int => bkTxt (homeAt x y)) (fun _ => true) ok (EI_list (E_h3a (t := H3.mk ns ls net) (E_var 2) E_int)) ?_) ?_)
  · intro j y hy
    have hyn := List.mem_of_getElem? hy
    refine ⟨_, _, ?_, fun R s H C0 cl fp okb => ⟨G_name 11 okb.nd, Ts_nil, fun _ => E_bi (cal_strO (homeAt x y) okb.room BS rfl (hbk _ (hat y hyn).2) isI_Bk) (A_cons (EM.lent (γ := XA × XD × Int) (g := (xa, x, y)) (cel := fun g => ixC K g.1 g.2.1) (res := fun g => ⟨homeAt g.2.1 g.2.2⟩) (LR := grC K a (madeF ns ls net)) (List.Perm.refl _) (EM_ixO (xa, x, y) okb Ge (E_var 5) (E_var 11) rfl (hat y hyn).1 (List.Perm.refl _) (Seen.obj (List.mem_append_left _ imem0)))) A_nil) hst⟩⟩
    intro x hx
    exact hx
  rw [picks_all]
  have hin : ∀ y ∈ ns, bkTxt (homeAt x y) ∈ x.rows.map bkTxt := fun y hy => List.mem_map.mpr ⟨_, (hat y hy).2, rfl⟩
  have hTl : (ns.map fun y : Int => bkTxt (homeAt x y)).length = ns.length := List.length_map _
  have hTm : ∀ t ∈ ns.map (fun y : Int => bkTxt (homeAt x y)), t ∈ x.rows.map bkTxt := fun t ht => by
    obtain ⟨y, hy, rfl⟩ := List.mem_map.mp ht
    exact hin y hy
  generalize (ns.map fun y : Int => bkTxt (homeAt x y)) = tl at hTl hTm
  refine S_retD (E_cmp (E_biR calR_len (E_lc [("_law_k", 7)] (fun k : Int => k) (fun _ => false) ok (EI_rng1 (E_biR calR_len (E_var 10).imm TI.len) hr (by omega)) ?_).imm TI.len) E_int cmp_eqI (nomark _)) ⟨?_, rfl⟩
  · intro j u hu
    obtain ⟨hj, rfl⟩ := rng0_of hu
    rw [Int.toNat_natCast] at hj
    have ht : tl[j]? = some tl[j] := List.getElem?_eq_getElem hj
    have hm := hTm _ (List.getElem_mem hj)
    generalize tl[j] = t at ht hm
    refine ⟨_, _, ?_, fun R s H C0 cl fp okb => ⟨G_name 7 okb.nd, ?_, fun _ => E_var 7⟩⟩
    · intro x hx
      exact hx
    · have e : (!decide (t ∈ x.rows.map bkTxt)) = false := by rw [decide_eq_true hm]; rfl
      show Ts _ _ _ _ false
      rw [← e]
      exact Ts_one (T_ninL (E_ix (E_var 10).imm (E_var 7) (atI_nat' (by omega) (by rw [Int.toNat_natCast]; exact ht))) (E_var 6).imm)
  · unfold picks
    rw [List.filter_eq_nil_iff.mpr fun _ _ => by decide]
    rfl
end

/-! ### the head -/
def fnL : List He.DefD := [dd_is_letter, dd_is_label, dd_with_node, dd_Graph___init__, dd_Graph___iter__, dd_Graph___getitem__, dd_Graph___setitem__, dd_Graph_must_have, dd_Graph___iadd__, dd_Graph_copied, dd_Word___init__, dd_Word___iter__, dd_numbered, dd_numbered, dd_seen, dd_kinds_of, dd_classes, dd_Block___init__, dd_Block___iter__, dd_Block___str__, dd_Index_renew, dd_Index___init__, dd_Index___iter__, dd_Index___getitem__, dd__law_cell, dd__law_row, dd__law_names, dd__law_graph, dd__law_wide, dd__law_any_graph, dd__law_made, dd__law_word, dd__law_kinds, dd__law_groups, dd_law]
def lawFa : List He.Fa := [.glo "is_letter", .glo "is_label", .glo "with_node", .glo "numbered", .glo "numbered", .glo "seen", .glo "kinds_of", .glo "classes", .glo "_law_cell", .glo "_law_row", .glo "_law_names", .glo "_law_graph", .glo "_law_wide", .glo "_law_any_graph", .glo "_law_made", .glo "_law_word", .glo "_law_kinds", .glo "_law_groups", .glo "law", .free "len", .free "range", .free "int", .free "abs", .free "iter", .free "sorted", .free "isinstance", .free "list", .free "bool", .free "str", .free "tuple", .free "set"]
def xsL : List (PySem.W.Frag → Bool) := [graphB, wordB, blockB, indexB, faB lawFa, methB "Graph" "__iter__", methB "Graph" "__getitem__", methB "Graph" "__setitem__", methB "Graph" "must_have", methB "Graph" "__iadd__", methB "Graph" "copied", methB "Word" "__iter__", methB "Block" "__iter__", methB "Block" "__str__", methB "Index" "renew", methB "Index" "__iter__", methB "Index" "__getitem__"]
theorem facts {P : Program} {w : World} {K : PySem.W.Frag} {h : Heap} {mg : Str → Option Value} {fa : Addr} (X : K.In h) (G : h.Ns mainGlobals mg) (hfa : mg ("law" : Str) = some (.ref fa)) (c : SaysX xsL fnL K) :
    ∃ fd : FuncData, (∀ (s : Shared) (v : Value), BindsTo s fd ⟨[v], []⟩ [("_law_script", v)]) ∧ ∀ base : Heap, K.In base → base.Ns mainGlobals mg → FnOk P w K mg base (L2.CX P w) 12 fa fd ["_law_script"] (spLaw K) := by
  have lf := c.chk 4 (f := faB lawFa)
  have h_len := He.free_ok X G (faB_at lf 19 (f := .free "len"))
  have h_range := He.free_ok X G (faB_at lf 20 (f := .free "range"))
  have h_int := He.free_ok X G (faB_at lf 21 (f := .free "int"))
  have h_abs := He.free_ok X G (faB_at lf 22 (f := .free "abs"))
  have h_iter := He.free_ok X G (faB_at lf 23 (f := .free "iter"))
  have h_sorted := He.free_ok X G (faB_at lf 24 (f := .free "sorted"))
  have h_isinstance := He.free_ok X G (faB_at lf 25 (f := .free "isinstance"))
  have h_list := He.free_ok X G (faB_at lf 26 (f := .free "list"))
  have h_bool := He.free_ok X G (faB_at lf 27 (f := .free "bool"))
  have h_str := He.free_ok X G (faB_at lf 28 (f := .free "str"))
  have h_tuple := He.free_ok X G (faB_at lf 29 (f := .free "tuple"))
  have h_set := He.free_ok X G (faB_at lf 30 (f := .free "set"))
  obtain ⟨TG, mkG⟩ := graphT_of X G (c.chk 0 (f := graphB))
  obtain ⟨T, mk⟩ := wordT_of X G (c.chk 1 (f := wordB))
  obtain ⟨TB, mkB⟩ := blockT_of X G (c.chk 2 (f := blockB))
  obtain ⟨TI, mkI⟩ := indexT_of X G (c.chk 3 (f := indexB))
  obtain ⟨f0, F0⟩ := c.def_ 0 (d := dd_is_letter)
  obtain ⟨f1, F1⟩ := c.def_ 1 (d := dd_is_label)
  obtain ⟨f2, F2⟩ := c.def_ 2 (d := dd_with_node)
  obtain ⟨f3, F3⟩ := c.def_ 3 (d := dd_Graph___init__)
  obtain ⟨f4, F4⟩ := c.def_ 4 (d := dd_Graph___iter__)
  obtain ⟨f5, F5⟩ := c.def_ 5 (d := dd_Graph___getitem__)
  obtain ⟨f6, F6⟩ := c.def_ 6 (d := dd_Graph___setitem__)
  obtain ⟨f7, F7⟩ := c.def_ 7 (d := dd_Graph_must_have)
  obtain ⟨f8, F8⟩ := c.def_ 8 (d := dd_Graph___iadd__)
  obtain ⟨f9, F9⟩ := c.def_ 9 (d := dd_Graph_copied)
  obtain ⟨f10, F10⟩ := c.def_ 10 (d := dd_Word___init__)
  obtain ⟨f11, F11⟩ := c.def_ 11 (d := dd_Word___iter__)
  obtain ⟨f12, F12⟩ := c.def_ 12 (d := dd_numbered)
  obtain ⟨f13, F13⟩ := c.def_ 13 (d := dd_numbered)
  obtain ⟨f14, F14⟩ := c.def_ 14 (d := dd_seen)
  obtain ⟨f15, F15⟩ := c.def_ 15 (d := dd_kinds_of)
  obtain ⟨f16, F16⟩ := c.def_ 16 (d := dd_classes)
  obtain ⟨f17, F17⟩ := c.def_ 17 (d := dd_Block___init__)
  obtain ⟨f18, F18⟩ := c.def_ 18 (d := dd_Block___iter__)
  obtain ⟨f19, F19⟩ := c.def_ 19 (d := dd_Block___str__)
  obtain ⟨f20, F20⟩ := c.def_ 20 (d := dd_Index_renew)
  obtain ⟨f21, F21⟩ := c.def_ 21 (d := dd_Index___init__)
  obtain ⟨f22, F22⟩ := c.def_ 22 (d := dd_Index___iter__)
  obtain ⟨f23, F23⟩ := c.def_ 23 (d := dd_Index___getitem__)
  obtain ⟨f24, F24⟩ := c.def_ 24 (d := dd__law_cell)
  obtain ⟨f25, F25⟩ := c.def_ 25 (d := dd__law_row)
  obtain ⟨f26, F26⟩ := c.def_ 26 (d := dd__law_names)
  obtain ⟨f27, F27⟩ := c.def_ 27 (d := dd__law_graph)
  obtain ⟨f28, F28⟩ := c.def_ 28 (d := dd__law_wide)
  obtain ⟨f29, F29⟩ := c.def_ 29 (d := dd__law_any_graph)
  obtain ⟨f30, F30⟩ := c.def_ 30 (d := dd__law_made)
  obtain ⟨f31, F31⟩ := c.def_ 31 (d := dd__law_word)
  obtain ⟨f32, F32⟩ := c.def_ 32 (d := dd__law_kinds)
  obtain ⟨f33, F33⟩ := c.def_ 33 (d := dd__law_groups)
  obtain ⟨f34, F34⟩ := c.def_ 34 (d := dd_law)
  have e := hfa.symm.trans (He.glo_ok X G (faB_at lf 18 (f := .glo "law")))
  cases e
  refine ⟨f34, fun s v => FunD.bindsA (ps := ["_law_script"]) F34 (fun _ _ _ _ _ _ us hl => match us, hl with | [_], _ => rfl) s [v] rfl, fun base _ _ => ?_⟩
  have Il0 : Hs P w K mg base 2 "is_letter" (spIsLetter K) := hs_of F0 (He.glo_ok X G (faB_at lf 0 (f := .glo "is_letter"))) (bn_is_letter F0) (ok_is_letter F0)
  have Il : Hs P w K mg base 4 "is_label" (spIsLabel K) := hs_of F1 (He.glo_ok X G (faB_at lf 1 (f := .glo "is_label"))) (bn_is_label F1) (ok_is_label F1 h_len Il0)
  have Wn : Hs P w K mg base 2 "with_node" (spWithNode K) := hs_of F2 (He.glo_ok X G (faB_at lf 2 (f := .glo "with_node"))) (bn_with_node F2) (ok_with_node F2 h_sorted h_int)
  have GMk : Mks P w K mg base 2 (He.ga K "Graph") "Graph" (spGrInit K) := mks_of mkG TG.g (bn_Graph___init__ F3) (ok_Gr_init F3 TG)
  have GIt : Mi P w K mg base 2 (He.ga K "Graph") (spGrIter K) := mi_of (methB_ok (c.chk 5 (f := methB "Graph" "__iter__"))).1 (bn_Graph___iter__ F4) (ok_Gr_iter F4 TG h_iter)
  have GGe : Ms P w K mg base 2 (He.ga K "Graph") "__getitem__" (spGrGet0 K) := ms_of (methB_ok (c.chk 6 (f := methB "Graph" "__getitem__"))).1 (methB_ok (c.chk 6 (f := methB "Graph" "__getitem__"))).2 (bn_Graph___getitem__ F5) (ok_Gr_get0 F5 TG)
  have GSe : Ms P w K mg base 6 (He.ga K "Graph") "__setitem__" (spGrSet0 K) := ms_of (methB_ok (c.chk 7 (f := methB "Graph" "__setitem__"))).1 (methB_ok (c.chk 7 (f := methB "Graph" "__setitem__"))).2 (bn_Graph___setitem__ F6) (ok_Gr_set0 F6 TG Il Wn)
  have GMu : Ms P w K mg base 2 (He.ga K "Graph") "must_have" (spMust K) := ms_of (methB_ok (c.chk 8 (f := methB "Graph" "must_have"))).1 (methB_ok (c.chk 8 (f := methB "Graph" "must_have"))).2 (bn_Graph_must_have F7) (ok_Gr_must F7 TG)
  have GIa : Ms P w K mg base 4 (He.ga K "Graph") "__iadd__" (spGrIadd K) := ms_of (methB_ok (c.chk 9 (f := methB "Graph" "__iadd__"))).1 (methB_ok (c.chk 9 (f := methB "Graph" "__iadd__"))).2 (bn_Graph___iadd__ F8) (ok_Gr_iadd F8 TG GMu Wn)
  have GCo : Ms P w K mg base 4 (He.ga K "Graph") "copied" (spCopied K) := ms_of (methB_ok (c.chk 10 (f := methB "Graph" "copied"))).1 (methB_ok (c.chk 10 (f := methB "Graph" "copied"))).2 (bn_Graph_copied F9) (ok_Gr_copied F9 TG GMk)
  have Mw : Mks P w K mg base 2 (He.ga K "Word") "Word" (spWordInit K) := mks_of mk T.gW (bn_Word___init__ F10) (ok_Word_init F10 T)
  have It : Mi P w K mg base 2 (He.ga K "Word") (spWordIter K) := mi_of (methB_ok (c.chk 11 (f := methB "Word" "__iter__"))).1 (bn_Word___iter__ F11) (ok_Word_iter F11 T h_iter)
  have NS : Hs P w K mg base 2 "numbered" (spNumS K) := hs_of F12 (He.glo_ok X G (faB_at lf 3 (f := .glo "numbered"))) (bn_numbered F12) (ok_numberedS F12 h_len)
  have NK : Hs P w K mg base 2 "numbered" (spNumK K) := hs_of F13 (He.glo_ok X G (faB_at lf 4 (f := .glo "numbered"))) (bn_numbered F13) (ok_numberedK F13 h_len)
  have Sen : Hs P w K mg base 2 "seen" (spSeen K) := hs_of F14 (He.glo_ok X G (faB_at lf 5 (f := .glo "seen"))) (bn_seen F14) (ok_seen F14 h_tuple h_sorted h_set h_int)
  have Ki : Hs P w K mg base 4 "kinds_of" (spKinds K) := hs_of F15 (He.glo_ok X G (faB_at lf 6 (f := .glo "kinds_of"))) (bn_kinds_of F15) (ok_kinds_of F15 TG NS NK Sen It)
  have Cl : Hs P w K mg base 6 "classes" (spClasses K) := hs_of F16 (He.glo_ok X G (faB_at lf 7 (f := .glo "classes"))) (bn_classes F16) (ok_classes F16 TG Ki GIt)
  have BMk : Mks P w K mg base 2 (He.ga K "Block") "Block" (spBkInit K) := mks_of mkB TB.g (bn_Block___init__ F17) (ok_Bk_init F17 TB)
  have BIt : Mi P w K mg base 2 (He.ga K "Block") (spBkIter K) := mi_of (methB_ok (c.chk 12 (f := methB "Block" "__iter__"))).1 (bn_Block___iter__ F18) (ok_Bk_iter F18 TB h_iter)
  have BSt : Ms P w K mg base 2 (He.ga K "Block") "__str__" (spBkStr K) := ms_of (methB_ok (c.chk 13 (f := methB "Block" "__str__"))).1 (methB_ok (c.chk 13 (f := methB "Block" "__str__"))).2 (bn_Block___str__ F19) (ok_Bk_str F19 TB h_str)
  have XRe : Ms P w K mg base 8 (He.ga K "Index") "renew" (spRenew K) := ms_of (methB_ok (c.chk 14 (f := methB "Index" "renew"))).1 (methB_ok (c.chk 14 (f := methB "Index" "renew"))).2 (bn_Index_renew F20) (ok_renew F20 TI TG TB Cl GGe BMk BIt)
  have XMk : Mks P w K mg base 10 (He.ga K "Index") "Index" (spIxInit K) := mks_of mkI TI.g (bn_Index___init__ F21) (ok_Ix_init F21 TI TG GCo XRe)
  have XIt : Mi P w K mg base 2 (He.ga K "Index") (spIxIter K) := mi_of (methB_ok (c.chk 15 (f := methB "Index" "__iter__"))).1 (bn_Index___iter__ F22) (ok_Ix_iter F22 TI h_iter)
  have XGe : Ms P w K mg base 2 (He.ga K "Index") "__getitem__" (spIxGet K) := ms_of (methB_ok (c.chk 16 (f := methB "Index" "__getitem__"))).1 (methB_ok (c.chk 16 (f := methB "Index" "__getitem__"))).2 (bn_Index___getitem__ F23) (ok_Ix_get F23 TI)
  have Ce : Hs P w K mg base 2 "_law_cell" (spCell K) := hs_of F24 (He.glo_ok X G (faB_at lf 8 (f := .glo "_law_cell"))) (bn__law_cell F24) (ok_law_cell F24 h_len)
  have Ro : Hs P w K mg base 2 "_law_row" (spRow K) := hs_of F25 (He.glo_ok X G (faB_at lf 9 (f := .glo "_law_row"))) (bn__law_row F25) (ok_law_row F25 h_abs h_range h_int)
  have Na : Hs P w K mg base 2 "_law_names" (spNames K) := hs_of F26 (He.glo_ok X G (faB_at lf 10 (f := .glo "_law_names"))) (bn__law_names F26) (ok_law_names F26 h_int)
  have Gra : Hs P w K mg base 4 "_law_graph" (spLawGraph K) := hs_of F27 (He.glo_ok X G (faB_at lf 11 (f := .glo "_law_graph"))) (bn__law_graph F27) (ok_law_graph F27 h_range h_int h_len Ro)
  have Wi : Hs P w K mg base 4 "_law_wide" (spLawWide K) := hs_of F28 (He.glo_ok X G (faB_at lf 12 (f := .glo "_law_wide"))) (bn__law_wide F28) (ok_law_wide F28 h_range h_int Ro)
  have An : Hs P w K mg base 6 "_law_any_graph" (spAnyGraph K) := hs_of F29 (He.glo_ok X G (faB_at lf 13 (f := .glo "_law_any_graph"))) (bn__law_any_graph F29) (ok_law_any_graph F29 h_int Ce Wi Gra)
  have Ma : Hs P w K mg base 8 "_law_made" (spMade K) := hs_of F30 (He.glo_ok X G (faB_at lf 14 (f := .glo "_law_made"))) (bn__law_made F30) (ok_law_made F30 TG h_range GMk GSe GIa)
  have Wo : Hs P w K mg base 4 "_law_word" (spLawWord K) := hs_of F31 (He.glo_ok X G (faB_at lf 15 (f := .glo "_law_word"))) (bn__law_word F31) (ok_law_word F31 h_range h_int Ro)
  have Kd : Hs P w K mg base 2 "_law_kinds" (spLawKinds K) := hs_of F32 (He.glo_ok X G (faB_at lf 16 (f := .glo "_law_kinds"))) (bn__law_kinds F32) (ok_law_kinds F32 h_range h_len)
  have Gp : Hs P w K mg base 2 "_law_groups" (spGroups K) := hs_of F33 (He.glo_ok X G (faB_at lf 17 (f := .glo "_law_groups"))) (bn__law_groups F33) (ok_law_groups F33 h_sorted h_int)
  exact ok_law F34 TG TI h_range Ce Na An Ma Wo Kd Gp Mw XMk XIt XGe BSt h_str
abbrev Rr : PySem.W.OpenRow := PySem.W.OpenLaw.row PySem.Challenge.rw_looksback_k23_block_text
abbrev hkL : PySem.W.Hook := hookX 6 xsL fnL
def obL (s : PySem.W.SharedT) : AlX := obsXG 6 xsL fnL (HandSHeadRun.getT s)
theorem obL_eq (s : PySem.W.SharedT) : obL s = hkL.obs s.abs := obsXG_eq (HandSHeadRun.getT_eq s)
def looseL : List Str := (["_wall", "LooksBackError", "BadWord", "BadNode", "BadLabel", "TooLarge", "NoSuchNode", "NoSuchEdge", "GREATEST", "is_letter", "is_label", "with_node", "without_node", "Graph", "STEPS", "Word", "numbered", "seen", "kinds_of", "classes", "Block", "Index", "_law_cell", "_law_row", "_law_names", "_law_graph", "_law_wide", "_law_any_graph", "_law_made", "_law_word"] : List Str) ++ (["_law_kinds", "_law_groups"] : List Str)
theorem runL (w : World) : HandSHeadRun.RunEq Rr (PySem.W.view Rr.prog [37]) hkL obL 40000 looseL w := by
  intro os
  kernel_rfl

end Lw
open PySem PySem.W PySem.Calls PyProof.Rows
theorem PySem.Challenge.cw_looksback_k23_block_text_holds : PySem.Challenge.rw_looksback_k23_block_text.Holds := by
  w_on; o_law
  refine HandSHeadRun.head_any (r := OpenLaw.row PySem.Challenge.rw_looksback_k23_block_text) (q := view (OpenLaw.row PySem.Challenge.rw_looksback_k23_block_text).prog [37]) (H := Lw.hkL) (ob := Lw.obL) (M := 40000) (loose := Lw.looseL) (d := HandSHeadRun.topDef (OpenLaw.row PySem.Challenge.rw_looksback_k23_block_text).prog 37) (kwd := []) Lw.obL_eq
    (by kernel_rfl) (fun s => by kernel_rfl) Lw.runL (by kernel_rfl) (by kernel_rfl) (by kernel_rfl) (by rfl) (by first | assumption | decide +kernel) (by decide +kernel) ⟨rfl, rfl, rfl, rfl, rfl, by decide +kernel⟩ ?hw ?hc
  case hw => w_witness2
  case hc =>
    refine Py.walk_ofX (l := PySem.Challenge.rw_looksback_k23_block_text) (k := 12) (x := "_law_script") rfl (by kernel_rfl) ⟨rfl, by decide, by decide⟩ ?F
    intro w mg fa h Y G hmg0
    obtain ⟨K, KX, c⟩ := Y
    have hmg : mg ("law" : PySem.Str) = some (.ref fa) := by
      have e : (HandSHeadRun.topDef (OpenLaw.row PySem.Challenge.rw_looksback_k23_block_text).prog 37).name = ("law" : PySem.Str) := by kernel_rfl
      rw [← e]
      exact hmg0
    obtain ⟨fd, hb, hF⟩ := Lw.facts (P := (PySem.Challenge.rw_looksback_k23_block_text).prog) (w := w) KX G hmg c
    exact ⟨K, fd, KX, hb, hF⟩
