import PyProof.Rows.All
import Wide.All
import OpenK.AllK
import Wide.FinOn
import KE.KStateDown
import KE.KTupSum
import Lean
import HandS.ForMost
import HandS.WordsExc
import HandS.Defaults
import HandS.IsInst
import PyProof.ReprReads
import HandS.TupAny
import HandS.WideBits
import HandS.Style
import HandS.SortKw
import HandS.Zip
import HandS.WordsDict
import HandS.Flow
import HandS.Conv
import KE.GoesEnum
import KE.GoesEnumKw
import KE.GoesZip
import KE.GoesMore
import PyProof.Rows.CallKwBuiltin
import HandS.TryOnly
import HandS.Comp
import HandS.SortInts
import HandS.SetFor
import PyProof.StrHeap
import KE.SortData
import HandS.Head0
import HandS.Head1
import HandS.Head2
import HandS.HeadEnd
import HandS.HeadHook1
import HandS.HeadHook2
import HandS.Deep
import PyProof.ReprBulk
import PyProof.ListMulAny
import HandS.HeadHook3
import HandS.Dict
import HandS.More
import PyProof.Rows.SetFrom
import PyProof.SetRoads
import PySem.Challenge.RW_checkwright_k47_whole_chains
set_option Elab.async false
set_option linter.all false
set_option maxRecDepth 100000
set_option maxHeartbeats 0
namespace CW
open PySem PySem.Spec PyProof.Rows L2

/-! outcomes, slots -/
inductive Res (α : Type) where
  | ok (a : α)
  | err (c : Str) (d : PyData)
  | no
def Res.bnd {α β : Type} (x : Res α) (f : α → Res β) : Res β := match x with
  | .ok a => f a
  | .err c d => .err c d
  | .no => .no
instance : Monad Res where
  pure := Res.ok
  bind := Res.bnd
theorem bnd_ok {α β : Type} {a : α} {f : α → Res β} : (Res.ok a >>= f) = f a := rfl
theorem bnd_inv {α β : Type} {x : Res α} {f : α → Res β} {b : β} (h : (x >>= f) = .ok b) : ∃ a, x = .ok a ∧ f a = .ok b := by
  cases x with
  | ok a => exact ⟨a, rfl, h⟩
  | err c d => cases h
  | no => cases h

inductive Sl where
  | emp
  | val (d : PyData)
  | own (xs : List PyData)
  | io (k : Nat) (xs : List PyData)
  | fn (x : Str)
abbrev Ev := List Sl
abbrev ME := Ev → Res (PyData × Ev)
abbrev MT := Ev → Res (Bool × Ev)
abbrev MA := Ev → Res (List PyData × Ev)
/-- a new value: a slot that nobody else holds -/
abbrev MN := Ev → Res (Sl × Ev)
inductive Ctl where
  | nx | bk | ct
  | rt (s : Sl)
abbrev MS := Ev → Res (Ctl × Ev)

/-! data in a heap -/
mutual
/-- a value that stands for data: the library's, and an empty dict that nobody changes -/
inductive Dp (K : PySem.W.Frag) (H : Hp) : V → PyData → Prop
  | non : Dp K H .non .none
  | bl (b : Bool) : Dp K H (.bl b) (.bool b)
  | int (i : Int) : Dp K H (.int i) (.int i)
  | str (x : Str) : Dp K H (.str x) (.str x)
  | lst {a : Addr} {xs : List V} {ds : List PyData} : SqL K H a xs → DpAll K H xs ds → Dp K H (.ref a) (.list ds)
  | tup {a : Addr} {xs : List V} {ds : List PyData} : SqT K H a xs → DpAll K H xs ds → Dp K H (.ref a) (.tuple ds)
  | dct {a : Addr} : H a = some (.dK []) → Dp K H (.ref a) (.dict [])
inductive DpAll (K : PySem.W.Frag) (H : Hp) : List V → List PyData → Prop
  | nil : DpAll K H [] []
  | cons {v : V} {vs : List V} {d : PyData} {ds : List PyData} : Dp K H v d → DpAll K H vs ds → DpAll K H (v :: vs) (d :: ds)
end
section
variable {K : PySem.W.Frag} {F F' : Hp}
mutual
theorem dp_old : ∀ (d : PyData) (v : V), Dp K F v d → d.hasDict = false → L2.Dp K F v d
  | .none, _, h, _ => by cases h; exact .non
  | .bool b, _, h, _ => by cases h; exact .bl b
  | .int i, _, h, _ => by cases h; exact .int i
  | .str x, _, h, _ => by cases h; exact .str x
  | .list ds, _, h, n => by
    cases h with
    | lst hs ha => exact .lst hs (dpa_old ds _ ha (by simpa [PyData.hasDict] using n))
  | .tuple ds, _, h, n => by
    cases h with
    | tup hs ha => exact .tup hs (dpa_old ds _ ha (by simpa [PyData.hasDict] using n))
  | .dict _, _, _, n => by simp [PyData.hasDict] at n
theorem dpa_old : ∀ (ds : List PyData) (vs : List V), DpAll K F vs ds → PyData.hasDictAll ds = false → L2.DpAll K F vs ds
  | [], _, h, _ => by cases h; exact .nil
  | d :: ds, _, h, n => by
    cases h with
    | cons h1 h2 =>
      simp only [PyData.hasDictAll, Bool.or_eq_false_iff] at n
      exact .cons (dp_old d _ h1 n.1) (dpa_old ds _ h2 n.2)
end
theorem shaped_noDict {d : PyData} (h : SeqAt.shaped d = true) : d.hasDict = false := by
  have z : (d.canLay0 && decide (d.depth ≤ 64)) = true := h
  rw [Bool.and_eq_true] at z
  exact PyData.hasDict_of_canLay d z.1
theorem rd_mono {a : Addr} {u : HO} (e : Same F F') (h : Rd F a u) : Rd F' a u := by
  rcases h with h | ⟨o, h⟩
  · exact .inl (e _ _ h)
  · exact .inr ⟨o, e _ _ h⟩
theorem sqL_mono {a : Addr} {xs : List V} (e : Same F F') (h : SqL K F a xs) : SqL K F' a xs := h.imp (rd_mono e) id
theorem sqT_mono {a : Addr} {xs : List V} (e : Same F F') (h : SqT K F a xs) : SqT K F' a xs := h.imp (rd_mono e) id
mutual
theorem dp_mono (e : Same F F') : ∀ (d : PyData) (v : V), Dp K F v d → Dp K F' v d
  | .none, _, h => by cases h; exact .non
  | .bool b, _, h => by cases h; exact .bl b
  | .int i, _, h => by cases h; exact .int i
  | .str x, _, h => by cases h; exact .str x
  | .list ds, _, h => by
    cases h with
    | lst hs ha => exact .lst (sqL_mono e hs) (dpa_mono e ds _ ha)
  | .tuple ds, _, h => by
    cases h with
    | tup hs ha => exact .tup (sqT_mono e hs) (dpa_mono e ds _ ha)
  | .dict _, _, h => by
    cases h with
    | dct q => exact .dct (e _ _ q)
theorem dpa_mono (e : Same F F') : ∀ (ds : List PyData) (vs : List V), DpAll K F vs ds → DpAll K F' vs ds
  | [], _, h => by cases h; exact .nil
  | d :: ds, _, h => by
    cases h with
    | cons h1 h2 => exact .cons (dp_mono e d _ h1) (dpa_mono e ds _ h2)
end
theorem Dp.up {v : V} {d : PyData} (h : Dp K F v d) (e : Same F F') : Dp K F' v d := dp_mono e d v h
theorem DpAll.up {vs : List V} {ds : List PyData} (h : DpAll K F vs ds) (e : Same F F') : DpAll K F' vs ds := dpa_mono e ds vs h
theorem dpa_len : ∀ {vs : List V} {ds : List PyData}, DpAll K F vs ds → vs.length = ds.length
  | _, [], h => by cases h; rfl
  | _, d :: ds, h => by
    cases h with
    | cons h1 h2 => simp [dpa_len h2]
theorem dpa_get : ∀ {vs : List V} {ds : List PyData} {i : Nat} {d : PyData}, DpAll K F vs ds → ds[i]? = some d → ∃ v, vs[i]? = some v ∧ Dp K F v d
  | _, [], i, d, h, e => by simp at e
  | _, d' :: ds, 0, d, h, e => by
    cases h with
    | cons h1 h2 => simp at e; subst e; exact ⟨_, rfl, h1⟩
  | _, d' :: ds, i + 1, d, h, e => by
    cases h with
    | cons h1 h2 =>
      obtain ⟨v, e1, e2⟩ := dpa_get h2 (by simpa using e)
      exact ⟨v, by simpa using e1, e2⟩
theorem dpa_app : ∀ {vs ws : List V} {ds es : List PyData}, DpAll K F vs ds → DpAll K F ws es → DpAll K F (vs ++ ws) (ds ++ es)
  | _, _, [], _, h, h' => by cases h; exact h'
  | _, _, d :: ds, _, h, h' => by
    cases h with
    | cons h1 h2 => exact .cons h1 (dpa_app h2 h')
theorem dpa_set : ∀ {vs : List V} {ds : List PyData} {v : V} {d : PyData} (i : Nat), DpAll K F vs ds → Dp K F v d → DpAll K F (vs.set i v) (ds.set i d)
  | _, [], _, _, _, h, _ => by cases h; exact .nil
  | _, d' :: ds, _, _, 0, h, q => by
    cases h with
    | cons h1 h2 => exact .cons q h2
  | _, d' :: ds, _, _, i + 1, h, q => by
    cases h with
    | cons h1 h2 => exact .cons h1 (dpa_set i h2 q)
theorem dpa_take : ∀ {vs : List V} {ds : List PyData} (n : Nat), DpAll K F vs ds → DpAll K F (vs.take n) (ds.take n)
  | _, _, 0, h => .nil
  | _, [], _ + 1, h => by cases h; exact .nil
  | _, d :: ds, n + 1, h => by
    cases h with
    | cons h1 h2 => exact .cons h1 (dpa_take n h2)
theorem dpa_drop : ∀ {vs : List V} {ds : List PyData} (n : Nat), DpAll K F vs ds → DpAll K F (vs.drop n) (ds.drop n)
  | _, _, 0, h => h
  | _, [], _ + 1, h => by cases h; exact .nil
  | _, d :: ds, n + 1, h => by
    cases h with
    | cons h1 h2 => exact dpa_drop n h2
theorem dpa_erase : ∀ {vs : List V} {ds : List PyData} (n : Nat), DpAll K F vs ds → DpAll K F (vs.eraseIdx n) (ds.eraseIdx n)
  | _, [], _, h => by cases h; exact .nil
  | _, d :: ds, 0, h => by
    cases h with
    | cons h1 h2 => exact h2
  | _, d :: ds, n + 1, h => by
    cases h with
    | cons h1 h2 => exact .cons h1 (dpa_erase n h2)
theorem dpa_rev {vs : List V} {ds : List PyData} (h : DpAll K F vs ds) : DpAll K F vs.reverse ds.reverse := by
  induction ds generalizing vs with
  | nil => cases h; exact .nil
  | cons d ds ih =>
    cases h with
    | cons h1 h2 =>
      rw [List.reverse_cons, List.reverse_cons]
      exact dpa_app (ih h2) (.cons h1 .nil)
theorem dpa_ints : ∀ {ns : List Int} {vs : List V}, DpAll K F vs (ns.map .int) → vs = ns.map .int
  | [], _, h => by cases h; rfl
  | n :: ns, _, h => by
    cases h with
    | cons h1 h2 => cases h1; rw [dpa_ints h2]; rfl
theorem dpa_of_ints : ∀ (ns : List Int), DpAll K F (ns.map .int) (ns.map .int)
  | [] => .nil
  | n :: ns => .cons (.int n) (dpa_of_ints ns)
end

/-! slots in a heap -/
section
variable (K : PySem.W.Frag) (mg : Str → Option Value) (ρ : Nat → Addr)
def SlotR (F H : Hp) : Sl → Option V → List Addr → Prop
  | .emp, _, L => L = []
  | .val d, o, L => L = [] ∧ ∃ v, o = some v ∧ Dp K F v d
  | .own xs, o, L => ∃ p vs, o = some (.ref p) ∧ L = [p] ∧ H p = some (.lst vs) ∧ DpAll K F vs xs
  | .io k xs, o, L => o = some (.ref (ρ k)) ∧ L = [ρ k] ∧ ∃ vs, H (ρ k) = some (.lst vs) ∧ DpAll K F vs xs
  | .fn x, o, L => L = [] ∧ ∃ f, o = some (.ref f) ∧ mg x = some (.ref f)
def SlotsR (F H : Hp) : List Sl → List (Option V) → List Addr → Prop
  | [], [], L => L = []
  | s :: ss, o :: os, L => ∃ L1 L2, L = L1 ++ L2 ∧ SlotR K mg ρ F H s o L1 ∧ SlotsR F H ss os L2
  | _, _, _ => False
structure Rel (Fr F : Hp) (δ : Ev) (σ : L2.St) (H : Hp) : Prop where
  sub : Same F H
  fr : Same Fr H
  dis : ∀ a, Fr a ≠ none → F a = none
  own : ∃ L, SlotsR K mg ρ F H δ σ L ∧ L.Nodup ∧ ∀ a ∈ L, F a = none ∧ Fr a = none
end

section
variable {K : PySem.W.Frag} {mg : Str → Option Value} {ρ : Nat → Addr} {Fr F F' H H' : Hp} {δ δ' : Ev} {σ σ' : L2.St}
theorem slotR_mem {s : Sl} {o : Option V} {L : List Addr} (h : SlotR K mg ρ F H s o L) {a : Addr} (ha : a ∈ L) : ∃ vs, H a = some (.lst vs) := by
  cases s with
  | emp => have e : L = [] := h; subst e; cases ha
  | val d => obtain ⟨rfl, _⟩ := h; cases ha
  | own xs => obtain ⟨p, vs, _, rfl, e, _⟩ := h; have q : a = p := (by simpa using ha); subst q; exact ⟨vs, e⟩
  | io k xs => obtain ⟨_, rfl, vs, e, _⟩ := h; have q : a = ρ k := (by simpa using ha); subst q; exact ⟨vs, e⟩
  | fn x => obtain ⟨rfl, _⟩ := h; cases ha
theorem slotsR_mem : ∀ {δ : Ev} {σ : L2.St} {L : List Addr}, SlotsR K mg ρ F H δ σ L → ∀ {a : Addr}, a ∈ L → ∃ vs, H a = some (.lst vs)
  | [], [], _, h, a, ha => by have e : _ = [] := h; subst e; cases ha
  | [], _ :: _, _, h, _, _ => h.elim
  | _ :: _, [], _, h, _, _ => h.elim
  | s :: ss, o :: os, _, h, a, ha => by
    obtain ⟨L1, L2, rfl, h1, h2⟩ := h
    rcases List.mem_append.mp ha with q | q
    · exact slotR_mem h1 q
    · exact slotsR_mem h2 q
theorem slotR_mono {s : Sl} {o : Option V} {L : List Addr} (e : Same F F') (k : ∀ a ∈ L, H' a = H a) (h : SlotR K mg ρ F H s o L) : SlotR K mg ρ F' H' s o L := by
  cases s with
  | emp => exact h
  | val d => obtain ⟨q, v, e1, e2⟩ := h; exact ⟨q, v, e1, e2.up e⟩
  | own xs => obtain ⟨p, vs, h1, rfl, h3, h4⟩ := h; exact ⟨p, vs, h1, rfl, (k p (by simp)).trans h3, h4.up e⟩
  | io j xs => obtain ⟨h1, rfl, vs, h3, h4⟩ := h; exact ⟨h1, rfl, vs, (k _ (by simp)).trans h3, h4.up e⟩
  | fn x => exact h
theorem slotsR_mono (e : Same F F') : ∀ {δ : Ev} {σ : L2.St} {L : List Addr}, (∀ a ∈ L, H' a = H a) → SlotsR K mg ρ F H δ σ L → SlotsR K mg ρ F' H' δ σ L
  | [], [], _, _, h => h
  | [], _ :: _, _, _, h => h.elim
  | _ :: _, [], _, _, h => h.elim
  | s :: ss, o :: os, _, k, h => by
    obtain ⟨L1, L2, rfl, h1, h2⟩ := h
    exact ⟨L1, L2, rfl, slotR_mono e (fun a ha => k a (List.mem_append_left _ ha)) h1, slotsR_mono e (fun a ha => k a (List.mem_append_right _ ha)) h2⟩
theorem slotsR_len : ∀ {δ : Ev} {σ : L2.St} {L : List Addr}, SlotsR K mg ρ F H δ σ L → δ.length = σ.length
  | [], [], _, _ => rfl
  | [], _ :: _, _, h => h.elim
  | _ :: _, [], _, h => h.elim
  | s :: ss, o :: os, _, h => by
    obtain ⟨L1, L2, rfl, h1, h2⟩ := h
    simp [slotsR_len h2]
/-- the i-th slot taken out, another one put in -/
theorem slotsR_at : ∀ {δ : Ev} {σ : L2.St} {L : List Addr} {i : Nat} {s : Sl}, SlotsR K mg ρ F H δ σ L → δ[i]? = some s →
    ∃ o L1 Li L2, σ[i]? = some o ∧ L = L1 ++ (Li ++ L2) ∧ SlotR K mg ρ F H s o Li ∧
      ∀ {F' H' : Hp}, Same F F' → (∀ a ∈ L1 ++ L2, H' a = H a) → ∀ s' o' Ls, SlotR K mg ρ F' H' s' o' Ls → SlotsR K mg ρ F' H' (δ.set i s') (σ.set i o') (L1 ++ (Ls ++ L2))
  | [], _, _, _, _, _, e => by simp at e
  | _ :: _, [], _, _, _, h, _ => h.elim
  | s0 :: ss, o0 :: os, _, 0, s, h, e => by
    obtain ⟨L1, L2, rfl, h1, h2⟩ := h
    simp at e; subst e
    refine ⟨o0, [], L1, L2, rfl, rfl, h1, fun e k s' o' Ls q => ⟨Ls, L2, rfl, q, slotsR_mono e k h2⟩⟩
  | s0 :: ss, o0 :: os, _, i + 1, s, h, e => by
    obtain ⟨L1, L2, rfl, h1, h2⟩ := h
    obtain ⟨o, M1, Mi, M2, e1, rfl, e3, e4⟩ := slotsR_at (i := i) h2 (by simpa using e)
    refine ⟨o, L1 ++ M1, Mi, M2, by simpa using e1, by simp, e3, fun e k s' o' Ls q => ⟨L1, M1 ++ (Ls ++ M2), by simp, slotR_mono e (fun a ha => k a (by simp [ha])) h1, e4 e (fun a ha => k a ?_) s' o' Ls q⟩⟩
    rw [List.append_assoc]
    exact List.mem_append_right _ ha

theorem same_upd {p : Addr} {o : HO} (h : F p = none) : Same F (upd F p o) := fun a u e => by
  rw [upd_ne (ne_of_none e h)]; exact e
theorem Rel.len (r : Rel K mg ρ Fr F δ σ H) : δ.length = σ.length := let ⟨_, h, _⟩ := r.own; slotsR_len h
theorem Rel.fF (r : Rel K mg ρ Fr F δ σ H) {p : Addr} (h : H p = none) : F p = none := r.sub.free h
theorem Rel.fFr (r : Rel K mg ρ Fr F δ σ H) {p : Addr} (h : H p = none) : Fr p = none := r.fr.free h
/-- a new object that nobody tells of -/
theorem Rel.new {p : Addr} {o : HO} (r : Rel K mg ρ Fr F δ σ H) (h : H p = none) : Rel K mg ρ Fr F δ σ (upd H p o) := by
  obtain ⟨L, h1, h2, h3⟩ := r.own
  refine ⟨r.sub.trans (same_upd h), r.fr.trans (same_upd h), r.dis, L, slotsR_mono (Same.refl _) (fun a ha => ?_) h1, h2, h3⟩
  obtain ⟨vs, e⟩ := slotsR_mem h1 ha
  exact upd_ne (ne_of_none e h)
/-- a new object that stays -/
theorem Rel.frz {p : Addr} {o : HO} (r : Rel K mg ρ Fr F δ σ H) (h : H p = none) : Rel K mg ρ Fr (upd F p o) δ σ (upd H p o) := by
  obtain ⟨L, h1, h2, h3⟩ := r.own
  have hL : ∀ a ∈ L, a ≠ p := fun a ha => by
    obtain ⟨vs, e⟩ := slotsR_mem h1 ha
    exact ne_of_none e h
  refine ⟨fun a u e => ?_, r.fr.trans (same_upd h), fun a ha => ?_, L, slotsR_mono (same_upd (r.fF h)) (fun a ha => upd_ne (hL a ha)) h1, h2, fun a ha => ⟨?_, (h3 a ha).2⟩⟩
  · by_cases q : a = p
    · subst q; rw [upd_same] at e ⊢; exact e
    · rw [upd_ne q] at e ⊢; exact r.sub a u e
  · have q : a ≠ p := fun z => by subst z; exact ha (r.fFr h)
    rw [upd_ne q]; exact r.dis a ha
  · rw [upd_ne (hL a ha)]; exact (h3 a ha).1
/-- a new list, owned -/
theorem Rel.temp {p : Addr} {vs : List V} {xs : List PyData} (r : Rel K mg ρ Fr F δ σ H) (h : H p = none) (d : DpAll K F vs xs) : Rel K mg ρ Fr F (.own xs :: δ) (some (.ref p) :: σ) (upd H p (.lst vs)) := by
  obtain ⟨L, h1, h2, h3⟩ := r.own
  have hL : ∀ a ∈ L, a ≠ p := fun a ha => by
    obtain ⟨vs, e⟩ := slotsR_mem h1 ha
    exact ne_of_none e h
  refine ⟨r.sub.trans (same_upd h), r.fr.trans (same_upd h), r.dis, p :: L, ⟨[p], L, rfl, ⟨p, vs, rfl, rfl, upd_same, d⟩, slotsR_mono (Same.refl _) (fun a ha => upd_ne (hL a ha)) h1⟩, ?_, ?_⟩
  · exact List.nodup_cons.mpr ⟨fun q => hL p q rfl, h2⟩
  · intro a ha
    rcases List.mem_cons.mp ha with rfl | ha
    · exact ⟨r.fF h, r.fFr h⟩
    · exact h3 a ha
theorem Rel.tval {v : V} {d : PyData} (r : Rel K mg ρ Fr F δ σ H) (h : Dp K F v d) : Rel K mg ρ Fr F (.val d :: δ) (some v :: σ) H := by
  obtain ⟨L, h1, h2, h3⟩ := r.own
  exact ⟨r.sub, r.fr, r.dis, L, ⟨[], L, rfl, ⟨rfl, v, rfl, h⟩, h1⟩, h2, h3⟩
theorem Rel.tail {s : Sl} {o : Option V} (r : Rel K mg ρ Fr F (s :: δ) (o :: σ) H) : Rel K mg ρ Fr F δ σ H := by
  obtain ⟨L, ⟨L1, L2, rfl, h1, h2⟩, h3, h4⟩ := r.own
  exact ⟨r.sub, r.fr, r.dis, L2, h2, (List.nodup_append.mp h3).2.1, fun a ha => h4 a (List.mem_append_right _ ha)⟩
theorem Rel.get {i : Nat} {d : PyData} (r : Rel K mg ρ Fr F δ σ H) (h : δ[i]? = some (.val d)) : ∃ v, σ[i]? = some (some v) ∧ Dp K F v d := by
  obtain ⟨L, h1, h2, h3⟩ := r.own
  obtain ⟨o, L1, Li, L2, e1, e2, ⟨_, v, rfl, e3⟩, _⟩ := slotsR_at h1 h
  exact ⟨v, e1, e3⟩
/-- the owned lists: own, io -/
def Sl.isOwn : Sl → Option (List PyData)
  | .own xs => some xs
  | .io _ xs => some xs
  | _ => none
def Sl.put : Sl → List PyData → Sl
  | .own _, ys => .own ys
  | .io k _, ys => .io k ys
  | s, _ => s
theorem Rel.getOwn {i : Nat} {s : Sl} {xs : List PyData} (r : Rel K mg ρ Fr F δ σ H) (h : δ[i]? = some s) (hs : s.isOwn = some xs) :
    ∃ p vs, σ[i]? = some (some (.ref p)) ∧ H p = some (.lst vs) ∧ DpAll K F vs xs ∧ F p = none ∧
      ∀ vs' xs', DpAll K F vs' xs' → Rel K mg ρ Fr F (δ.set i (s.put xs')) σ (upd H p (.lst vs')) := by
  obtain ⟨L, h1, h2, h3⟩ := r.own
  obtain ⟨o, L1, Li, L2, e1, rfl, e3, e4⟩ := slotsR_at h1 h
  have key : ∃ p vs, o = some (.ref p) ∧ Li = [p] ∧ H p = some (.lst vs) ∧ DpAll K F vs xs ∧ ∀ vs' xs' H', H' p = some (.lst vs') → DpAll K F vs' xs' → SlotR K mg ρ F H' (s.put xs') o [p] := by
    cases s with
    | own ys =>
      obtain ⟨p, vs, rfl, rfl, a1, a2⟩ := e3
      cases (show some ys = some xs from hs)
      exact ⟨p, vs, rfl, rfl, a1, a2, fun vs' xs' H' b1 b2 => ⟨p, vs', rfl, rfl, b1, b2⟩⟩
    | io k ys =>
      obtain ⟨rfl, rfl, vs, a1, a2⟩ := e3
      cases (show some ys = some xs from hs)
      exact ⟨_, vs, rfl, rfl, a1, a2, fun vs' xs' H' b1 b2 => ⟨rfl, rfl, vs', b1, b2⟩⟩
    | emp => cases hs
    | val d => cases hs
    | fn x => cases hs
  obtain ⟨p, vs, rfl, rfl, a1, a2, a3⟩ := key
  have hp := h3 p (by simp)
  have nL : ∀ a ∈ L1 ++ L2, a ≠ p := fun a ha z => by
    subst z
    have q := List.nodup_append.mp h2
    rcases List.mem_append.mp ha with w | w
    · exact q.2.2 a w a (by simp) rfl
    · exact (List.nodup_cons.mp q.2.1).1 w
  refine ⟨p, vs, e1, a1, a2, hp.1, fun vs' xs' d => ⟨fun a u e => ?_, fun a u e => ?_, r.dis, _, ?_, h2, h3⟩⟩
  · rw [upd_ne (ne_of_none e hp.1)]; exact r.sub a u e
  · rw [upd_ne (ne_of_none e hp.2)]; exact r.fr a u e
  · have q := e4 (F' := F) (H' := upd H p (.lst vs')) (Same.refl _) (fun a ha => upd_ne (nL a ha)) (s.put xs') (some (.ref p)) [p] (a3 vs' xs' _ upd_same d)
    have es : σ.set i (some (.ref p)) = σ := by
      apply List.ext_getElem?
      intro j
      by_cases hj : i = j
      · subst hj
        have hl : i < σ.length := by
          by_cases hl : i < σ.length
          · exact hl
          · rw [List.getElem?_eq_none (by omega)] at e1; cases e1
        rw [List.getElem?_set_self hl, e1]
      · rw [List.getElem?_set_ne hj]
    rw [es] at q
    exact q
/-- a temporary goes into a slot -/
theorem Rel.set {s : Sl} {o : Option V} {i : Nat} (r : Rel K mg ρ Fr F (s :: δ) (o :: σ) H) (hi : i < δ.length) : Rel K mg ρ Fr F (δ.set i s) (σ.set i o) H := by
  obtain ⟨L, ⟨L0, L', rfl, h0, h1⟩, h3, h4⟩ := r.own
  obtain ⟨o', L1, Li, L2, e1, rfl, e3, e4⟩ := slotsR_at h1 (List.getElem?_eq_getElem hi)
  have nd : (L1 ++ (L0 ++ L2)).Nodup := by
    have p : (L0 ++ (L1 ++ (Li ++ L2))).Perm (Li ++ (L1 ++ (L0 ++ L2))) := by
      have a : (L0 ++ (L1 ++ (Li ++ L2))).Perm ((L1 ++ (Li ++ L2)) ++ L0) := List.perm_append_comm
      have b : (L1 ++ (Li ++ L2)).Perm (Li ++ (L1 ++ L2)) := by
        rw [← List.append_assoc, ← List.append_assoc]
        exact List.Perm.append_right _ List.perm_append_comm
      have c : (L1 ++ (L0 ++ L2)).Perm ((L1 ++ L2) ++ L0) := by
        rw [List.append_assoc]
        exact List.Perm.append_left _ List.perm_append_comm
      refine a.trans ((b.append_right L0).trans ?_)
      rw [List.append_assoc]
      exact List.Perm.append_left _ c.symm
    exact (List.nodup_append.mp (p.nodup_iff.mp h3)).2.1
  refine ⟨r.sub, r.fr, r.dis, _, e4 (F' := F) (H' := H) (Same.refl _) (fun _ _ => rfl) s o L0 h0, nd, fun a ha => h4 a ?_⟩
  simp only [List.mem_append] at ha ⊢
  rcases ha with q | q | q
  · exact .inr (.inl q)
  · exact .inl q
  · exact .inr (.inr (.inr q))
/-- a temporary is frozen -/
def Sl.frz : Sl → Res PyData
  | .val d => .ok d
  | .own xs => .ok (.list xs)
  | .io _ xs => .ok (.list xs)
  | _ => .no
theorem Rel.melt {s : Sl} {o : Option V} {d : PyData} (r : Rel K mg ρ Fr F (s :: δ) (o :: σ) H) (h : s.frz = .ok d) :
    ∃ v F', o = some v ∧ Same F F' ∧ Rel K mg ρ Fr F' δ σ H ∧ Dp K F' v d := by
  have hL : ∀ p vs xs L2, o = some (.ref p) → H p = some (.lst vs) → DpAll K F vs xs → SlotsR K mg ρ F H δ σ L2 → ([p] ++ L2).Nodup → (∀ a ∈ [p] ++ L2, F a = none ∧ Fr a = none) → d = .list xs →
      ∃ v F', o = some v ∧ Same F F' ∧ Rel K mg ρ Fr F' δ σ H ∧ Dp K F' v d := by
    intro p vs xs L2 ho hp hd hS hn hf e
    have h1 := hf p (by simp)
    have e1 : Same F (upd F p (.lst vs)) := same_upd h1.1
    have hn' : p ∉ L2 := (List.nodup_cons.mp hn).1
    refine ⟨_, upd F p (.lst vs), ho, e1, ⟨fun a u q => ?_, r.fr, fun a ha => ?_, L2, slotsR_mono e1 (fun _ _ => rfl) hS, (List.nodup_cons.mp hn).2, fun a ha => ⟨?_, (hf a (by simp [ha])).2⟩⟩, e ▸ .lst (SqL.of upd_same) (hd.up e1)⟩
    · by_cases z : a = p
      · subst z; rw [upd_same] at q; rw [hp]; exact q
      · rw [upd_ne z] at q; exact r.sub a u q
    · rw [upd_ne (fun z => by subst z; exact ha h1.2)]; exact r.dis a ha
    · rw [upd_ne (fun z => by subst z; exact hn' ha)]; exact (hf a (by simp [ha])).1
  obtain ⟨L, ⟨L1, L2, rfl, h1, h2⟩, h3, h4⟩ := r.own
  cases s with
  | val d' =>
    obtain ⟨rfl, v, rfl, e⟩ := h1
    cases (show Res.ok d' = .ok d from h)
    exact ⟨v, F, rfl, Same.refl _, r.tail, e⟩
  | own xs =>
    obtain ⟨p, vs, rfl, rfl, a1, a2⟩ := h1
    cases (show Res.ok (PyData.list xs) = .ok d from h)
    exact hL p vs xs L2 rfl a1 a2 h2 h3 h4 rfl
  | io k xs =>
    obtain ⟨rfl, rfl, vs, a1, a2⟩ := h1
    cases (show Res.ok (PyData.list xs) = .ok d from h)
    exact hL _ vs xs L2 rfl a1 a2 h2 h3 h4 rfl
  | emp => cases h
  | fn x => cases h
/-- an owned temporary waits in the frame -/
theorem Rel.stash {xs : List PyData} {o : Option V} (r : Rel K mg ρ Fr F (.own xs :: δ) (o :: σ) H) :
    ∃ p vs, o = some (.ref p) ∧ H p = some (.lst vs) ∧ Fr p = none ∧ F p = none ∧ DpAll K F vs xs ∧ Rel K mg ρ (upd Fr p (.lst vs)) F δ σ H := by
  obtain ⟨L, ⟨L1, L2, rfl, ⟨p, vs, rfl, rfl, a1, a2⟩, h2⟩, h3, h4⟩ := r.own
  have h1 := h4 p (by simp)
  refine ⟨p, vs, rfl, a1, h1.2, h1.1, a2, r.sub, fun a u q => ?_, fun a ha => ?_, L2, h2, (List.nodup_cons.mp h3).2, fun a ha => ⟨(h4 a (by simp [ha])).1, ?_⟩⟩
  · by_cases z : a = p
    · subst z; rw [upd_same] at q; rw [a1]; exact q
    · rw [upd_ne z] at q; exact r.fr a u q
  · by_cases z : a = p
    · subst z; exact h1.1
    · rw [upd_ne z] at ha; exact r.dis a ha
  · rw [upd_ne (fun z => by subst z; exact (List.nodup_cons.mp h3).1 ha)]; exact (h4 a (by simp [ha])).2
theorem Rel.unstash {xs : List PyData} {p : Addr} {vs : List V} (r : Rel K mg ρ (upd Fr p (.lst vs)) F δ σ H) (hf : Fr p = none) (d : DpAll K F vs xs) :
    Rel K mg ρ Fr F (.own xs :: δ) (some (.ref p) :: σ) H := by
  obtain ⟨L, h1, h2, h3⟩ := r.own
  have hp : H p = some (.lst vs) := r.fr p _ upd_same
  have np : p ∉ L := fun q => by have := (h3 p q).2; rw [upd_same] at this; cases this
  refine ⟨r.sub, fun a u q => r.fr a u ?_, fun a ha => r.dis a ?_, p :: L, ⟨[p], L, rfl, ⟨p, vs, rfl, rfl, hp, d⟩, h1⟩, List.nodup_cons.mpr ⟨np, h2⟩, fun a ha => ?_⟩
  · rw [upd_ne (ne_of_none q hf)]; exact q
  · rw [upd_ne (fun z => by subst z; exact ha hf)]; exact ha
  · rcases List.mem_cons.mp ha with e1 | hb
    · rw [e1]; exact ⟨r.dis _ (by rw [upd_same]; simp), hf⟩
    · have q := h3 a hb
      rw [upd_ne (fun z => by rw [z] at hb; exact np hb)] at q
      exact q
/-- all slots wait in the frame -/
theorem Rel.hide (r : Rel K mg ρ Fr F δ σ H) : ∃ Fr', (∀ a, Fr' a = none → Fr a = none) ∧ (∀ ρ', Rel K mg ρ' Fr' F [] [] H) ∧
    ∀ {ρ' : Nat → Addr} {F' H' : Hp} {ss : Ev} {os : L2.St}, Same F F' → Rel K mg ρ' Fr' F' ss os H' → Rel K mg ρ' Fr F' ss os H' ∧ Rel K mg ρ Fr F' δ σ H' := by
  obtain ⟨L, h1, h2, h3⟩ := r.own
  refine ⟨fun a => if a ∈ L then H a else Fr a, fun a q => ?_, fun ρ' => ⟨r.sub, fun a u q => ?_, fun a ha => ?_, [], rfl, List.nodup_nil, fun _ z => nomatch z⟩, fun {ρ' F' H' ss os} e r' => ?_⟩
  · by_cases z : a ∈ L
    · exact (h3 a z).2
    · simp only [z, if_false] at q; exact q
  · by_cases z : a ∈ L
    · simp only [z, if_true] at q; exact q
    · simp only [z, if_false] at q; exact r.fr a u q
  · by_cases z : a ∈ L
    · exact (h3 a z).1
    · simp only [z, if_false] at ha; exact r.dis a ha
  · obtain ⟨L', g1, g2, g3⟩ := r'.own
    have hLH : ∀ a ∈ L, H' a = H a := fun a ha => by
      obtain ⟨vs, e1⟩ := slotsR_mem h1 ha
      rw [e1]
      exact r'.fr a _ (by simp only [ha, if_true]; exact e1)
    have hLF : ∀ a ∈ L, F' a = none := fun a ha => r'.dis a (by
      obtain ⟨vs, e1⟩ := slotsR_mem h1 ha
      simp only [ha, if_true, e1]; simp)
    have hFr : ∀ a u, Fr a = some u → (if a ∈ L then H a else Fr a) = some u := fun a u q => by
      by_cases z : a ∈ L
      · rw [(h3 a z).2] at q; cases q
      · rw [if_neg z]; exact q
    have frS : Same Fr H' := fun a u q => r'.fr a u (hFr a u q)
    have disF : ∀ a, Fr a ≠ none → F' a = none := fun a ha => by
      obtain ⟨u, q⟩ := Option.ne_none_iff_exists'.mp ha
      refine r'.dis a (fun z => ?_)
      have q2 := hFr a u q
      rw [show (if a ∈ L then H a else Fr a) = none from z] at q2
      cases q2
    refine ⟨⟨r'.sub, frS, disF, L', g1, g2, fun a ha => ⟨(g3 a ha).1, ?_⟩⟩, ⟨r'.sub, frS, disF, L, slotsR_mono e hLH h1, h2, fun a ha => ⟨hLF a ha, (h3 a ha).2⟩⟩⟩
    have q := (g3 a ha).2
    by_cases z : a ∈ L
    · exact (h3 a z).2
    · simp only [z, if_false] at q; exact q
end
end CW

namespace CW
open PySem PySem.Spec PyProof.Rows L2

/-! judgements -/
section
variable (K : PySem.W.Frag) (mg : Str → Option Value)
def SndE (t : TE) (m : ME) : Prop := ∀ {ρ : Nat → Addr} {Fr F : Hp} {δ : Ev} {σ : L2.St} {H : Hp} {d : PyData} {δ' : Ev}, Rel K mg ρ Fr F δ σ H → m δ = .ok (d, δ') →
  ∀ {Q : VK}, (∀ F' v H', Same F F' → Rel K mg ρ Fr F' δ' σ H' → Dp K F' v d → Q v H') → t σ H Q
def SndN (t : TE) (m : MN) : Prop := ∀ {ρ : Nat → Addr} {Fr F : Hp} {δ : Ev} {σ : L2.St} {H : Hp} {d : Sl} {δ' : Ev}, Rel K mg ρ Fr F δ σ H → m δ = .ok (d, δ') →
  ∀ {Q : VK}, (∀ F' v H', Same F F' → Rel K mg ρ Fr F' (d :: δ') (some v :: σ) H' → Q v H') → t σ H Q
def SndT (t : TT) (m : MT) : Prop := ∀ {ρ : Nat → Addr} {Fr F : Hp} {δ : Ev} {σ : L2.St} {H : Hp} {d : Bool} {δ' : Ev}, Rel K mg ρ Fr F δ σ H → m δ = .ok (d, δ') →
  ∀ {Q : Bool → Hp → Prop}, (∀ F' H', Same F F' → Rel K mg ρ Fr F' δ' σ H' → Q d H') → t σ H Q
def SndA (t : TA) (m : MA) : Prop := ∀ {ρ : Nat → Addr} {Fr F : Hp} {δ : Ev} {σ : L2.St} {H : Hp} {d : List PyData} {δ' : Ev}, Rel K mg ρ Fr F δ σ H → m δ = .ok (d, δ') →
  ∀ {Q : List V → Hp → Prop}, (∀ F' vs H', Same F F' → Rel K mg ρ Fr F' δ' σ H' → DpAll K F' vs d → Q vs H') → t σ H Q
end
structure RE (X : Cx) (e : Expr) (t : TE) (m : ME) : Prop where
  pe : PE X e t
  sn : SndE X.K X.mg t m
structure RN (X : Cx) (e : Expr) (t : TE) (m : MN) : Prop where
  pe : PE X e t
  sn : SndN X.K X.mg t m
structure RT (X : Cx) (e : Expr) (t : TT) (m : MT) : Prop where
  pt : PT X e t
  sn : SndT X.K X.mg t m
structure RW (X : Cx) (e : Expr) (t : TT) (m : MT) : Prop where
  pw : PW X e t
  sn : SndT X.K X.mg t m
structure RA (X : Cx) (es : List Expr) (t : TA) (m : MA) : Prop where
  pa : PA X es t
  sn : SndA X.K X.mg t m

section
variable {X : Cx} {K : PySem.W.Frag} {mg : Str → Option Value}

/-! names and constants -/
def mVar (i : Nat) : ME := fun δ => match δ[i]? with
  | some (.val d) => .ok (d, δ)
  | _ => .no
theorem sn_var (i : Nat) : SndE K mg (tVar i) (mVar i) := fun {ρ Fr F δ σ H d δ'} r h {Q} q => by
  unfold mVar at h
  split at h
  · rename_i d' e
    cases h
    obtain ⟨v, e1, e2⟩ := r.get e
    exact ⟨v, e1, q F v H (Same.refl _) r e2⟩
  · cases h
theorem re_var (i : Nat) {x : Str} {pos : Pos} (hN : X.N[i]? = some x := by rfl) (hv : Vis X.env.scope x := by first | exact Or.inl rfl | exact Or.inr (Or.inl rfl) | exact Or.inr (Or.inr rfl)) (hd : (x == ("__debug__" : Str)) = false := by decide)
    (hcd : (x == ("__classdict__" : Str)) = false := by decide) : RE X (.Name x pos) (tVar i) (mVar i) := ⟨pe_var hN hv hd hcd, sn_var i⟩
def mC (d : PyData) : ME := fun δ => .ok (d, δ)
theorem sn_c {v : V} {d : PyData} (h : ∀ F, Dp K F v d) : SndE K mg (tC v) (mC d) := fun {ρ Fr F δ σ H d δ'} r e {Q} q => by
  cases e
  exact q F v H (Same.refl _) r (h F)
theorem re_int {i : Int} {j pos} : RE X (.Constant (.int i) j pos) (tC (.int i)) (mC (.int i)) := ⟨pe_int, sn_c fun _ => .int i⟩
theorem re_bl {b j pos} : RE X (.Constant (.bool b) j pos) (tC (.bl b)) (mC (.bool b)) := ⟨pe_bl, sn_c fun _ => .bl b⟩
theorem re_non {j pos} : RE X (.Constant .none j pos) (tC .non) (mC .none) := ⟨pe_non, sn_c fun _ => .non⟩
theorem re_str {x j pos} : RE X (.Constant (.str x) j pos) (tC (.str x)) (mC (.str x)) := ⟨pe_str, sn_c fun _ => .str x⟩

/-! a new value is frozen; a value is a slot -/
def mFrz (m : MN) : ME := fun δ => match m δ with
  | .ok (s, δ1) => (match s.frz with
    | .ok d => .ok (d, δ1)
    | .err c d => .err c d
    | .no => .no)
  | .err c d => .err c d
  | .no => .no
theorem sn_frz {t : TE} {m : MN} (h : SndN K mg t m) : SndE K mg t (mFrz m) := fun {ρ Fr F δ σ H d δ'} r e {Q} q => by
  unfold mFrz at e
  split at e
  · rename_i s δ1 e1
    split at e
    · rename_i d' e2
      cases e
      refine h r e1 fun F1 v H1 s1 r1 => ?_
      obtain ⟨v', F2, e3, s2, r2, d2⟩ := r1.melt e2
      cases e3
      exact q F2 v H1 (s1.trans s2) r2 d2
    · cases e
    · cases e
  · cases e
  · cases e
theorem re_new {e : Expr} {t : TE} {m : MN} (h : RN X e t m) : RE X e t (mFrz m) := ⟨h.pe, sn_frz h.sn⟩
def mVal (m : ME) : MN := fun δ => match m δ with
  | .ok (d, δ1) => .ok (.val d, δ1)
  | .err c d => .err c d
  | .no => .no
theorem sn_val {t : TE} {m : ME} (h : SndE K mg t m) : SndN K mg t (mVal m) := fun {ρ Fr F δ σ H d δ'} r e {Q} q => by
  unfold mVal at e
  split at e
  · rename_i d' δ1 e1
    cases e
    exact h r e1 fun F1 v H1 s1 r1 d1 => q F1 v H1 s1 (r1.tval d1)
  · cases e
  · cases e
theorem rn_val {e : Expr} {t : TE} {m : ME} (h : RE X e t m) : RN X e t (mVal m) := ⟨h.pe, sn_val h.sn⟩

/-! two-place operations -/
def mOp (f : PyData → PyData → Res PyData) (ma mb : ME) : ME := fun δ => match ma δ with
  | .ok (x, δ1) => (match mb δ1 with
    | .ok (y, δ2) => (match f x y with
      | .ok z => .ok (z, δ2)
      | .err c d => .err c d
      | .no => .no)
    | .err c d => .err c d
    | .no => .no)
  | .err c d => .err c d
  | .no => .no
def OpV (K : PySem.W.Frag) (mg : Str → Option Value) (r : R2) (f : PyData → PyData → Res PyData) : Prop := ∀ {ρ : Nat → Addr} {Fr F : Hp} {δ : Ev} {σ : L2.St} {H : Hp} {x y : V} {a b c : PyData}, Rel K mg ρ Fr F δ σ H → Dp K F x a → Dp K F y b → f a b = .ok c →
  ∀ {Q : VK}, (∀ F' v H', Same F F' → Rel K mg ρ Fr F' δ σ H' → Dp K F' v c → Q v H') → r x y H Q
theorem sn_op {r : R2} {f} {ta tb : TE} {ma mb : ME} (ho : OpV K mg r f) (ha : SndE K mg ta ma) (hb : SndE K mg tb mb) : SndE K mg (tOp r ta tb) (mOp f ma mb) := fun {ρ Fr F δ σ H d δ'} r e {Q} q => by
  unfold mOp at e
  split at e
  · rename_i x δ1 e1
    split at e
    · rename_i y δ2 e2
      split at e
      · rename_i z e3
        cases e
        refine ha r e1 fun F1 v H1 s1 r1 d1 => ?_
        refine hb r1 e2 fun F2 u H2 s2 r2 d2 => ?_
        exact ho r2 (d1.up s2) d2 e3 fun F3 z H3 s3 r3 d3 => q F3 z H3 ((s1.trans s2).trans s3) r3 d3
      · cases e
      · cases e
    · cases e
    · cases e
  · cases e
  · cases e
theorem opv_or {r r' : R2} {f f' g : PyData → PyData → Res PyData} (h : OpV K mg r f) (h' : OpV K mg r' f') (c : ∀ a b z, g a b = .ok z → f a b = .ok z ∨ f' a b = .ok z) : OpV K mg (fun x y H Q => r x y H Q ∨ r' x y H Q) g :=
  fun {ρ Fr F δ σ H x y a b c'} rl dx dy e {Q} q => by
    rcases c a b c' e with k | k
    · exact .inl (h rl dx dy k q)
    · exact .inr (h' rl dx dy k q)
theorem re_op {op : Operator} {r : R2} {f} {a b : Expr} {ta tb : TE} {ma mb : ME} {pos : Pos} (ho : OpR X (binaryOp op) r) (hv : OpV X.K X.mg r f) (ha : RE X a ta ma) (hb : RE X b tb mb) : RE X (.BinOp a op b pos) (tOp r ta tb) (mOp f ma mb) :=
  ⟨pe_op ho ha.pe hb.pe, sn_op hv ha.sn hb.sn⟩
/-- ints -/
def fI (C : Int → Int → Bool) (g : Int → Int → PyData) : PyData → PyData → Res PyData
  | .int i, .int j => if C i j then .ok (g i j) else .no
  | _, _ => .no
theorem opv_I {C : Int → Int → Prop} {c : Int → Int → Bool} {g : Int → Int → V} {g' : Int → Int → PyData} (hc : ∀ i j, c i j = true → C i j) (hg : ∀ i j F, Dp K F (g i j) (g' i j)) : OpV K mg (rI C g) (fI c g') := fun {ρ Fr F δ σ H x y a b z} r dx dy e {Q} q => by
  unfold fI at e
  split at e
  · split at e
    · rename_i i j h
      cases e; cases dx; cases dy
      exact ⟨i, j, rfl, rfl, hc i j h, q F _ H (Same.refl _) r (hg i j F)⟩
    · cases e
  · cases e
def fI0 (g : Int → Int → PyData) : PyData → PyData → Res PyData
  | .int i, .int j => .ok (g i j)
  | _, _ => .no
theorem opv_I0 {g : Int → Int → V} {g' : Int → Int → PyData} (hg : ∀ i j F, Dp K F (g i j) (g' i j)) : OpV K mg (rI0 g) (fI0 g') := fun {ρ Fr F δ σ H x y a b z} r dx dy e {Q} q => by
  unfold fI0 at e
  split at e
  · rename_i i j
    cases e; cases dx; cases dy
    exact ⟨i, j, rfl, rfl, q F _ H (Same.refl _) r (hg i j F)⟩
  · cases e
theorem opr_none {f : Value → Value → Sem Value} : OpR X f (fun _ _ _ _ => False) := by
  intro pins s σ H x y v u Q I rx ry h
  exact h.elim

/-! + -/
def rCatS (K : PySem.W.Frag) : R2 := fun x y H Q => ∃ l b xs zs, x = .ref l ∧ y = .ref b ∧ SqL K H l xs ∧ SqL K H b zs ∧ xs.length + zs.length ≤ sizeLine ∧ ∀ p, H p = none → Q (.ref p) (upd H p (.lst (xs ++ zs)))
theorem op_catS : OpR X (binaryOp .Add) (rCatS X.K) := by
  intro pins s σ H x y v u Q I hx hy h
  obtain ⟨l, b, xs, zs, rfl, rfl, h1, h2, hz, q⟩ := h
  cases hx; cases hy
  obtain ⟨its, ra, pa, za⟩ := I.list h1
  obtain ⟨itb, rb, pb, zb⟩ := I.list h2
  have la := ra.length
  have lb := rb.length
  obtain ⟨⟨oc, od, dt, sl⟩, n, g1, c1, d1, e1⟩ := pa
  obtain ⟨⟨oc2, od2, dt2, sl2⟩, n2, g2, c2, d2, e2⟩ := pb
  simp only at c1 d1 e1 c2 d2 e2
  subst c1 d1 e1 c2 d2 e2
  refine concat_meets ⟨_, g1, rfl⟩ ⟨_, g2, rfl⟩ noFill_list_add seq_list_add PySem.F.slot_list_add PySem.F.entry_list_add (PySem.F.args_list_add_2 _ _)
    (list_addW l b its.toArray itb.toArray n n2 none none sl sl2 (by simp only [List.size_toArray]; omega)) ⟨g1, g2, ?_⟩
  rw [List.append_toArray]
  exact ⟨.ref _, _, I.lnew (t' := s.toks) (ra.append rb) (by rw [List.length_append]; omega), rfl, q _ I.fresh⟩
def fAdd : PyData → PyData → Res PyData
  | .int i, .int j => .ok (.int (i + j))
  | .str i, .str j => if i.length + j.length ≤ sizeLine then .ok (.str (i ++ j)) else .no
  | .list xs, .list ys => if xs.length + ys.length ≤ sizeLine then .ok (.list (xs ++ ys)) else .no
  | .tuple xs, .tuple ys => if xs.length + ys.length ≤ sizeLine then .ok (.tuple (xs ++ ys)) else .no
  | _, _ => .no
def rAddA (K : PySem.W.Frag) : R2 := fun x y H Q => (∃ i j, x = .int i ∧ y = .int j ∧ Q (.int (i + j)) H) ∨ ((∃ i j, x = .str i ∧ y = .str j ∧ i.length + j.length ≤ sizeLine ∧ Q (.str (i ++ j)) H) ∨ (rCatS K x y H Q ∨ rCatA K x y H Q))

theorem op_addA : OpR X (binaryOp .Add) (rAddA X.K) := op_add.or (op_add_str.or (op_catS.or op_catA))
theorem opv_add : OpV K mg (rAddA K) fAdd := fun {ρ Fr F δ σ H x y a b c} r dx dy e {Q} q => by
  unfold fAdd at e
  split at e
  · cases e; cases dx; cases dy
    exact .inl ⟨_, _, rfl, rfl, q F _ H (Same.refl _) r (.int _)⟩
  · split at e
    · rename_i hz
      cases e; cases dx; cases dy
      exact .inr (.inl ⟨_, _, rfl, rfl, hz, q F _ H (Same.refl _) r (.str _)⟩)
    · cases e
  · split at e
    · rename_i xs ys hz
      cases e
      cases dx with
      | lst h1 d1 =>
        cases dy with
        | lst h2 d2 =>
          refine .inr (.inr (.inl ⟨_, _, _, _, rfl, rfl, sqL_mono r.sub h1, sqL_mono r.sub h2, by rw [dpa_len d1, dpa_len d2]; exact hz, fun p hp => ?_⟩))
          exact q _ _ _ (same_upd (r.fF hp)) (r.frz hp) (.lst (SqL.of upd_same) (dpa_app (d1.up (same_upd (r.fF hp))) (d2.up (same_upd (r.fF hp)))))
    · cases e
  · split at e
    · rename_i xs ys hz
      cases e
      cases dx with
      | tup h1 d1 =>
        cases dy with
        | tup h2 d2 =>
          refine .inr (.inr (.inr ⟨_, _, _, _, rfl, rfl, sqT_mono r.sub h1, sqT_mono r.sub h2, by rw [dpa_len d1, dpa_len d2]; exact hz, fun e1 => ?_, fun _ e2 => ?_, fun _ _ p hp => ?_⟩))
          · subst e1
            have : xs = [] := List.length_eq_zero_iff.mp (dpa_len d1).symm
            subst this
            exact q F _ H (Same.refl _) r (.tup h2 (by simpa using d2))
          · subst e2
            have : ys = [] := List.length_eq_zero_iff.mp (dpa_len d2).symm
            subst this
            exact q F _ H (Same.refl _) r (.tup h1 (by simpa using d1))
          · exact q _ _ _ (same_upd (r.fF hp)) (r.frz hp) (.tup (SqT.of upd_same) (dpa_app (d1.up (same_upd (r.fF hp))) (d2.up (same_upd (r.fF hp)))))
    · cases e
  · cases e
theorem re_add {a b : Expr} {ta tb : TE} {ma mb : ME} {pos : Pos} (ha : RE X a ta ma) (hb : RE X b tb mb) : RE X (.BinOp a .Add b pos) (tOp (rAddA X.K) ta tb) (mOp fAdd ma mb) := re_op op_addA opv_add ha hb
/-! the other operators on ints -/
def fSub : PyData → PyData → Res PyData := fI0 fun i j => .int (i - j)
theorem re_sub {a b : Expr} {ta tb : TE} {ma mb : ME} {pos : Pos} (ha : RE X a ta ma) (hb : RE X b tb mb) : RE X (.BinOp a .Sub b pos) (tOp (rI0 fun i j => .int (i - j)) ta tb) (mOp fSub ma mb) := re_op op_sub (opv_I0 fun _ _ _ => .int _) ha hb
/-- a product: one factor within 64 bits; a list of so many turns -/
def fMul : PyData → PyData → Res PyData
  | .int i, .int j => if (-(2 ^ 64) < i ∧ i < 2 ^ 64) ∨ (-(2 ^ 64) < j ∧ j < 2 ^ 64) then .ok (.int (i * j)) else .no
  | .list xs, .int k => if -(2 ^ 63) ≤ k ∧ k < 2 ^ 63 ∧ xs.length * k.toNat ≤ sizeLine then .ok (.list (List.replicate k.toNat xs).flatten) else .no
  | _, _ => .no
def fMulI : PyData → PyData → Res PyData
  | .int i, .int j => if (-(2 ^ 64) < i ∧ i < 2 ^ 64) ∨ (-(2 ^ 64) < j ∧ j < 2 ^ 64) then .ok (.int (i * j)) else .no
  | _, _ => .no
theorem opv_mul : OpV K mg (rI CMul fun i j => .int (i * j)) fMulI := fun {ρ Fr F δ σ H x y a b c} r dx dy e {Q} q => by
  unfold fMulI at e
  split at e
  · split at e
    · rename_i h
      cases e; cases dx; cases dy
      exact ⟨_, _, rfl, rfl, h, q F _ H (Same.refl _) r (.int _)⟩
    · cases e
  · cases e
theorem re_mul {a b : Expr} {ta tb : TE} {ma mb : ME} {pos : Pos} (ha : RE X a ta ma) (hb : RE X b tb mb) : RE X (.BinOp a .Mult b pos) (tOp (rI CMul fun i j => .int (i * j)) ta tb) (mOp fMulI ma mb) := re_op op_mul opv_mul ha hb
/-- // by a positive divisor below 2^30 -/
def CDivB (i j : Int) : Prop := 0 < j ∧ j.natAbs.log2 < 9000
def fDiv : PyData → PyData → Res PyData := fI (fun _ j => decide (0 < j ∧ j.natAbs.log2 < 9000)) fun i j => .int (i / j)
theorem re_fdiv {a b : Expr} {ta tb : TE} {ma mb : ME} {pos : Pos} (ha : RE X a ta ma) (hb : RE X b tb mb) : RE X (.BinOp a .FloorDiv b pos) (tOp (rI CDivW fun i j => .int (i / j)) ta tb) (mOp fDiv ma mb) :=
  re_op op_fdivW (opv_I (fun i j h => of_decide_eq_true h) fun _ _ _ => .int _) ha hb
def fMod : PyData → PyData → Res PyData := fI (fun _ j => decide (0 < j)) fun i j => .int (i % j)
theorem re_mod {a b : Expr} {ta tb : TE} {ma mb : ME} {pos : Pos} (ha : RE X a ta ma) (hb : RE X b tb mb) : RE X (.BinOp a .Mod b pos) (tOp (rI (fun _ j => 0 < j) fun i j => .int (i % j)) ta tb) (mOp fMod ma mb) :=
  re_op op_mod (opv_I (fun i j h => of_decide_eq_true h) fun _ _ _ => .int _) ha hb
def CPowB (i j : Int) : Prop := 0 ≤ j ∧ (Builtin.Int.intBits i : Int) * j ≤ 2 ^ 27
theorem op_powB : OpR X (binaryOp .Pow) (rI CPowB fun i j => .int (i ^ j.toNat)) := opI fun _ _ _ _ _ _ _ hc q => PyProof.Rows.pow_int hc.1 hc.2 q
def fPow : PyData → PyData → Res PyData := fI (fun i j => decide (0 ≤ j ∧ (Builtin.Int.intBits i : Int) * j ≤ 2 ^ 27)) fun i j => .int (i ^ j.toNat)
theorem re_pow {a b : Expr} {ta tb : TE} {ma mb : ME} {pos : Pos} (ha : RE X a ta ma) (hb : RE X b tb mb) : RE X (.BinOp a .Pow b pos) (tOp (rI CPowB fun i j => .int (i ^ j.toNat)) ta tb) (mOp fPow ma mb) :=
  re_op op_powB (opv_I (fun i j h => of_decide_eq_true h) fun _ _ _ => .int _) ha hb
def fShl : PyData → PyData → Res PyData := fI (fun i j => decide (0 ≤ j ∧ j ≤ 1000000 ∧ i.natAbs < 2 ^ 64)) fun i j => .int (i * 2 ^ j.toNat)
theorem re_shl {a b : Expr} {ta tb : TE} {ma mb : ME} {pos : Pos} (ha : RE X a ta ma) (hb : RE X b tb mb) : RE X (.BinOp a .LShift b pos) (tOp (rI CPow fun i j => .int (i * 2 ^ j.toNat)) ta tb) (mOp fShl ma mb) :=
  re_op op_shl (opv_I (fun i j h => of_decide_eq_true h) fun _ _ _ => .int _) ha hb
/-! -x -/
def mNeg (m : ME) : ME := fun δ => match m δ with
  | .ok (.int i, δ1) => .ok (.int (-i), δ1)
  | .err c d => .err c d
  | _ => .no
theorem sn_neg {t : TE} {m : ME} (h : SndE K mg t m) : SndE K mg (tUn (rU fun i => .int (-i)) t) (mNeg m) := fun {ρ Fr F δ σ H d δ'} r e {Q} q => by
  unfold mNeg at e
  split at e
  · rename_i i δ1 e1
    cases e
    exact h r e1 fun F1 v H1 s1 r1 d1 => by cases d1; exact ⟨i, rfl, q F1 _ H1 s1 r1 (.int _)⟩
  · cases e
  · cases e
theorem re_neg {a : Expr} {t : TE} {m : ME} {pos : Pos} (h : RE X a t m) : RE X (.UnaryOp .USub a pos) (tUn (rU fun i => .int (-i)) t) (mNeg m) := ⟨pe_un un_neg h.pe, sn_neg h.sn⟩

/-! comparisons -/
def fEq : PyData → PyData → Res PyData
  | .str x, .str y => .ok (.bool (decide (x = y)))
  | a, b => if SeqAt.shaped a = true ∧ SeqAt.shaped b = true then .ok (.bool (PyData.eqv a b)) else .no
def fNe : PyData → PyData → Res PyData
  | .str x, .str y => .ok (.bool (!decide (x = y)))
  | a, b => if SeqAt.shaped a = true ∧ SeqAt.shaped b = true then .ok (.bool (!PyData.eqv a b)) else .no
def rEqA (K : PySem.W.Frag) : R2 := fun x y H Q => rEqD K x y H Q ∨ rEq x y H Q
def rNeA (K : PySem.W.Frag) : R2 := fun x y H Q => rNeD K x y H Q ∨ rNe x y H Q
theorem op_eqA (hu : X.A.units + 64 < cLine) : OpR X (compareOp .Eq) (rEqA X.K) := (op_eqD hu).or op_eq
theorem op_neA (hu : X.A.units + 64 < cLine) : OpR X (compareOp .NotEq) (rNeA X.K) := (op_neD hu).or op_ne
theorem dec_str (x y : Str) : decide (V.str x = V.str y) = decide (x = y) := by
  by_cases h : x = y
  · subst h; simp
  · have h' : V.str x ≠ V.str y := fun z => h (by cases z; rfl)
    rw [decide_eq_false h, decide_eq_false h']
theorem opv_eq : OpV K mg (rEqA K) fEq := fun {ρ Fr F δ σ H x y a b c} r dx dy e {Q} q => by
  unfold fEq at e
  split at e
  · cases e; cases dx; cases dy
    exact .inr ⟨rfl, by rw [dec_str]; exact q F _ H (Same.refl _) r (.bl _)⟩
  · split at e
    · rename_i h
      cases e
      exact .inl ⟨a, b, dp_old _ _ (dx.up r.sub) (shaped_noDict h.1), dp_old _ _ (dy.up r.sub) (shaped_noDict h.2), h.1, h.2, q F _ H (Same.refl _) r (.bl _)⟩
    · cases e
theorem opv_ne : OpV K mg (rNeA K) fNe := fun {ρ Fr F δ σ H x y a b c} r dx dy e {Q} q => by
  unfold fNe at e
  split at e
  · cases e; cases dx; cases dy
    exact .inr ⟨rfl, by rw [dec_str]; exact q F _ H (Same.refl _) r (.bl _)⟩
  · split at e
    · rename_i h
      cases e
      exact .inl ⟨a, b, dp_old _ _ (dx.up r.sub) (shaped_noDict h.1), dp_old _ _ (dy.up r.sub) (shaped_noDict h.2), h.1, h.2, q F _ H (Same.refl _) r (.bl _)⟩
    · cases e
def fLt : PyData → PyData → Res PyData
  | .int i, .int j => .ok (.bool (decide (i < j)))
  | .str i, .str j => .ok (.bool (decide (i.cps.toList < j.cps.toList)))
  | _, _ => .no
def fLe : PyData → PyData → Res PyData
  | .int i, .int j => .ok (.bool (decide (i ≤ j)))
  | .str i, .str j => .ok (.bool (decide (i.cps.toList ≤ j.cps.toList)))
  | _, _ => .no
def fLtI : PyData → PyData → Res PyData := fI0 fun i j => .bool (decide (i < j))
def fLeI : PyData → PyData → Res PyData := fI0 fun i j => .bool (decide (i ≤ j))
def fGtI : PyData → PyData → Res PyData := fI0 fun i j => .bool (decide (j < i))
def fGeI : PyData → PyData → Res PyData := fI0 fun i j => .bool (decide (j ≤ i))
/-- is None, is True, is False -/
def fIsN : PyData → PyData → Res PyData
  | a, .none => .ok (.bool (match a with | .none => true | _ => false))
  | .bool a, .bool b => .ok (.bool (a == b))
  | _, _ => .no
def fNotN : PyData → PyData → Res PyData
  | a, .none => .ok (.bool (match a with | .none => false | _ => true))
  | .bool a, .bool b => .ok (.bool (!(a == b)))
  | _, _ => .no
def rIsA (neg : Bool) : R2 := fun x y H Q => (y = .non ∧ Q (.bl (if neg then !decide (x = .non) else decide (x = .non))) H) ∨ ∃ a b, x = .bl a ∧ y = .bl b ∧ Q (.bl (if neg then !(a == b) else a == b)) H
theorem bool_beq (a b : Bool) : (Value.bool a == Value.bool b) = (a == b) := by cases a <;> cases b <;> rfl
theorem op_isN : OpR X (compareOp .Is) (rIsA false) := by
  intro pins s σ H x y v u Q I rx ry h
  rcases h with ⟨rfl, q⟩ | ⟨a, b, rfl, rfl, q⟩
  · exact L2.op_isN pins s σ H x .non v u Q I rx ry ⟨rfl, q⟩
  · cases (show v = Value.bool a from rx)
    cases (show u = Value.bool b from ry)
    exact wpAny_is_plain rfl (fin_bl I q (bool_beq a b).symm)
theorem op_notN : OpR X (compareOp .IsNot) (rIsA true) := by
  intro pins s σ H x y v u Q I rx ry h
  rcases h with ⟨rfl, q⟩ | ⟨a, b, rfl, rfl, q⟩
  · exact L2.op_notN pins s σ H x .non v u Q I rx ry ⟨rfl, q⟩
  · cases (show v = Value.bool a from rx)
    cases (show u = Value.bool b from ry)
    exact wpAny_isNot_plain rfl (fin_bl I q (congrArg not (bool_beq a b).symm))
theorem opv_isN : OpV K mg (rIsA false) fIsN := fun {ρ Fr F δ σ H x y a b c} r dx dy e {Q} q => by
  unfold fIsN at e
  split at e
  · rename_i a'
    cases e; cases dy
    refine .inl ⟨rfl, q F _ H (Same.refl _) r ?_⟩
    cases dx <;> exact .bl _
  · cases e; cases dx; cases dy
    exact .inr ⟨_, _, rfl, rfl, q F _ H (Same.refl _) r (.bl _)⟩
  · cases e
theorem opv_notN : OpV K mg (rIsA true) fNotN := fun {ρ Fr F δ σ H x y a b c} r dx dy e {Q} q => by
  unfold fNotN at e
  split at e
  · rename_i a'
    cases e; cases dy
    refine .inl ⟨rfl, q F _ H (Same.refl _) r ?_⟩
    cases dx <;> exact .bl _
  · cases e; cases dx; cases dy
    exact .inr ⟨_, _, rfl, rfl, q F _ H (Same.refl _) r (.bl _)⟩
  · cases e
/-- {} -/
theorem re_dict0 {pos : Pos} : RE X (.Dict [] [] pos) tDNewK (mC (.dict [])) := ⟨pe_dnewK, fun {ρ Fr F δ σ H d δ'} r e {Q} q => by
  cases e
  exact fun p hp => q _ _ _ (same_upd (r.fF hp)) (r.frz hp) (.dct upd_same)⟩
/-- x in a list or tuple of flat things -/
def flatD : PyData → Bool
  | .none | .bool _ | .int _ | .str _ => true
  | _ => false
def inD (x : PyData) (xs : List PyData) : Bool := xs.any fun y => PyData.eqv y x
def fIn (neg : Bool) : PyData → PyData → Res PyData
  | x, .list xs => if flatD x = true ∧ xs.all flatD = true then .ok (.bool (if neg then !inD x xs else inD x xs)) else .no
  | x, .tuple xs => if flatD x = true ∧ xs.all flatD = true then .ok (.bool (if neg then !inD x xs else inD x xs)) else .no
  | _, _ => .no
theorem flat_of {F : Hp} {v : V} {d : PyData} (h : Dp K F v d) (f : flatD d = true) : flatV v = true := by
  cases h <;> first | rfl | cases f
theorem flats_of {F : Hp} : ∀ {vs : List V} {ds : List PyData}, DpAll K F vs ds → ds.all flatD = true → vs.all flatV = true
  | _, [], h, _ => by cases h; rfl
  | _, d :: ds, h, f => by
    cases h with
    | cons h1 h2 =>
      rw [List.all_cons, Bool.and_eq_true] at f ⊢
      exact ⟨flat_of h1 f.1, flats_of h2 f.2⟩
theorem eqv_flat {F : Hp} {v u : V} {d e : PyData} (h : Dp K F v d) (h' : Dp K F u e) (f : flatD d = true) (f' : flatD e = true) : eqV v u = PyData.eqv d e := by
  cases h <;> first | cases f | skip
  all_goals (cases h' <;> first | cases f' | skip)
  all_goals first | rfl | (simp only [eqV, PyData.eqv]; done) | (simp [eqV, PyData.eqv]; done)
theorem inV_of {F : Hp} {u : V} {e : PyData} (h' : Dp K F u e) (f' : flatD e = true) : ∀ {vs : List V} {ds : List PyData}, DpAll K F vs ds → ds.all flatD = true → inV u vs = inD e ds
  | _, [], h, _ => by cases h; rfl
  | _, d :: ds, h, f => by
    cases h with
    | cons h1 h2 =>
      rw [List.all_cons, Bool.and_eq_true] at f
      have ih := inV_of h' f' h2 f.2
      unfold inV inD at ih ⊢
      rw [List.any_cons, List.any_cons, ih, eqv_flat h1 h' f.1 f']
theorem opv_in (neg : Bool) : OpV K mg (rIn K neg) (fIn neg) := fun {ρ Fr F δ σ H x y a b c} r dx dy e {Q} q => by
  unfold fIn at e
  split at e
  · split at e
    · rename_i xs hf
      cases e
      cases dy with
      | lst h1 d1 =>
        refine ⟨_, _, rfl, .inl (sqL_mono r.sub h1), flat_of dx hf.1, flats_of d1 hf.2, ?_⟩
        rw [inV_of dx hf.1 d1 hf.2]
        exact q F _ H (Same.refl _) r (.bl _)
    · cases e
  · split at e
    · rename_i xs hf
      cases e
      cases dy with
      | tup h1 d1 =>
        refine ⟨_, _, rfl, .inr (sqT_mono r.sub h1), flat_of dx hf.1, flats_of d1 hf.2, ?_⟩
        rw [inV_of dx hf.1 d1 hf.2]
        exact q F _ H (Same.refl _) r (.bl _)
    · cases e
  · cases e
theorem re_cmp {op : CmpOp} {r : R2} {f} {a b : Expr} {ta tb : TE} {ma mb : ME} {pos : Pos} (ho : OpR X (compareOp op) r) (hv : OpV X.K X.mg r f) (ha : RE X a ta ma) (hb : RE X b tb mb) (hm : behindInMarks op b = false) : RE X (.Compare a [op] [b] pos) (tOp r ta tb) (mOp f ma mb) :=
  ⟨pe_cmpR ho ha.pe hb.pe hm, sn_op hv ha.sn hb.sn⟩

/-! tests -/
def mT (m : ME) : MT := fun δ => match m δ with
  | .ok (.bool b, δ1) => .ok (b, δ1)
  | .err c d => .err c d
  | _ => .no
theorem sn_test {t : TE} {m : ME} (h : SndE K mg t m) : SndT K mg (tTest t) (mT m) := fun {ρ Fr F δ σ H d δ'} r e {Q} q => by
  unfold mT at e
  split at e
  · rename_i b δ1 e1
    cases e
    exact h r e1 fun F1 v H1 s1 r1 d1 => by cases d1; exact ⟨_, rfl, q F1 H1 s1 r1⟩
  · cases e
  · cases e
theorem sn_tB {t : TE} {m : ME} (h : SndE K mg t m) : SndT K mg (tB t) (mT m) := fun {ρ Fr F δ σ H d δ'} r e {Q} q => by
  unfold mT at e
  split at e
  · rename_i b δ1 e1
    cases e
    exact h r e1 fun F1 v H1 s1 r1 d1 => by cases d1; exact ⟨_, rfl, q F1 H1 s1 r1⟩
  · cases e
  · cases e
theorem rt_cmp {op : CmpOp} {r : R2} {f} {a b : Expr} {ta tb : TE} {ma mb : ME} {pos : Pos} (ho : OpR X (compareOp op) r) (hv : OpV X.K X.mg r f) (ha : RE X a ta ma) (hb : RE X b tb mb) (hm : behindInMarks op b = false) : RT X (.Compare a [op] [b] pos) (tTest (tOp r ta tb)) (mT (mOp f ma mb)) :=
  ⟨pt_cmpR ho ha.pe hb.pe hm, sn_test (sn_op hv ha.sn hb.sn)⟩
theorem rt_val {e : Expr} {t : TE} {m : ME} (h : RE X e t m) (he : ∀ whole, isTrue e X.env whole = (do let v ← whole; standAt e.pos; holding [v] (truthy v)) := by intro _; rfl) : RT X e (tB t) (mT m) := ⟨pt_val h.pe he, sn_tB h.sn⟩
def mAndT (a b : MT) : MT := fun δ => match a δ with
  | .ok (true, δ1) => b δ1
  | .ok (false, δ1) => .ok (false, δ1)
  | .err c d => .err c d
  | .no => .no
def mOrT (a b : MT) : MT := fun δ => match a δ with
  | .ok (true, δ1) => .ok (true, δ1)
  | .ok (false, δ1) => b δ1
  | .err c d => .err c d
  | .no => .no
def mNotT (a : MT) : MT := fun δ => match a δ with
  | .ok (b, δ1) => .ok (!b, δ1)
  | .err c d => .err c d
  | .no => .no
theorem sn_and {t u : TT} {a b : MT} (ha : SndT K mg t a) (hb : SndT K mg u b) : SndT K mg (tAnd t u) (mAndT a b) := fun {ρ Fr F δ σ H d δ'} r e {Q} q => by
  unfold mAndT at e
  split at e
  · rename_i δ1 e1
    exact ha r e1 fun F1 H1 s1 r1 => iteT (hb r1 e fun F2 H2 s2 r2 => q F2 H2 (s1.trans s2) r2)
  · rename_i δ1 e1
    cases e
    exact ha r e1 fun F1 H1 s1 r1 => iteF (q F1 H1 s1 r1)
  · cases e
  · cases e
theorem sn_or {t u : TT} {a b : MT} (ha : SndT K mg t a) (hb : SndT K mg u b) : SndT K mg (tOr t u) (mOrT a b) := fun {ρ Fr F δ σ H d δ'} r e {Q} q => by
  unfold mOrT at e
  split at e
  · rename_i δ1 e1
    cases e
    exact ha r e1 fun F1 H1 s1 r1 => iteT (q F1 H1 s1 r1)
  · rename_i δ1 e1
    exact ha r e1 fun F1 H1 s1 r1 => iteF (hb r1 e fun F2 H2 s2 r2 => q F2 H2 (s1.trans s2) r2)
  · cases e
  · cases e
theorem sn_not {t : TT} {a : MT} (ha : SndT K mg t a) : SndT K mg (tNot t) (mNotT a) := fun {ρ Fr F δ σ H d δ'} r e {Q} q => by
  unfold mNotT at e
  split at e
  · rename_i b δ1 e1
    cases e
    exact ha r e1 fun F1 H1 s1 r1 => q F1 H1 s1 r1
  · cases e
  · cases e
section
variable {a b : Expr} {rest : List Expr} {t u : TT} {ma mb : MT} {pos : Pos}
theorem rw_and1 (ha : RT X a t ma) : RW X (.BoolOp .And [a] pos) t ma := ⟨pw_and1 ha.pt, ha.sn⟩
theorem rw_or1 (ha : RT X a t ma) : RW X (.BoolOp .Or [a] pos) t ma := ⟨pw_or1 ha.pt, ha.sn⟩
theorem rw_and (ha : RT X a t ma) (hb : RW X (.BoolOp .And (b :: rest) pos) u mb) : RW X (.BoolOp .And (a :: b :: rest) pos) (tAnd t u) (mAndT ma mb) := ⟨pw_and ha.pt hb.pw, sn_and ha.sn hb.sn⟩
theorem rw_or (ha : RT X a t ma) (hb : RW X (.BoolOp .Or (b :: rest) pos) u mb) : RW X (.BoolOp .Or (a :: b :: rest) pos) (tOr t u) (mOrT ma mb) := ⟨pw_or ha.pt hb.pw, sn_or ha.sn hb.sn⟩
theorem RW.rt {e : Expr} (h : RW X e t ma) : RT X e t ma := ⟨h.pw.pt, h.sn⟩
theorem rt_not (ha : RT X a t ma) : RT X (.UnaryOp .Not a pos) (tNot t) (mNotT ma) := ⟨pt_not ha.pt, sn_not ha.sn⟩
end
/-! and, or, not of truth values as values -/
def mAndV (a b : ME) : ME := fun δ => match a δ with
  | .ok (.bool true, δ1) => b δ1
  | .ok (.bool false, δ1) => .ok (.bool false, δ1)
  | .err c d => .err c d
  | _ => .no
def mOrV (a b : ME) : ME := fun δ => match a δ with
  | .ok (.bool true, δ1) => .ok (.bool true, δ1)
  | .ok (.bool false, δ1) => b δ1
  | .err c d => .err c d
  | _ => .no
def mNotV (a : ME) : ME := fun δ => match a δ with
  | .ok (.bool b, δ1) => .ok (.bool !b, δ1)
  | .err c d => .err c d
  | _ => .no
theorem sn_andV {t u : TE} {a b : ME} (ha : SndE K mg t a) (hb : SndE K mg u b) : SndE K mg (tAndV t u) (mAndV a b) := fun {ρ Fr F δ σ H d δ'} r e {Q} q => by
  unfold mAndV at e
  split at e
  · rename_i δ1 e1
    exact ha r e1 fun F1 v H1 s1 r1 d1 => by cases d1; exact ⟨true, rfl, iteT (hb r1 e fun F2 v2 H2 s2 r2 => q F2 v2 H2 (s1.trans s2) r2)⟩
  · rename_i δ1 e1
    cases e
    exact ha r e1 fun F1 v H1 s1 r1 d1 => by cases d1; exact ⟨false, rfl, iteF (q F1 _ H1 s1 r1 (.bl _))⟩
  · cases e
  · cases e
theorem sn_orV {t u : TE} {a b : ME} (ha : SndE K mg t a) (hb : SndE K mg u b) : SndE K mg (tOrV t u) (mOrV a b) := fun {ρ Fr F δ σ H d δ'} r e {Q} q => by
  unfold mOrV at e
  split at e
  · rename_i δ1 e1
    cases e
    exact ha r e1 fun F1 v H1 s1 r1 d1 => by cases d1; exact ⟨true, rfl, iteT (q F1 _ H1 s1 r1 (.bl _))⟩
  · rename_i δ1 e1
    exact ha r e1 fun F1 v H1 s1 r1 d1 => by cases d1; exact ⟨false, rfl, iteF (hb r1 e fun F2 v2 H2 s2 r2 => q F2 v2 H2 (s1.trans s2) r2)⟩
  · cases e
  · cases e
theorem sn_notV {t : TE} {a : ME} (ha : SndE K mg t a) : SndE K mg (tNotV t) (mNotV a) := fun {ρ Fr F δ σ H d δ'} r e {Q} q => by
  unfold mNotV at e
  split at e
  · rename_i b δ1 e1
    cases e
    exact ha r e1 fun F1 v H1 s1 r1 d1 => by cases d1; exact ⟨b, rfl, q F1 _ H1 s1 r1 (.bl _)⟩
  · cases e
  · cases e
section
variable {a b : Expr} {rest : List Expr} {t u : TE} {ma mb : ME} {pos : Pos}
theorem re_one {op} (ha : RE X a t ma) : RE X (.BoolOp op [a] pos) t ma := ⟨pe_one ha.pe, ha.sn⟩
theorem re_and (ha : RE X a t ma) (hb : RE X (.BoolOp .And (b :: rest) pos) u mb) : RE X (.BoolOp .And (a :: b :: rest) pos) (tAndV t u) (mAndV ma mb) := ⟨pe_and ha.pe hb.pe, sn_andV ha.sn hb.sn⟩
theorem re_or (ha : RE X a t ma) (hb : RE X (.BoolOp .Or (b :: rest) pos) u mb) : RE X (.BoolOp .Or (a :: b :: rest) pos) (tOrV t u) (mOrV ma mb) := ⟨pe_or ha.pe hb.pe, sn_orV ha.sn hb.sn⟩
theorem re_not (ha : RE X a t ma) : RE X (.UnaryOp .Not a pos) (tNotV t) (mNotV ma) := ⟨pe_not ha.pe, sn_notV ha.sn⟩
end
/-! a if c else b -/
def mIf (c : MT) (a b : ME) : ME := fun δ => match c δ with
  | .ok (true, δ1) => a δ1
  | .ok (false, δ1) => b δ1
  | .err c d => .err c d
  | .no => .no
theorem sn_if {c : TT} {t u : TE} {mc : MT} {a b : ME} (hc : SndT K mg c mc) (ha : SndE K mg t a) (hb : SndE K mg u b) : SndE K mg (tIf c t u) (mIf mc a b) := fun {ρ Fr F δ σ H d δ'} r e {Q} q => by
  unfold mIf at e
  split at e
  · rename_i δ1 e1
    exact hc r e1 fun F1 H1 s1 r1 => iteT (ha r1 e fun F2 v2 H2 s2 r2 => q F2 v2 H2 (s1.trans s2) r2)
  · rename_i δ1 e1
    exact hc r e1 fun F1 H1 s1 r1 => iteF (hb r1 e fun F2 v2 H2 s2 r2 => q F2 v2 H2 (s1.trans s2) r2)
  · cases e
  · cases e
theorem re_if {c a b : Expr} {tc : TT} {t u : TE} {mc : MT} {ma mb : ME} {pos : Pos} (hc : RT X c tc mc) (ha : RE X a t ma) (hb : RE X b u mb) : RE X (.IfExp c a b pos) (tIf tc t u) (mIf mc ma mb) := ⟨pe_ifExp hc.pt ha.pe hb.pe, sn_if hc.sn ha.sn hb.sn⟩

/-! argument lists, displays -/
def mNil : MA := fun δ => .ok ([], δ)
def mCons (a : ME) (as : MA) : MA := fun δ => match a δ with
  | .ok (x, δ1) => (match as δ1 with
    | .ok (xs, δ2) => .ok (x :: xs, δ2)
    | .err c d => .err c d
    | .no => .no)
  | .err c d => .err c d
  | .no => .no
theorem sn_nil : SndA K mg tNil mNil := fun {ρ Fr F δ σ H d δ'} r e {Q} q => by
  cases e
  exact q F [] H (Same.refl _) r .nil
theorem sn_cons {t : TE} {u : TA} {a : ME} {as : MA} (ha : SndE K mg t a) (hs : SndA K mg u as) : SndA K mg (tCons t u) (mCons a as) := fun {ρ Fr F δ σ H d δ'} r e {Q} q => by
  unfold mCons at e
  split at e
  · rename_i x δ1 e1
    split at e
    · rename_i xs δ2 e2
      cases e
      exact ha r e1 fun F1 v H1 s1 r1 d1 => hs r1 e2 fun F2 vs H2 s2 r2 d2 => q F2 (v :: vs) H2 (s1.trans s2) r2 (.cons (d1.up s2) d2)
    · cases e
    · cases e
  · cases e
  · cases e
theorem ra_nil : RA X [] tNil mNil := ⟨pa_nil, sn_nil⟩
theorem ra_cons {e : Expr} {es : List Expr} {t : TE} {u : TA} {a : ME} {as : MA} (ha : RE X e t a) (hs : RA X es u as) (hq : starEach (e :: es) X.env = (false, eval e X.env) :: starEach es X.env := by rfl) : RA X (e :: es) (tCons t u) (mCons a as) :=
  ⟨pa_cons ha.pe hs.pa hq, sn_cons ha.sn hs.sn⟩
/-- a tuple; a new list -/
def mTup (as : MA) : ME := fun δ => match as δ with
  | .ok (xs, δ1) => if xs.length ≤ 100000 then .ok (.tuple xs, δ1) else .no
  | .err c d => .err c d
  | .no => .no
def mLst (as : MA) : MN := fun δ => match as δ with
  | .ok (xs, δ1) => if xs.length ≤ 100000 then .ok (.own xs, δ1) else .no
  | .err c d => .err c d
  | .no => .no
theorem lim_sz {n : Nat} (h : n ≤ 100000) : n ≤ sizeLine := Nat.le_trans h (by decide)
theorem sn_tup {u : TA} {as : MA} (hs : SndA K mg u as) : SndE K mg (tTup u) (mTup as) := fun {ρ Fr F δ σ H d δ'} r e {Q} q => by
  unfold mTup at e
  split at e
  · rename_i xs δ1 e1
    split at e
    · rename_i hz
      cases e
      refine hs r e1 fun F1 vs H1 s1 r1 d1 => ⟨by rw [dpa_len d1]; exact lim_sz hz, fun p hp => ?_⟩
      have s2 := same_upd (o := .tup vs) (r1.fF hp)
      exact q _ _ _ (s1.trans s2) (r1.frz hp) (.tup (SqT.of upd_same) (d1.up s2))
    · cases e
  · cases e
  · cases e
theorem sn_lst {u : TA} {as : MA} (hs : SndA K mg u as) : SndN K mg (tLst u) (mLst as) := fun {ρ Fr F δ σ H d δ'} r e {Q} q => by
  unfold mLst at e
  split at e
  · rename_i xs δ1 e1
    split at e
    · rename_i hz
      cases e
      refine hs r e1 fun F1 vs H1 s1 r1 d1 => ⟨by rw [dpa_len d1]; exact lim_sz hz, fun p hp => ?_⟩
      exact q _ _ _ s1 (r1.temp hp d1)
    · cases e
  · cases e
  · cases e
theorem re_tup {es : List Expr} {u : TA} {as : MA} {x1} {pos : Pos} (h : RA X es u as) : RE X (.Tuple es x1 pos) (tTup u) (mTup as) := ⟨pe_tup h.pa, sn_tup h.sn⟩
theorem rn_lst {es : List Expr} {u : TA} {as : MA} {pos : Pos} (h : RA X es u as) : RN X (.List es pos) (tLst u) (mLst as) := ⟨pe_lst h.pa, sn_lst h.sn⟩
end
end CW

namespace CW
open PySem PySem.Spec PyProof.Rows L2
section
variable {X : Cx} {K : PySem.W.Frag} {mg : Str → Option Value}

/-! a < b < c -/
def mChain (f g : PyData → PyData → Res PyData) (ma mb mc : ME) : ME := fun δ => match ma δ with
  | .ok (x, δ1) => (match mb δ1 with
    | .ok (y, δ2) => (match f x y with
      | .ok (.bool true) => (match mc δ2 with
        | .ok (z, δ3) => (match g y z with
          | .ok w => .ok (w, δ3)
          | .err c d => .err c d
          | .no => .no)
        | .err c d => .err c d
        | .no => .no)
      | .ok (.bool false) => .ok (.bool false, δ2)
      | .err c d => .err c d
      | _ => .no)
    | .err c d => .err c d
    | .no => .no)
  | .err c d => .err c d
  | .no => .no
theorem sn_chain {r r' : R2} {f g} {ta tb tc : TE} {ma mb mc : ME} (ho : OpV K mg r f) (ho' : OpV K mg r' g) (ha : SndE K mg ta ma) (hb : SndE K mg tb mb) (hc : SndE K mg tc mc) : SndE K mg (tChain r r' ta tb tc) (mChain f g ma mb mc) := fun {ρ Fr F δ σ H d δ'} r e {Q} q => by
  unfold mChain at e
  split at e
  · rename_i x δ1 e1
    split at e
    · rename_i y δ2 e2
      split at e
      · rename_i e3
        split at e
        · rename_i z δ3 e4
          split at e
          · rename_i w e5
            cases e
            refine ha r e1 fun F1 v H1 s1 r1 d1 => hb r1 e2 fun F2 u H2 s2 r2 d2 => ho r2 (d1.up s2) d2 e3 fun F3 k H3 s3 r3 d3 => ?_
            cases d3
            refine ⟨true, rfl, iteT ?_⟩
            refine hc r3 e4 fun F4 w4 H4 s4 r4 d4 => ho' r4 (d2.up (s3.trans s4)) d4 e5 fun F5 v5 H5 s5 r5 d5 => q F5 v5 H5 ((((s1.trans s2).trans s3).trans s4).trans s5) r5 d5
          · cases e
          · cases e
        · cases e
        · cases e
      · rename_i e3
        cases e
        refine ha r e1 fun F1 v H1 s1 r1 d1 => hb r1 e2 fun F2 u H2 s2 r2 d2 => ho r2 (d1.up s2) d2 e3 fun F3 k H3 s3 r3 d3 => ?_
        cases d3
        exact ⟨false, rfl, iteF (q F3 _ H3 ((s1.trans s2).trans s3) r3 (.bl _))⟩
      · cases e
      · cases e
    · cases e
    · cases e
  · cases e
  · cases e

/-! e[i] -/
theorem dpa_atI {F : Hp} {vs : List V} {ds : List PyData} {i : Int} {d : PyData} (h : DpAll K F vs ds) (e : atI ds i = some d) : ∃ v, atI vs i = some v ∧ Dp K F v d := by
  unfold atI at e ⊢
  rw [dpa_len h]
  cases q : ixN ds.length i with
  | none => rw [q] at e; cases e
  | some j =>
    rw [q] at e
    obtain ⟨v, e1, e2⟩ := dpa_get h (show ds[j]? = some d from e)
    exact ⟨v, e1, e2⟩
def fIx : PyData → PyData → Res PyData
  | .list xs, .int i => (match atI xs i with
    | some d => .ok d
    | none => .no)
  | .tuple xs, .int i => (match atI xs i with
    | some d => .ok d
    | none => .no)
  | .str z, .int i => if z.length ≤ sizeLine then (match atI z.cps.toList i with
    | some c => .ok (.str ⟨#[c]⟩)
    | none => .no) else .no
  | _, _ => .no
theorem opv_ix : OpV K mg (rIx K) fIx := fun {ρ Fr F δ σ H x y a b c} r dx dy e {Q} q => by
  unfold fIx at e
  split at e
  · split at e
    · rename_i xs i d e1
      cases e
      cases dx with
      | lst h1 d1 =>
        cases dy
        obtain ⟨v, e2, e3⟩ := dpa_atI d1 e1
        exact .inl ⟨_, _, _, v, rfl, rfl, sqL_mono r.sub h1, e2, q F v H (Same.refl _) r e3⟩
    · cases e
  · split at e
    · rename_i xs i d e1
      cases e
      cases dx with
      | tup h1 d1 =>
        cases dy
        obtain ⟨v, e2, e3⟩ := dpa_atI d1 e1
        exact .inr (.inl ⟨_, _, _, v, rfl, rfl, sqT_mono r.sub h1, e2, q F v H (Same.refl _) r e3⟩)
    · cases e
  · split at e
    · rename_i hz
      split at e
      · rename_i e1
        cases e; cases dx; cases dy
        exact .inr (.inr ⟨_, _, _, rfl, rfl, hz, e1, q F _ H (Same.refl _) r (.str _)⟩)
      · cases e
    · cases e
  · cases e
theorem re_ix {a b : Expr} {ta tb : TE} {ma mb : ME} {pos : Pos} (ha : RE X a ta ma) (hb : RE X b tb mb) (hs : PlainIx b := by exact fun _ _ => rfl) : RE X (.Subscript a b pos) (tOp (rIx X.K) ta tb) (mOp fIx ma mb) := ⟨pe_ix ix_seq ha.pe hb.pe hs, sn_op opv_ix ha.sn hb.sn⟩

/-! e[lo:hi] -/
abbrev MO := Ev → Res (Option Int × Ev)
def SndO (K : PySem.W.Frag) (mg : Str → Option Value) (t : TO) (m : MO) : Prop := ∀ {ρ : Nat → Addr} {Fr F : Hp} {δ : Ev} {σ : L2.St} {H : Hp} {d : Option Int} {δ' : Ev}, Rel K mg ρ Fr F δ σ H → m δ = .ok (d, δ') →
  ∀ {Q : Option Int → Hp → Prop}, (∀ F' H', Same F F' → Rel K mg ρ Fr F' δ' σ H' → Q d H') → t σ H Q
structure RO (X : Cx) (e : Option Expr) (t : TO) (m : MO) : Prop where
  po : PO X e t
  sn : SndO X.K X.mg t m
def mNoPart : MO := fun δ => .ok (none, δ)
def mPart (m : ME) : MO := fun δ => match m δ with
  | .ok (.int i, δ1) => .ok (some i, δ1)
  | .err c d => .err c d
  | _ => .no
theorem ro_none : RO X none tNoPart mNoPart := ⟨po_none, fun {ρ Fr F δ σ H d δ'} r e {Q} q => by cases e; exact q F H (Same.refl _) r⟩
theorem ro_some {e : Expr} {t : TE} {m : ME} (h : RE X e t m) : RO X (some e) (tPart t) (mPart m) := ⟨po_some h.pe, fun {ρ Fr F δ σ H d δ'} r e {Q} q => by
  unfold mPart at e
  split at e
  · rename_i i δ1 e1
    cases e
    exact h.sn r e1 fun F1 v H1 s1 r1 d1 => by cases d1; exact ⟨i, rfl, q F1 H1 s1 r1⟩
  · cases e
  · cases e⟩
def cutD {α : Type} (xs : List α) (lo hi : Option Int) : List α := (xs.drop (HT.sIx xs.length 0 lo)).take (HT.sIx xs.length xs.length hi - HT.sIx xs.length 0 lo)
def fSl : PyData → Option Int → Option Int → Res Sl
  | .list xs, lo, hi => .ok (.own (cutD xs lo hi))
  | .tuple xs, lo, hi => .ok (.val (.tuple (cutD xs lo hi)))
  | .str z, lo, hi => if z.length ≤ sizeLine then .ok (.val (.str (cutS z lo hi))) else .no
  | _, _, _ => .no
def rSlAll (K : PySem.W.Frag) : V → Option Int → Option Int → Hp → VK → Prop := fun x lo hi H Q => rSlL K x lo hi H Q ∨ (rSlA K x lo hi H Q ∨ rSlS x lo hi H Q)
theorem sl_all : SlR X (rSlAll X.K) := sl_list.or (sl_tupA.or sl_str)
theorem dpa_cut {F : Hp} {vs : List V} {ds : List PyData} {lo hi : Option Int} (h : DpAll K F vs ds) : DpAll K F (cutV vs lo hi) (cutD ds lo hi) := by
  unfold cutV cutD
  rw [dpa_len h]
  exact dpa_take _ (dpa_drop _ h)
def mSlice (ma : ME) (ml mh : MO) : MN := fun δ => match ma δ with
  | .ok (x, δ1) => (match ml δ1 with
    | .ok (lo, δ2) => (match mh δ2 with
      | .ok (hi, δ3) => (match fSl x lo hi with
        | .ok s => .ok (s, δ3)
        | .err c d => .err c d
        | .no => .no)
      | .err c d => .err c d
      | .no => .no)
    | .err c d => .err c d
    | .no => .no)
  | .err c d => .err c d
  | .no => .no
theorem sn_slice {ta : TE} {tl th : TO} {ma : ME} {ml mh : MO} (ha : SndE K mg ta ma) (hl : SndO K mg tl ml) (hh : SndO K mg th mh) : SndN K mg (tSl (rSlAll K) ta tl th) (mSlice ma ml mh) := fun {ρ Fr F δ σ H d δ'} r e {Q} q => by
  unfold mSlice at e
  split at e
  · rename_i x δ1 e1
    split at e
    · rename_i lo δ2 e2
      split at e
      · rename_i hi δ3 e3
        split at e
        · rename_i s e4
          cases e
          refine ha r e1 fun F1 v H1 s1 r1 d1 => hl r1 e2 fun F2 H2 s2 r2 => hh r2 e3 fun F3 H3 s3 r3 => ?_
          have d3 := d1.up (s2.trans s3)
          have s13 := (s1.trans s2).trans s3
          unfold fSl at e4
          split at e4
          · cases e4
            cases d3 with
            | lst h1 da =>
              refine .inl ⟨_, _, rfl, sqL_mono r3.sub h1, fun p hp => ?_⟩
              exact q _ _ _ s13 (r3.temp hp (dpa_cut da))
          · cases e4
            cases d3 with
            | tup h1 da =>
              refine .inr (.inl ⟨_, _, rfl, sqT_mono r3.sub h1, fun hw => ?_, fun hw p hp => ?_⟩)
              · refine q _ _ _ s13 (r3.tval (.tup h1 ?_))
                have hc := dpa_cut (lo := lo) (hi := hi) da
                unfold cutV at hc
                rw [hw.1, hw.2] at hc
                simpa using hc
              · exact q _ _ _ (s13.trans (same_upd (r3.fF hp))) ((r3.frz hp).tval (.tup (SqT.of upd_same) ((dpa_cut da).up (same_upd (r3.fF hp)))))
          · split at e4
            · rename_i hz
              cases e4; cases d3
              exact .inr (.inr ⟨_, rfl, hz, q _ _ _ s13 (r3.tval (.str _))⟩)
            · cases e4
          · cases e4
        · cases e
        · cases e
      · cases e
      · cases e
    · cases e
    · cases e
  · cases e
  · cases e
theorem rn_slice {e : Expr} {lo hi : Option Expr} {ta : TE} {tl th : TO} {ma : ME} {ml mh : MO} {p2 pos : Pos} (ha : RE X e ta ma) (hl : RO X lo tl ml) (hh : RO X hi th mh) : RN X (.Subscript e (.Slice lo hi none p2) pos) (tSl (rSlAll X.K) ta tl th) (mSlice ma ml mh) :=
  ⟨pe_slice sl_all ha.pe hl.po hh.po, sn_slice ha.sn hl.sn hh.sn⟩

/-! built-ins by their names -/
def CallN (K : PySem.W.Frag) (mg : Str → Option Value) (r : List V → Hp → VK → Prop) (f : List PyData → Res Sl) : Prop := ∀ {ρ : Nat → Addr} {Fr F : Hp} {δ : Ev} {σ : L2.St} {H : Hp} {vs : List V} {ds : List PyData} {s : Sl}, Rel K mg ρ Fr F δ σ H → DpAll K F vs ds → f ds = .ok s →
  ∀ {Q : VK}, (∀ F' v H', Same F F' → Rel K mg ρ Fr F' (s :: δ) (some v :: σ) H' → Q v H') → r vs H Q
def mCall (f : List PyData → Res Sl) (as : MA) : MN := fun δ => match as δ with
  | .ok (ds, δ1) => (match f ds with
    | .ok s => .ok (s, δ1)
    | .err c d => .err c d
    | .no => .no)
  | .err c d => .err c d
  | .no => .no
theorem sn_call {r : List V → Hp → VK → Prop} {f} {t : TA} {as : MA} (hc : CallN K mg r f) (ha : SndA K mg t as) : SndN K mg (tCB r t) (mCall f as) := fun {ρ Fr F δ σ H d δ'} r e {Q} q => by
  unfold mCall at e
  split at e
  · rename_i ds δ1 e1
    split at e
    · rename_i s e2
      cases e
      exact ha r e1 fun F1 vs H1 s1 r1 d1 => hc r1 d1 e2 fun F2 v H2 s2 r2 => q F2 v H2 (s1.trans s2) r2
    · cases e
    · cases e
  · cases e
  · cases e
section
variable {x : Str} {p pos : Pos} {e : Expr} {es : List Expr} {t : TA} {as : MA} {id T : String} {r : List V → Hp → VK → Prop} {f : List PyData → Res Sl}
theorem rn_callB (hc : CallR X (.builtin id) r) (hn : CallN X.K X.mg r f) (hg : Gl X x) (hm : X.mg x = none) (hv : bootBuiltins x = some (.builtin id)) (ha : RA X (e :: es) t as) (h1 : x ≠ "__name__" := by decide) (h2 : (x == ("__debug__" : Str)) = false := by decide)
    (h3 : starEach (e :: es) X.env = (false, eval e X.env) :: starEach es X.env := by rfl) (h4 : (backTo pos (starEach es X.env)).any (·.1) = false := by rfl) : RN X (.Call (.Name x p) (e :: es) [] pos) (tCB r t) (mCall f as) :=
  ⟨pe_callB hc hg hm hv ha.pa h1 h2 h3 h4, sn_call hn ha.sn⟩
theorem rn_callTy (hc : CallR X (.type T) r) (hn : CallN X.K X.mg r f) (hg : Gl X x) (hm : X.mg x = none) (hv : bootBuiltins x = some (.type T)) (ha : RA X (e :: es) t as) (h1 : x ≠ "__name__" := by decide) (h2 : (x == ("__debug__" : Str)) = false := by decide)
    (h3 : starEach (e :: es) X.env = (false, eval e X.env) :: starEach es X.env := by rfl) (h4 : (backTo pos (starEach es X.env)).any (·.1) = false := by rfl) : RN X (.Call (.Name x p) (e :: es) [] pos) (tCB r t) (mCall f as) :=
  ⟨pe_callTy hc hg hm hv ha.pa h1 h2 h3 h4, sn_call hn ha.sn⟩
end
end
end CW

namespace CW
open PySem PySem.Spec PyProof.Rows L2

section
variable {prog : Program} {w : World} {A : Around} {E : Value → Shared → Prop} {s : Shared}
variable {it : Addr} {fp : List Addr} {n i : Nat} {P : Nat → Value → Prop} {St : Nat → Heap → Prop}
/-- a draw that may end, with an item -/
theorem nextOrEnd_some (D : Draws prog w A it fp n P St) {Q : Option Value → Shared → Prop} (hi : i < n) (st : St i s.heap)
    (k : ∀ x h' tk, P i x → St (i + 1) h' → Heap.SameBut it s.heap h' → Q (some x) { s with heap := h', toks := tk }) : wpAny (model prog w) A (Builtin.SmallTypes.nextOrEnd (.ref it)) Q E s := by
  unfold Builtin.SmallTypes.nextOrEnd
  exact wpAny_bind (wpAny_attempt (D.item i _ _ _ hi st fun x h' tk p1 p2 p3 => wpAny_pure (k x h' tk p1 p2 p3)))
/-- .. at its end -/
theorem nextOrEnd_none (D : Draws prog w A it fp n P St) {Q : Option Value → Shared → Prop} (st : St n s.heap)
    (k : ∀ h', Heap.ExtBut it s.heap h' → Q none { s with heap := h' }) : wpAny (model prog w) A (Builtin.SmallTypes.nextOrEnd (.ref it)) Q E s := by
  unfold Builtin.SmallTypes.nextOrEnd
  refine wpAny_bind (wpAny_attempt (D.done _ _ _ st fun h' e hk he => ?_))
  obtain ⟨o, ho, hc⟩ := he
  refine wpAny_bind (wpAny_isInstance (T := "StopIteration") (b := true) ⟨o, ho, hc⟩ isSubtype_stop ?_)
  exact wpAny_pure (k h' hk)
/-- the end of an iterator is thrown -/
theorem stop_run {α : Type} {Q : α → Shared → Prop} (hh : A.handled = none) (k : ∀ h' e, (∀ b o, s.heap.get? b = some o → h'.get? b = some o) → (∃ o, h'.get? e = some o ∧ o.cls = .type "StopIteration") → E (.ref e) { s with heap := h' }) :
    wpAny (model prog w) A (Builtin.SmallTypes.stopIteration : Sem α) Q E s := by
  unfold Builtin.SmallTypes.stopIteration
  refine wpAny_bind ?_
  simp only [newExc, newTuple]
  refine wpAny_bind (wpAny_newObj_type ?_ (by size_fits))
  refine wpAny_bind (m := firstArgMember _ _) (wpAny_of_eq (a := Value.none) (by first | rfl | (simp only [firstArgMember]; rfl)) ?_)
  refine wpAny_newObj_type ?_ (by size_fits)
  simp only [raiseNew]
  refine wpAny_bind (wpAny_handled ?_)
  first | rw [show A.in1.handled = none from hh] | rw [hh]
  refine wpAny_bind (wpAny_pure (wpAny_throw ?_))
  exact k _ _ (fun b o q => Heap.get?_push_of_some _ (Heap.get?_push_of_some _ q)) ⟨_, Heap.get?_push_size _ rfl, rfl⟩
end

theorem wp_skip {α : Type} {M : Model} {A : Around} {E : Value → Shared → Prop} {s : Shared} {t e : Sem α} {Q : α → Shared → Prop} (h : wpAny M A e Q E s) : wpAny M A (if (0 : Nat) > 0 then t else e) Q E s := by
  rw [if_neg (by decide)]; exact h
/-- a zip with strict=True -/
abbrev ZipS (h : Heap) (z TI TO : Addr) (f0 : Value) : Prop :=
  h.get? z = some { cls := .type "zip", dict := none, data := .fields #[f0, .bool false, .bool true, .ref TI, .ref TO], slots := #[] }
section
variable {prog : Program} {w : World} {A : Around} {E : Value → Shared → Prop} {s : Shared} {z TI TO i1 i2 : Addr} {fp1 fp2 : List Addr} {n i : Nat} {P1 P2 : Nat → Value → Prop} {St1 St2 : Nat → Heap → Prop} {a1 a2 : Value}
theorem zipS_some {Q : Value → Shared → Prop} (S : ZipSep2 z TI TO i1 i2 fp1 fp2) (D1 : Draws prog w A i1 fp1 n P1 St1) (D2 : Draws prog w A i2 fp2 n P2 St2)
    (hz : ZipS s.heap z TI TO .none) (hTI : IsTupOf2 s.heap TI (.ref i1) (.ref i2)) (hTO : IsTupOf2 s.heap TO a1 a2) (st1 : St1 i s.heap) (st2 : St2 i s.heap) (hlt : i < n)
    (k : ∀ x1 x2 h' tk, P1 i x1 → P2 i x2 → ZipS h' z TI TO (rawInt s.heap.objs.size) → IsTupOf2 h' TO x1 x2 → St1 (i + 1) h' → St2 (i + 1) h' → IsTupOf2 h' s.heap.objs.size x1 x2 → h'.objs.size = s.heap.objs.size + 1 →
      (∀ c o, c ≠ z → c ≠ TO → c ≠ i1 → c ≠ i2 → s.heap.get? c = some o → h'.get? c = some o) → Q (.ref s.heap.objs.size) { s with heap := h', toks := tk }) :
    wpAny (model prog w) A (Builtin.«zip.__next__» ⟨[.ref z], []⟩) (fun fin s' => ∃ v, fin = .done (.ret v) ∧ Q v s') E s := by
  obtain ⟨h0, gs, dr, tk0, os⟩ := s
  show wpAny _ _ (field (.ref z) 2 >>= _) _ _ _
  refine wpAny_bind (wpAny_field hz rfl (x := .bool true) rfl ?_)
  show wpAny _ _ (field (.ref z) 3 >>= _) _ _ _
  refine wpAny_bind (wpAny_field hz rfl (x := .ref TI) rfl ?_)
  refine wpAny_bind (wpAny_seqItems hTI rfl ?_)
  show wpAny _ _ (Builtin.SmallTypes.ownedTupleIsFree (.ref z) >>= _) _ _ _
  refine wpAny_bind ?_
  unfold Builtin.SmallTypes.ownedTupleIsFree
  refine wpAny_bind (wpAny_field hz rfl (x := .none) rfl (wpAny_pure ?_))
  simp only [if_true]
  refine wpAny_bind (wpAny_rule ?_)
  refine wpAny_bind (wpAny_field hz rfl (x := .ref TO) rfl ?_)
  refine wpAny_bind (wpAny_setField_rec hz (by simp) fun g0 hz0 b0 => ?_)
  replace hz0 : ZipS g0 z TI TO .ellipsis := hz0
  replace b0 : Heap.SameBut z h0 g0 := b0
  refine wpAny_bind ?_
  simp only [List.zipIdx_cons, List.zipIdx_nil, List.forIn_cons, List.forIn_nil]
  refine wpAny_bind (wpAny_bind (wpAny_onRaise ?_))
  show wpAny _ _ (Builtin.SmallTypes.nextOrEnd (.ref i1)) _ _ ⟨g0, gs, dr, tk0, os⟩
  refine nextOrEnd_some D1 hlt (D1.over st1 b0 S.zf1) fun x1 p1 tk1 hx1 sn1 c1 => ?_
  replace c1 : Heap.SameBut i1 g0 p1 := c1
  have u1 : IsTupOf2 p1 TO a1 a2 := c1.extBut _ _ S.Ti1 (b0.extBut _ _ S.TOz hTO)
  refine wpAny_bind (wpAny_seqItems (s := ⟨p1, gs, dr, tk1, os⟩) u1 rfl ?_)
  refine wpAny_bind (updateSeq_IsTupOf2 (s := ⟨p1, gs, dr, tk1, os⟩) u1 fun g1 t1 b1 => ?_)
  replace t1 : IsTupOf2 g1 TO x1 a2 := t1
  replace b1 : Heap.SameBut TO p1 g1 := b1
  refine wpAny_bind (wpAny_letGo (wpAny_pure ?_))
  refine wpAny_bind (wpAny_bind (wpAny_onRaise ?_))
  show wpAny _ _ (Builtin.SmallTypes.nextOrEnd (.ref i2)) _ _ ⟨g1, gs, dr, tk1, os⟩
  refine nextOrEnd_some D2 hlt (D2.over (D2.over (D2.over st2 b0 S.zf2) c1 S.sep1_2) b1 S.Tf2) fun x2 p2 tk2 hx2 sn2 c2 => ?_
  replace c2 : Heap.SameBut i2 g1 p2 := c2
  have u2 : IsTupOf2 p2 TO x1 a2 := c2.extBut _ _ S.Ti2 t1
  refine wpAny_bind (wpAny_seqItems (s := ⟨p2, gs, dr, tk2, os⟩) u2 rfl ?_)
  refine wpAny_bind (updateSeq_IsTupOf2 (s := ⟨p2, gs, dr, tk2, os⟩) u2 fun g2 t2 b2 => ?_)
  replace t2 : IsTupOf2 g2 TO x1 x2 := t2
  replace b2 : Heap.SameBut TO p2 g2 := b2
  refine wpAny_bind (wpAny_letGo (wpAny_pure (wpAny_pure ?_)))
  refine wpAny_bind (wpAny_seqItems (s := ⟨g2, gs, dr, tk2, os⟩) t2 rfl ?_)
  refine wpAny_bind (wpAny_newTuple ?_)
  have sz : g2.objs.size = h0.objs.size := by rw [b2.1, c2.1, b1.1, c1.1, b0.1]
  have zz : ZipS g2 z TI TO .ellipsis := b2.extBut _ _ S.TOz.symm (c2.extBut _ _ S.zi2 (b1.extBut _ _ S.TOz.symm (c1.extBut _ _ S.zi1 hz0)))
  have kk : ∀ c o, c ≠ z → c ≠ TO → c ≠ i1 → c ≠ i2 → h0.get? c = some o → g2.get? c = some o := fun c o q1 q2 q3 q4 e =>
    b2.extBut _ _ q2 (c2.extBut _ _ q4 (b1.extBut _ _ q2 (c1.extBut _ _ q3 (b0.extBut _ _ q1 e))))
  have j1 : St1 (i + 1) g2 := D1.over (D1.over (D1.over sn1 b1 S.Tf1) c2 S.sep2_1) b2 S.Tf1
  have j2 : St2 (i + 1) g2 := D2.over sn2 b2 S.Tf2
  have zl : z < g2.objs.size := Heap.lt_size zz
  show wpAny _ _ (Builtin.SmallTypes.ownedTupleHandOut (.ref z) (.ref g2.objs.size) >>= _) _ _ ⟨g2.push { cls := .type "tuple", data := .seq #[x1, x2] }, gs, dr, tk2, os⟩
  refine wpAny_bind ?_
  unfold Builtin.SmallTypes.ownedTupleHandOut
  have z6 : ZipS (g2.push { cls := .type "tuple", data := .seq #[x1, x2] }) z TI TO .ellipsis := Heap.get?_push_of_some _ zz
  refine wpAny_bind (wpAny_setField_rec z6 (by simp) fun h7 z7 s7 => ?_)
  replace z7 : ZipS h7 z TI TO (rawInt g2.objs.size) := z7
  refine wpAny_setField_rec z7 (by simp) fun h8 z8 s8 => ?_
  replace z8 : ZipS h8 z TI TO (rawInt g2.objs.size) := z8
  replace s7 : Heap.SameBut z (g2.push { cls := .type "tuple", data := .seq #[x1, x2] }) h7 := s7
  replace s8 : Heap.SameBut z h7 h8 := s8
  have up : ∀ c o, c ≠ z → g2.get? c = some o → h8.get? c = some o := fun c o q1 e => s8.extBut _ _ q1 (s7.extBut _ _ q1 (Heap.get?_push_of_some _ e))
  have t8 : IsTupOf2 h8 g2.objs.size x1 x2 := s8.extBut _ _ (Nat.ne_of_gt zl) (s7.extBut _ _ (Nat.ne_of_gt zl) (Heap.get?_push_size _ rfl))
  have n8 : h8.objs.size = g2.objs.size + 1 := by rw [s8.1, s7.1, Heap.size_push]
  rw [sz] at z8 t8 n8
  refine wpAny_pure ⟨_, rfl, ?_⟩
  show Q (.ref g2.objs.size) ⟨h8, gs, dr, tk2, os⟩
  rw [sz]
  exact k x1 x2 h8 tk2 hx1 hx2 z8 (up _ _ S.TOz t2) (D1.frame _ _ _ j1 fun b hb o e => up b o (fun q => S.zf1 (q ▸ hb)) e) (D2.frame _ _ _ j2 fun b hb o e => up b o (fun q => S.zf2 (q ▸ hb)) e) t8 n8 fun c o q1 q2 q3 q4 e => up c o q1 (kk c o q1 q2 q3 q4 e)
theorem zipS_none {Q : Fin → Shared → Prop} (hh : A.handled = none) (S : ZipSep2 z TI TO i1 i2 fp1 fp2) (D1 : Draws prog w A i1 fp1 n P1 St1) (D2 : Draws prog w A i2 fp2 n P2 St2)
    (hz : ZipS s.heap z TI TO .none) (hTI : IsTupOf2 s.heap TI (.ref i1) (.ref i2)) (hTO : IsTupOf2 s.heap TO a1 a2) (st1 : St1 n s.heap) (st2 : St2 n s.heap)
    (k : ∀ h' tk e, (∀ c o, c ≠ z → c ≠ TO → c ≠ i1 → c ≠ i2 → s.heap.get? c = some o → h'.get? c = some o) → (∃ o, h'.get? e = some o ∧ o.cls = .type "StopIteration") → E (.ref e) { s with heap := h', toks := tk }) :
    wpAny (model prog w) A (Builtin.«zip.__next__» ⟨[.ref z], []⟩) Q E s := by
  obtain ⟨h0, gs, dr, tk0, os⟩ := s
  show wpAny _ _ (field (.ref z) 2 >>= _) _ _ _
  refine wpAny_bind (wpAny_field hz rfl (x := .bool true) rfl ?_)
  show wpAny _ _ (field (.ref z) 3 >>= _) _ _ _
  refine wpAny_bind (wpAny_field hz rfl (x := .ref TI) rfl ?_)
  refine wpAny_bind (wpAny_seqItems hTI rfl ?_)
  show wpAny _ _ (Builtin.SmallTypes.ownedTupleIsFree (.ref z) >>= _) _ _ _
  refine wpAny_bind ?_
  unfold Builtin.SmallTypes.ownedTupleIsFree
  refine wpAny_bind (wpAny_field hz rfl (x := .none) rfl (wpAny_pure ?_))
  simp only [if_true]
  refine wpAny_bind (wpAny_rule ?_)
  refine wpAny_bind (wpAny_field hz rfl (x := .ref TO) rfl ?_)
  refine wpAny_bind (wpAny_setField_rec hz (by simp) fun g0 hz0 b0 => ?_)
  replace hz0 : ZipS g0 z TI TO .ellipsis := hz0
  replace b0 : Heap.SameBut z h0 g0 := b0
  refine wpAny_bind ?_
  simp only [List.zipIdx_cons, List.zipIdx_nil, List.forIn_cons, List.forIn_nil]
  refine wpAny_bind (wpAny_bind (wpAny_onRaise ?_))
  show wpAny _ _ (Builtin.SmallTypes.nextOrEnd (.ref i1)) _ _ ⟨g0, gs, dr, tk0, os⟩
  refine nextOrEnd_none D1 (D1.over st1 b0 S.zf1) fun q hq => ?_
  replace hq : Heap.ExtBut i1 g0 q := hq
  have zq : ZipS q z TI TO .ellipsis := hq _ _ S.zi1 hz0
  refine wpAny_bind (wpAny_setField_rec (s := ⟨q, gs, dr, tk0, os⟩) zq (by simp) fun q1 zq1 c1 => ?_)
  replace c1 : Heap.SameBut z q q1 := c1
  refine wpAny_bind ?_
  refine wp_skip (t := Builtin.SmallTypes.stopIteration) ?_
  rw [if_neg (by decide)]
  simp only [List.drop_succ_cons, List.drop_zero, List.zipIdx_cons, List.zipIdx_nil, List.forIn_cons, List.forIn_nil]
  refine wpAny_bind (wpAny_bind (wpAny_bind (nextOrEnd_none (s := ⟨q1, gs, dr, tk0, os⟩) D2 (D2.over (D2.frame _ _ _ (D2.over st2 b0 S.zf2) fun b hb o e => hq b o (fun q' => S.sep1_2 (q' ▸ hb)) e) c1 S.zf2) fun q2 hq2 => ?_)))
  replace hq2 : Heap.ExtBut i2 q1 q2 := hq2
  simp only [Option.isSome_none, Bool.false_eq_true, if_false]
  refine wpAny_pure (wpAny_pure (wpAny_bind (wpAny_rule ?_)))
  refine stop_run (s := ⟨q2, gs, dr, tk0, os⟩) hh fun h' e hk he => ?_
  refine k h' tk0 e (fun c o d1 d2 d3 d4 x => ?_) he
  exact hk _ _ (hq2 _ _ d4 (c1.extBut _ _ d1 (hq _ _ d3 (b0.extBut _ _ d1 x))))
theorem pyNext_zipS_some {Q : Option Value → Shared → Prop} (S : ZipSep2 z TI TO i1 i2 fp1 fp2) (D1 : Draws prog w A.in1 i1 fp1 n P1 St1) (D2 : Draws prog w A.in1 i2 fp2 n P2 St2)
    (hz : ZipS s.heap z TI TO .none) (hTI : IsTupOf2 s.heap TI (.ref i1) (.ref i2)) (hTO : IsTupOf2 s.heap TO a1 a2) (st1 : St1 i s.heap) (st2 : St2 i s.heap) (hlt : i < n)
    (k : ∀ x1 x2 h' tk, P1 i x1 → P2 i x2 → ZipS h' z TI TO (rawInt s.heap.objs.size) → IsTupOf2 h' TO x1 x2 → St1 (i + 1) h' → St2 (i + 1) h' → IsTupOf2 h' s.heap.objs.size x1 x2 → h'.objs.size = s.heap.objs.size + 1 →
      (∀ c o, c ≠ z → c ≠ TO → c ≠ i1 → c ≠ i2 → s.heap.get? c = some o → h'.get? c = some o) → Q (some (.ref s.heap.objs.size)) { s with heap := h', toks := tk }) :
    wpAny (model prog w) A (pyNext (.ref z)) Q E s := by
  have ty : s.TypeIs (.ref z) "zip" := ⟨_, hz, rfl⟩
  unfold pyNext
  refine wpAny_bind (wpAny_attempt (wpAny_callSpecial?_slot (name := Str.ofString "__next__") ty F.slot_zip_next ?_))
  exact wpAny_call_entry F.slot_zip_next ty F.entry_zip_next (zipS_some S D1 D2 hz hTI hTO st1 st2 hlt fun x1 x2 h' tk y1 y2 b1 b2 d1 d2 b5 b6 b7 => wpAny_pure (k x1 x2 h' tk y1 y2 b1 b2 d1 d2 b5 b6 b7)) (F.args_zip_next_1 _)
theorem pyNext_zipS_none {Q : Option Value → Shared → Prop} (hh : A.handled = none) (S : ZipSep2 z TI TO i1 i2 fp1 fp2) (D1 : Draws prog w A.in1 i1 fp1 n P1 St1) (D2 : Draws prog w A.in1 i2 fp2 n P2 St2)
    (hz : ZipS s.heap z TI TO .none) (hTI : IsTupOf2 s.heap TI (.ref i1) (.ref i2)) (hTO : IsTupOf2 s.heap TO a1 a2) (st1 : St1 n s.heap) (st2 : St2 n s.heap)
    (k : ∀ h' tk, (∀ c o, c ≠ z → c ≠ TO → c ≠ i1 → c ≠ i2 → s.heap.get? c = some o → h'.get? c = some o) → Q none { s with heap := h', toks := tk }) : wpAny (model prog w) A (pyNext (.ref z)) Q E s := by
  have ty : s.TypeIs (.ref z) "zip" := ⟨_, hz, rfl⟩
  unfold pyNext
  refine wpAny_bind (wpAny_attempt (wpAny_callSpecial?_slot (name := Str.ofString "__next__") ty F.slot_zip_next ?_))
  refine wpAny_call_entry F.slot_zip_next ty F.entry_zip_next (zipS_none (A := A.in1) hh S D1 D2 hz hTI hTO st1 st2 fun h' tk e hk he => ?_) (F.args_zip_next_1 _)
  obtain ⟨o, ho, hc⟩ := he
  refine wpAny_bind (wpAny_isInstance (T := "StopIteration") (b := true) ⟨o, ho, hc⟩ isSubtype_stop ?_)
  exact wpAny_pure (k _ _ hk)
/-- the flag lies in the object alone -/
theorem letGo_zipS {elts : List Expr} {x1 : Nat} {pos : Pos} {T : Addr} {Q : Unit → Shared → Prop} (hz : ZipS s.heap z TI TO (rawInt T))
    (k : ∀ h', ZipS h' z TI TO .none → Heap.SameBut z s.heap h' → Q () { s with heap := h' }) :
    wpAny (model prog w) A (letOwnedTupleGo (.Tuple elts x1 pos) (.ref z) (.ref T)) Q E s := by
  unfold letOwnedTupleGo
  refine wpAny_bind (wpAny_load hz ?_)
  show wpAny _ _ (if (["enumerate", "zip", "dict_itemiterator", "dict_reverseitemiterator", "odict_iterator", "itertools.zip_longest", "itertools.pairwise"].contains "zip" && (#[rawInt T, .bool false, .bool true, .ref TI, .ref TO] : Array Value)[0]? == some (rawInt T)) = true then _ else _) Q E s
  rw [if_pos (by simp)]
  refine wpAny_bind (wpAny_rule ?_)
  show wpAny _ _ (setField (.ref z) 0 .none) Q E s
  exact wpAny_setField_rec hz (by simp) fun h' z' s' => k h' z' s'
theorem pyIter_zipS {f0 : Value} {Q : Value → Shared → Prop} (hz : ZipS s.heap z TI TO f0) (h : Q (.ref z) s) : wpAny (model prog w) A (pyIter (.ref z)) Q E s := by
  have ty : s.TypeIs (.ref z) "zip" := ⟨_, hz, rfl⟩
  refine wpAny_pyIter_slot ty F.slot_zip_iter (wpAny_call_entry F.slot_zip_iter ty F.entry_zip_iter ?_ (F.args_zip_iter_1 _))
  show wpAny _ _ (ret (.ref z)) _ _ s
  exact wpAny_pure ⟨_, rfl, "zip", _, ty, F.slot_zip_next.lookup, h⟩
end

/-! zip(v1, v2, strict=True) begins -/
abbrev zsH (h : Heap) (o1 o2 : Obj) : Heap := (gzO2 h o1 o2).push { cls := .type "zip", data := .fields #[.none, .bool false, .bool true, .ref ((h.push o1).push o2).objs.size, .ref (gzT2 h o1 o2).objs.size] }
theorem typeCall_zipS (a b : Value) : checkTypeCall "zip" ⟨[a, b], [(Str.ofString "strict", .bool true)]⟩ = pure () := by kernel_rfl
theorem newCall_zipS (a b : Value) : checkBuiltinCall "zip.__new__" ⟨[.type "zip", a, b], [(Str.ofString "strict", .bool true)]⟩ = pure () := by kernel_rfl
theorem init_zipS (obj a b : Value) : argsOk "object.__init__" ⟨[obj, a, b], [(Str.ofString "strict", .bool true)]⟩ := by unfold argsOk; kernel_rfl
theorem meets_zipS {v1 v2 : Value} {o1 o2 : Obj} {H1 H2 : Heap → Prop} (B1 : Begins v1 o1 H1) (B2 : Begins v2 o2 H2) :
    Meets (Builtin.«zip.__new__» ⟨[.type "zip", v1, v2], [(Str.ofString "strict", .bool true)]⟩) (fun _ R s => (H1 s.heap ∧ H2 s.heap) ∧
      R (.ok (.ret (.ref (gzO2 s.heap o1 o2).objs.size))) { s with heap := zsH s.heap o1 o2 }) :=
  .of_wp fun prog w A R s h => by
    obtain ⟨hp, g, d, tk, os⟩ := s; obtain ⟨⟨h1, h2⟩, h⟩ := h
    have hsub := sub_zip
    have r1 : ∀ {A' : Around} {E : Value → Shared → Prop} {Q : Value → Shared → Prop}, Q (.ref hp.objs.size) ⟨(hp.push o1), g, d, tk, os⟩ → wpAny (model prog w) A' (pyIter v1) Q E ⟨hp, g, d, tk, os⟩ :=
      fun q => B1.iter prog w _ _ ⟨hp, g, d, tk, os⟩ _ (B1.keeps _ _ h1 fun b o' e => e) q
    have r2 : ∀ {A' : Around} {E : Value → Shared → Prop} {Q : Value → Shared → Prop}, Q (.ref (hp.push o1).objs.size) ⟨((hp.push o1).push o2), g, d, tk, os⟩ → wpAny (model prog w) A' (pyIter v2) Q E ⟨(hp.push o1), g, d, tk, os⟩ :=
      fun q => B2.iter prog w _ _ ⟨(hp.push o1), g, d, tk, os⟩ _ (B2.keeps _ _ h2 fun b o' e => (Heap.get?_push_of_some _ e)) q
    wp_walk using r1, r2
    exact ⟨_, rfl, h⟩
section
variable {prog : Program} {w : World} {A : Around} {E : Value → Shared → Prop} {s : Shared}
theorem zipS_begins {v1 v2 : Value} {o1 o2 : Obj} {H1 H2 : Heap → Prop} {Q : Value → Shared → Prop} (B1 : Begins v1 o1 H1) (B2 : Begins v2 o2 H2) (h1 : H1 s.heap) (h2 : H2 s.heap)
    (h : ∀ h', ZipS h' (s.heap.objs.size + 4) (s.heap.objs.size + 2) (s.heap.objs.size + 3) .none → IsTupOf2 h' (s.heap.objs.size + 2) (.ref s.heap.objs.size) (.ref (s.heap.objs.size + 1)) →
      IsTupOf2 h' (s.heap.objs.size + 3) .none .none → h'.get? s.heap.objs.size = some o1 → h'.get? (s.heap.objs.size + 1) = some o2 → h'.objs.size = s.heap.objs.size + 5 →
      (∀ c o, s.heap.get? c = some o → h'.get? c = some o) → Q (.ref (s.heap.objs.size + 4)) { s with heap := h' }) :
    wpAny (model prog w) A (call (.type "zip") [v1, v2] [(Str.ofString "strict", .bool true)]) Q E s := by
  refine callType_newKw F.called_zip (by decide) (typeCall_zipS _ _) (newCall_zipS _ _) (fun obj => init_zipS obj _ _) F.entry_zip_new (meets_zipS B1 B2) ⟨⟨h1, h2⟩, ?_⟩
  have e1 : (s.heap.push o1).objs.size = s.heap.objs.size + 1 := by rw [Heap.size_push]
  have e2 : ((s.heap.push o1).push o2).objs.size = s.heap.objs.size + 2 := by rw [Heap.size_push, e1]
  have e3 : (gzT2 s.heap o1 o2).objs.size = s.heap.objs.size + 3 := by rw [Heap.size_push, e2]
  have e4 : (gzO2 s.heap o1 o2).objs.size = s.heap.objs.size + 4 := by rw [Heap.size_push, e3]
  have e5 : (zsH s.heap o1 o2).objs.size = s.heap.objs.size + 5 := by rw [Heap.size_push, e4]
  have gZ : (zsH s.heap o1 o2).get? (gzO2 s.heap o1 o2).objs.size = some { cls := .type "zip", data := .fields #[.none, .bool false, .bool true, .ref ((s.heap.push o1).push o2).objs.size, .ref (gzT2 s.heap o1 o2).objs.size] } := Heap.get?_push_size _ rfl
  have gO : (zsH s.heap o1 o2).get? (gzT2 s.heap o1 o2).objs.size = some { cls := .type "tuple", data := .seq #[.none, .none] } := Heap.get?_push_of_some _ (Heap.get?_push_size _ rfl)
  have gT : (zsH s.heap o1 o2).get? ((s.heap.push o1).push o2).objs.size = some { cls := .type "tuple", data := .seq #[.ref s.heap.objs.size, .ref (s.heap.push o1).objs.size] } := Heap.get?_push_of_some _ (Heap.get?_push_of_some _ (Heap.get?_push_size _ rfl))
  have g1 : (zsH s.heap o1 o2).get? s.heap.objs.size = some o1 := Heap.get?_push_of_some _ (Heap.get?_push_of_some _ (Heap.get?_push_of_some _ (Heap.get?_push_of_some _ (Heap.get?_push_size _ B1.free))))
  have g2 : (zsH s.heap o1 o2).get? (s.heap.push o1).objs.size = some o2 := Heap.get?_push_of_some _ (Heap.get?_push_of_some _ (Heap.get?_push_of_some _ (Heap.get?_push_size _ B2.free)))
  rw [e4, e3, e2] at gZ
  rw [e3] at gO
  rw [e2, e1] at gT
  rw [e1] at g2
  show _ ∧ _
  rw [e4]
  exact ⟨⟨_, gZ, rfl⟩, h _ gZ gT gO g1 g2 e5 fun c o e => Heap.get?_push_of_some _ (Heap.get?_push_of_some _ (Heap.get?_push_of_some _ (Heap.get?_push_of_some _ (Heap.get?_push_of_some _ e))))⟩
end
end CW

namespace CW
open PySem PySem.Spec PyProof.Rows L2

/-! a list (true) or a tuple (false) that is read -/
def SqS (K : PySem.W.Frag) (H : Hp) (k : Bool) (a : Addr) (xs : List V) : Prop := match k with
  | true => SqL K H a xs
  | false => SqT K H a xs
def ItAt (h : Heap) (k : Bool) (it a : Addr) (i : Nat) : Prop := match k with
  | true => h.IsListIter it a i
  | false => h.IsTupleIter it a i
def SeqA (h : Heap) (k : Bool) (a : Addr) (its : Array Value) : Prop := match k with
  | true => h.IsList a its
  | false => h.IsTuple a its
def itObj (k : Bool) (a : Addr) : Obj := match k with
  | true => { cls := .type "list_iterator", data := .fields #[.ref a, .int 0 0] }
  | false => { cls := .type "tuple_iterator", data := .fields #[.ref a, .int 0 0] }
theorem ItAt.keep {h h' : Heap} {k : Bool} {it a : Addr} {i : Nat} (x : ItAt h k it a i) (e : ∀ o, h.get? it = some o → h'.get? it = some o) : ItAt h' k it a i := by
  cases k with
  | true => exact Heap.IsListIter.at (show h.IsListIter it a i from x) e
  | false => exact Heap.IsTupleIter.at (show h.IsTupleIter it a i from x) e
theorem ItAt.obj {h : Heap} {k : Bool} {it a : Addr} {i : Nat} (x : ItAt h k it a i) : ∃ o, h.get? it = some o ∧ ∀ v, o.data ≠ .cell v := by
  cases k with
  | true => obtain ⟨o, e, _, d⟩ := (show h.IsListIter it a i from x); exact ⟨o, e, fun v q => by rw [d] at q; cases q⟩
  | false => obtain ⟨o, e, _, d⟩ := (show h.IsTupleIter it a i from x); exact ⟨o, e, fun v q => by rw [d] at q; cases q⟩
theorem ItAt.start {h : Heap} {k : Bool} {it a : Addr} (e : h.get? it = some (itObj k a)) : ItAt h k it a 0 := by
  cases k with
  | true => exact ⟨_, e, rfl, rfl⟩
  | false => exact ⟨_, e, rfl, rfl⟩
theorem draws_seq {prog : Program} {w : World} {A : Around} (hh : A.handled = none) (k : Bool) (it a : Addr) (hne : a ≠ it) (its : Array Value) :
    Draws prog w A it [it, a] its.size (fun i v => its[i]? = some v) (fun i h => ItAt h k it a i ∧ SeqA h k a its) := by
  cases k with
  | true => exact Draws.list hh it a hne its
  | false => exact Draws.tuple hh it a hne its
theorem begins_seq (k : Bool) (a : Addr) (its : Array Value) : Begins (.ref a) (itObj k a) fun h => SeqA h k a its := by
  cases k with
  | true => exact begins_list a its
  | false => exact begins_tuple a its
section
variable {X : Cx} {pins : List (Addr × Obj)} {σ : L2.St} {H : Hp} {s : Shared} {a : Addr} {xs ys : List V} {k : Bool}
theorem inv_seq (I : Inv X pins σ H s) (h : SqS X.K H k a xs) : ∃ its : List Value, Vals xs its ∧ SeqA s.heap k a its.toArray := by
  cases k with
  | true => obtain ⟨its, r, p, _⟩ := I.list (show SqL X.K H a xs from h); exact ⟨its, r, p.isList⟩
  | false => obtain ⟨its, r, p, _⟩ := I.tuple (show SqT X.K H a xs from h); exact ⟨its, r, p⟩
theorem inv_seq_inj (I : Inv X pins σ H s) (h : SqS X.K H k a xs) (h' : SqS X.K H k a ys) : xs = ys := by
  cases k with
  | true => exact I.list_inj h h'
  | false => exact I.tuple_inj h h'
theorem seq_there {h : Heap} {its : Array Value} (x : SeqA h k a its) : ∃ o, h.get? a = some o := by
  cases k with
  | true => obtain ⟨o, e, _⟩ := (show h.IsList a its from x); exact ⟨o, e⟩
  | false => obtain ⟨o, e, _⟩ := (show h.IsTuple a its from x); exact ⟨o, e⟩
end

/-- records at ch have turned -/
theorem inv_turned {X : Cx} {pins : List (Addr × Obj)} {σ : L2.St} {H : Hp} {s : Shared} {h' : Heap} {tk : Nat} {ch : List Addr} (I : Inv X pins σ H s) (hf : ∀ b ∈ ch, FpOk X pins H b) (kp : ∀ b o, b ∉ ch → s.heap.get? b = some o → h'.get? b = some o) :
    Inv X pins σ H { s with heap := h', toks := tk } := by
  refine I.step (g' := s.gens) (d' := s.drawn) (t' := tk) (ch := ch) (fun b hb => ⟨(hf b hb).2.2.2.1, (hf b hb).2.1, (hf b hb).2.2.2.2.1, (hf b hb).2.2.2.2.2⟩) (fun b o _ _ hc e _ => kp b o hc e) (fun b o _ _ hc e _ => ⟨o.slots, kp b o hc e⟩)
    (fun _ _ _ _ n => n) (fun b o hc e => ⟨o, kp b o hc e⟩) (fun _ _ q => q) (fun _ _ _ q => q) (fun _ ps q => ⟨#[], by rw [q]; simp⟩) (fun m hm => ?_) (fun b u q => ?_) I.bare
  · obtain ⟨o, es, ep, ho, r⟩ := hm
    exact ⟨o, es, ep, kp _ o (fun z => (hf _ z).2.1 rfl) ho, r⟩
  · have nc : ∀ c w, H c = some w → c ∉ ch := fun c w q z => by rw [(hf c z).1] at q; cases q
    refine (I.hok b u q).stay (fun c v hc q2 => kp c v ?_ q2) (fun _ q => q) fun _ _ q => q
    rcases hc with z | z
    · rw [z]; exact nc b u q
    · exact nc c _ z
/-! enumerate -/
def ItEn (K : PySem.W.Frag) (k : Bool) (a : Addr) : It :=
  ⟨fun i H => ∃ (xs : List V) (x : V), SqS K H k a xs ∧ xs[i]? = some x,
    fun i H v H' => ∃ T x, v = .ref T ∧ H T = none ∧ H' = upd H T (.tup [.int (i : Nat), x]) ∧ ∀ xs, SqS K H k a xs → xs[i]? = some x,
    fun i H => ∃ xs : List V, SqS K H k a xs ∧ xs.length = i⟩
theorem turn_en {P : Program} {w : World} {K : PySem.W.Frag} {elts : List Expr} {kk : Nat} {tpos : Pos} {k : Bool} {a e it : Addr} (hei : e ≠ it) (hea : e ≠ a) (hia : a ≠ it) :
    Turn P w K (.Tuple elts kk tpos) (ItEn K k a) [e, it] e (fun i h => (∃ old, IsEnum h e it ((0 : Int) + (i : Int)) old) ∧ ItAt h k it a i) where
  mem := by simp
  obj := fun i h st b hb => by
    obtain ⟨⟨old, he⟩, hi⟩ := st
    have q : b = e ∨ b = it := by simpa using hb
    rcases q with z | z
    · rw [z]; exact ⟨_, he, fun v q => nomatch q⟩
    · rw [z]; exact hi.obj
  keep := fun i h h' st c => let ⟨⟨old, he⟩, hi⟩ := st; ⟨⟨old, c e (by simp) _ he⟩, hi.keep fun o q => c it (by simp) o q⟩
  item := by
    intro X hP hw hK hc i pins s σ H E I hf st hg
    subst hP hw hK
    obtain ⟨xs, x, hq, hx⟩ := hg
    obtain ⟨its, rv, sq⟩ := inv_seq I hq
    obtain ⟨u, hu, ru⟩ := rv.get hx
    have hlt : i < its.toArray.size := by
      rcases Nat.lt_or_ge i its.length with z | z
      · simpa using z
      · rw [List.getElem?_eq_none z] at hu; cases hu
    have W := WalksT.enumFrom (prog := X.prog) (w := X.w) (A := X.A) 0 (draws_seq (A := X.A.in1) (I.ok.hd hc) k it a hia its.toArray) e hei (by simp [hei, hea]) (by simp)
    refine W.item i s _ _ hlt ⟨st.1, st.2, sq⟩ fun T vals h' tk hv hT hTu hm kp => ⟨_, rfl, ?_⟩
    obtain ⟨t, x', hx', rfl⟩ := hv
    have ex : x' = u := by
      rw [List.getElem?_toArray, hu] at hx'
      exact (Option.some.inj hx').symm
    subst ex
    refine W.go elts kk tpos i T { s with heap := h', toks := tk } _ _ hm fun h'' st'' kp2 => ?_
    have hT2 : IsTup h'' T #[.int ((0 : Int) + (i : Int)) t, x'] := Heap.IsTuple.at hTu fun o q => kp2 T o (W.apart i T h' hm) q
    have e0 : ((0 : Int) + (i : Int)) = ((i : Nat) : Int) := by omega
    have new : ObjOk X.prog X.w (upd H T (.tup [.int (i : Nat), x])) h'' T (.tup [.int (i : Nat), x]) :=
      ⟨by show 2 ≤ sizeLine; decide, [.int ((0 : Int) + (i : Int)) t, x'], .cons ⟨t, by rw [e0]⟩ (.cons ru .nil), hT2⟩
    have I1 : Inv X pins σ (upd H T (.tup [.int (i : Nat), x])) { s with heap := h'', toks := tk } :=
      I.turnedNew (ch := [e, it]) (fun b ob hb q => kp2 b ob hb (kp b ob hb q)) hf hT new
    refine ⟨.ref T, _, I1, rfl, ⟨T, x, rfl, I.hok.fresh hT, rfl, fun ys hy => by rw [inv_seq_inj I hy hq]; exact hx⟩, ⟨st''.1, st''.2.1⟩, fun b hb => ?_⟩
    have hb' : b < s.heap.objs.size := by
      obtain ⟨⟨old, he⟩, hi⟩ := st
      have q : b = e ∨ b = it := by simpa using hb
      rcases q with z | z
      · rw [z]; exact Heap.lt_size he
      · rw [z]; obtain ⟨o, q, _⟩ := hi.obj; exact Heap.lt_size q
    rw [upd_ne (Nat.ne_of_lt (Nat.lt_of_lt_of_le hb' hT))]
    exact (hf b hb).1
  done := by
    intro X hP hw hK hc i pins s σ H E I hf st hg
    subst hP hw hK
    obtain ⟨xs, hq, rfl⟩ := hg
    obtain ⟨its, rv, sq⟩ := inv_seq I hq
    have hl : xs.length = its.toArray.size := by simpa using rv.length
    have W := WalksT.enumFrom (prog := X.prog) (w := X.w) (A := X.A) 0 (draws_seq (A := X.A.in1) (I.ok.hd hc) k it a hia its.toArray) e hei (by simp [hei, hea]) (by simp)
    refine W.done s _ _ ⟨by rw [← hl]; exact st.1, by rw [← hl]; exact st.2, sq⟩ fun h' tk kp => ⟨rfl, ?_⟩
    exact inv_turned I hf kp
  self := fun A i s Q E st h => let ⟨⟨_, he⟩, _⟩ := st; wpAny_pyIter_enum he h
/-! zip of two, strict or not -/
def ZpS (b : Bool) (h : Heap) (z TI TO : Addr) (f0 : Value) : Prop := match b with
  | true => ZipS h z TI TO f0
  | false => IsZip h z TI TO f0
def ItZp (K : PySem.W.Frag) (st k1 k2 : Bool) (a b : Addr) : It :=
  ⟨fun i H => ∃ (xs ys : List V) (x y : V), SqS K H k1 a xs ∧ SqS K H k2 b ys ∧ xs[i]? = some x ∧ ys[i]? = some y ∧ (st = true → xs.length = ys.length),
    fun i H v H' => ∃ T x y, v = .ref T ∧ H T = none ∧ H' = upd H T (.tup [x, y]) ∧ (∀ xs, SqS K H k1 a xs → xs[i]? = some x) ∧ ∀ ys, SqS K H k2 b ys → ys[i]? = some y,
    fun i H => ∃ xs ys : List V, SqS K H k1 a xs ∧ SqS K H k2 b ys ∧ i = min xs.length ys.length ∧ (st = true → xs.length = ys.length)⟩
section
variable {prog : Program} {w : World} {A : Around} {E : Value → Shared → Prop} {s : Shared} {z TI TO i1 i2 : Addr} {fp1 fp2 : List Addr} {n1 n2 n i : Nat} {P1 P2 : Nat → Value → Prop} {St1 St2 : Nat → Heap → Prop} {a1 a2 : Value}
theorem zp_some {b : Bool} {Q : Option Value → Shared → Prop} (S : ZipSep2 z TI TO i1 i2 fp1 fp2) (D1 : Draws prog w A.in1 i1 fp1 n1 P1 St1) (D2 : Draws prog w A.in1 i2 fp2 n2 P2 St2) (hb : b = true → n1 = n2)
    (hz : ZpS b s.heap z TI TO .none) (hTI : IsTupOf2 s.heap TI (.ref i1) (.ref i2)) (hTO : IsTupOf2 s.heap TO a1 a2) (st1 : St1 i s.heap) (st2 : St2 i s.heap) (l1 : i < n1) (l2 : i < n2)
    (k : ∀ x1 x2 h' tk, P1 i x1 → P2 i x2 → ZpS b h' z TI TO (rawInt s.heap.objs.size) → IsTupOf2 h' TO x1 x2 → St1 (i + 1) h' → St2 (i + 1) h' → IsTupOf2 h' s.heap.objs.size x1 x2 → h'.objs.size = s.heap.objs.size + 1 →
      (∀ c o, c ≠ z → c ≠ TO → c ≠ i1 → c ≠ i2 → s.heap.get? c = some o → h'.get? c = some o) → Q (some (.ref s.heap.objs.size)) { s with heap := h', toks := tk }) :
    wpAny (model prog w) A (pyNext (.ref z)) Q E s := by
  cases b with
  | true => obtain rfl := hb rfl; exact pyNext_zipS_some S D1 D2 hz hTI hTO st1 st2 l1 k
  | false => exact wpAny_pyNext_zipD2_item S D1 D2 hz hTI hTO st1 st2 l1 l2 k
theorem zp_none {b : Bool} {Q : Option Value → Shared → Prop} (hh : A.handled = none) (S : ZipSep2 z TI TO i1 i2 fp1 fp2) (D1 : Draws prog w A.in1 i1 fp1 n1 P1 St1) (D2 : Draws prog w A.in1 i2 fp2 n2 P2 St2) (hb : b = true → n1 = n2)
    (hz : ZpS b s.heap z TI TO .none) (hTI : IsTupOf2 s.heap TI (.ref i1) (.ref i2)) (hTO : IsTupOf2 s.heap TO a1 a2) (st1 : St1 i s.heap) (st2 : St2 i s.heap) (hi : i = min n1 n2)
    (k : ∀ h' tk, (∀ c o, c ≠ z → c ≠ TO → c ≠ i1 → c ≠ i2 → s.heap.get? c = some o → h'.get? c = some o) → Q none { s with heap := h', toks := tk }) : wpAny (model prog w) A (pyNext (.ref z)) Q E s := by
  cases b with
  | true =>
    obtain rfl := hb rfl
    rw [Nat.min_self] at hi
    subst hi
    exact pyNext_zipS_none hh S D1 D2 hz hTI hTO st1 st2 k
  | false => exact wpAny_pyNext_zipD2_end S D1 D2 hz hTI hTO st1 st2 (by omega) (by omega) (by omega) k
theorem zp_go {b : Bool} {elts : List Expr} {x1 : Nat} {pos : Pos} {T : Addr} {Q : Unit → Shared → Prop} (hz : ZpS b s.heap z TI TO (rawInt T))
    (k : ∀ h', ZpS b h' z TI TO .none → Heap.SameBut z s.heap h' → Q () { s with heap := h' }) : wpAny (model prog w) A (letOwnedTupleGo (.Tuple elts x1 pos) (.ref z) (.ref T)) Q E s := by
  cases b with
  | true => exact letGo_zipS hz k
  | false => exact wpAny_letOwnedTupleGo_zip hz k
theorem zp_iter {b : Bool} {f0 : Value} {Q : Value → Shared → Prop} (hz : ZpS b s.heap z TI TO f0) (h : Q (.ref z) s) : wpAny (model prog w) A (pyIter (.ref z)) Q E s := by
  cases b with
  | true => exact pyIter_zipS hz h
  | false => exact wpAny_pyIter_zip hz h
theorem ZpS.ob {b : Bool} {h : Heap} {f0 : Value} (x : ZpS b h z TI TO f0) : ∃ o, h.get? z = some o ∧ ∀ v, o.data ≠ .cell v := by
  cases b with
  | true => exact ⟨_, x, fun v q => nomatch q⟩
  | false => exact ⟨_, x, fun v q => nomatch q⟩
theorem ZpS.keep {b : Bool} {h h' : Heap} {f0 : Value} (x : ZpS b h z TI TO f0) (e : ∀ o, h.get? z = some o → h'.get? z = some o) : ZpS b h' z TI TO f0 := by
  cases b with
  | true => exact e _ x
  | false => exact e _ x
end
structure ZAp (z TI TO i1 i2 a b : Addr) : Prop where
  sep : ZipSep2 z TI TO i1 i2 [i1, a] [i2, b]
  a1 : a ≠ i1
  b2 : b ≠ i2
theorem turn_zp {P : Program} {w : World} {K : PySem.W.Frag} {elts : List Expr} {kk : Nat} {tpos : Pos} {st k1 k2 : Bool} {a b z TI TO i1 i2 : Addr} (D : ZAp z TI TO i1 i2 a b) :
    Turn P w K (.Tuple elts kk tpos) (ItZp K st k1 k2 a b) [z, TI, TO, i1, i2] z (fun i h => ZpS st h z TI TO .none ∧ IsTupOf2 h TI (.ref i1) (.ref i2) ∧ (∃ x y, IsTupOf2 h TO x y) ∧ ItAt h k1 i1 a i ∧ ItAt h k2 i2 b i) where
  mem := by simp
  obj := fun i h q c hc => by
    obtain ⟨hz, hTI, ⟨x, y, hTO⟩, h1, h2⟩ := q
    have e' : c = z ∨ c = TI ∨ c = TO ∨ c = i1 ∨ c = i2 := by simpa using hc
    rcases e' with q | q | q | q | q
    · rw [q]; exact hz.ob
    · rw [q]; exact ⟨_, hTI, fun v q => nomatch q⟩
    · rw [q]; exact ⟨_, hTO, fun v q => nomatch q⟩
    · rw [q]; exact h1.obj
    · rw [q]; exact h2.obj
  keep := fun i h h' q k => by
    obtain ⟨hz, hTI, ⟨x, y, hTO⟩, h1, h2⟩ := q
    exact ⟨hz.keep fun o e => k z (by simp) o e, k TI (by simp) _ hTI, ⟨x, y, k TO (by simp) _ hTO⟩, h1.keep fun o q => k i1 (by simp) o q, h2.keep fun o q => k i2 (by simp) o q⟩
  item := by
    intro X hP hw hK hc i pins s σ H E I hf q hg
    subst hP hw hK
    obtain ⟨hz, hTI, ⟨x0, y0, hTO⟩, h1, h2⟩ := q
    obtain ⟨xs, ys, x, y, qx, qy, ex, ey, el⟩ := hg
    obtain ⟨its1, r1, p1⟩ := inv_seq I qx
    obtain ⟨its2, r2, p2⟩ := inv_seq I qy
    obtain ⟨u1, g1, ru1⟩ := r1.get ex
    obtain ⟨u2, g2, ru2⟩ := r2.get ey
    have m1 := r1.length
    have m2 := r2.length
    have lt1 : i < its1.toArray.size := by
      rcases Nat.lt_or_ge i its1.length with z | z
      · simpa using z
      · rw [List.getElem?_eq_none z] at g1; cases g1
    have lt2 : i < its2.toArray.size := by
      rcases Nat.lt_or_ge i its2.length with z | z
      · simpa using z
      · rw [List.getElem?_eq_none z] at g2; cases g2
    have dr1 := draws_seq (prog := X.prog) (w := X.w) (A := X.A.in1) (I.ok.hd hc) k1 i1 a D.a1 its1.toArray
    have dr2 := draws_seq (prog := X.prog) (w := X.w) (A := X.A.in1) (I.ok.hd hc) k2 i2 b D.b2 its2.toArray
    obtain ⟨oz, ez, _⟩ := hz.ob
    have zl : z < s.heap.objs.size := Heap.lt_size ez
    refine zp_some D.sep dr1 dr2 (fun e => by have := el e; simp only [List.size_toArray]; omega) hz hTI hTO ⟨h1, p1⟩ ⟨h2, p2⟩ lt1 lt2 fun x1 x2 h' tk v1 v2 z' TO' s1' s2' hT hsz hk => ⟨_, rfl, ?_⟩
    have ev1 : x1 = u1 := by rw [List.getElem?_toArray, g1] at v1; exact (Option.some.inj v1).symm
    have ev2 : x2 = u2 := by rw [List.getElem?_toArray, g2] at v2; exact (Option.some.inj v2).symm
    subst ev1 ev2
    refine zp_go (s := { s with heap := h', toks := tk }) z' fun h'' z'' sb => ?_
    have hT2 : h''.get? s.heap.objs.size = some { cls := .type "tuple", data := .seq #[x1, x2] } := (sb.2 _ (Nat.ne_of_gt zl)).trans hT
    have new : ObjOk X.prog X.w (upd H s.heap.objs.size (.tup [x, y])) h'' s.heap.objs.size (.tup [x, y]) :=
      ⟨by show 2 ≤ sizeLine; decide, [x1, x2], .cons ru1 (.cons ru2 .nil), ⟨_, hT2, rfl, _, rfl⟩⟩
    have kp : ∀ c o, c ∉ [z, TI, TO, i1, i2] → s.heap.get? c = some o → h''.get? c = some o := fun c o hb q =>
      (sb.2 c (fun q' => hb (by simp [q']))).trans (hk c o (fun q' => hb (by simp [q'])) (fun q' => hb (by simp [q'])) (fun q' => hb (by simp [q'])) (fun q' => hb (by simp [q'])) q)
    have I1 : Inv X pins σ (upd H s.heap.objs.size (.tup [x, y])) { s with heap := h'', toks := tk } := I.turnedNew (ch := [z, TI, TO, i1, i2]) kp hf (Nat.le_refl _) new
    have S := D.sep
    refine ⟨.ref s.heap.objs.size, _, I1, rfl, ⟨_, x, y, rfl, I.hok.fresh (Nat.le_refl _), rfl, fun l hl => by rw [inv_seq_inj I hl qx]; exact ex, fun l hl => by rw [inv_seq_inj I hl qy]; exact ey⟩,
      ⟨z'', (sb.2 _ S.TIz).trans (hk _ _ S.TIz S.TITO S.TIi1 S.TIi2 hTI), ⟨x1, x2, (sb.2 _ S.TOz).trans TO'⟩, s1'.1.keep fun o q => (sb.2 _ S.zi1.symm).trans q, s2'.1.keep fun o q => (sb.2 _ S.zi2.symm).trans q⟩, fun c hcm => ?_⟩
    have hcl : c < s.heap.objs.size := by
      have e' : c = z ∨ c = TI ∨ c = TO ∨ c = i1 ∨ c = i2 := by simpa using hcm
      rcases e' with q | q | q | q | q
      · rw [q]; exact zl
      · rw [q]; exact Heap.lt_size hTI
      · rw [q]; exact Heap.lt_size hTO
      · rw [q]; obtain ⟨o, q, _⟩ := h1.obj; exact Heap.lt_size q
      · rw [q]; obtain ⟨o, q, _⟩ := h2.obj; exact Heap.lt_size q
    rw [upd_ne (Nat.ne_of_lt hcl)]
    exact (hf c hcm).1
  done := by
    intro X hP hw hK hc i pins s σ H E I hf q hg
    subst hP hw hK
    obtain ⟨hz, hTI, ⟨x0, y0, hTO⟩, h1, h2⟩ := q
    obtain ⟨xs, ys, qx, qy, ei, el⟩ := hg
    obtain ⟨its1, r1, p1⟩ := inv_seq I qx
    obtain ⟨its2, r2, p2⟩ := inv_seq I qy
    have m1 := r1.length
    have m2 := r2.length
    have dr1 := draws_seq (prog := X.prog) (w := X.w) (A := X.A.in1) (I.ok.hd hc) k1 i1 a D.a1 its1.toArray
    have dr2 := draws_seq (prog := X.prog) (w := X.w) (A := X.A.in1) (I.ok.hd hc) k2 i2 b D.b2 its2.toArray
    refine zp_none (I.ok.hd hc) D.sep dr1 dr2 (fun e => by have := el e; simp only [List.size_toArray]; omega) hz hTI hTO ⟨h1, p1⟩ ⟨h2, p2⟩ (by simp only [List.size_toArray]; omega) fun h' tk hk => ⟨rfl, ?_⟩
    exact inv_turned I hf fun c o hb q => hk c o (fun q' => hb (by simp [q'])) (fun q' => hb (by simp [q'])) (fun q' => hb (by simp [q'])) (fun q' => hb (by simp [q'])) q
  self := fun A i s Q E st h => zp_iter st.1 h

/-! enumerate(v), zip(v, w), zip(v, w, strict=True) as what a loop walks -/
theorem meets_enB {v : Value} {o : Obj} {H : Heap → Prop} (B : Begins v o H) :
    Meets (Builtin.«enumerate.__new__» ⟨[.type "enumerate", v], []⟩) (fun _ R s => H s.heap ∧
      R (.ok (.ret (.ref (s.heap.push o).objs.size))) { s with heap := (s.heap.push o).push { cls := .type "enumerate", data := .fields #[.none, .bool false, .ref s.heap.objs.size, rawInt 0, .none, .none] } }) :=
  .of_wp fun prog w A R s h => by
    obtain ⟨hp, g, d, tk, os⟩ := s; obtain ⟨h1, h⟩ := h
    have hsub := sub_enumerate
    have r1 : ∀ {A' : Around} {E : Value → Shared → Prop} {Q : Value → Shared → Prop}, Q (.ref hp.objs.size) ⟨hp.push o, g, d, tk, os⟩ → wpAny (model prog w) A' (pyIter v) Q E ⟨hp, g, d, tk, os⟩ :=
      fun q => B.iter prog w _ _ ⟨hp, g, d, tk, os⟩ _ h1 q
    wp_walk using r1
    refine wpAny_stack_any fun st => wpAny_pure ?_
    split
    · rename_i c _ _ _ _ _
      cases (c == Value.type "enumerate")
      · wp_walk using r1
        exact ⟨_, rfl, h⟩
      · wp_walk using r1
        exact ⟨_, rfl, h⟩
    · wp_walk using r1
      exact ⟨_, rfl, h⟩
end CW

namespace CW
open PySem PySem.Spec PyProof.Rows L2
section
variable {prog : Program} {w : World} {A : Around} {E : Value → Shared → Prop} {s : Shared}
theorem en_begins {v : Value} {o : Obj} {H : Heap → Prop} {Q : Value → Shared → Prop} (B : Begins v o H) (h1 : H s.heap)
    (h : ∀ h', IsEnum h' (s.heap.objs.size + 1) s.heap.objs.size 0 .none → h'.get? s.heap.objs.size = some o → h'.objs.size = s.heap.objs.size + 2 →
      (∀ b o, s.heap.get? b = some o → h'.get? b = some o) → Q (.ref (s.heap.objs.size + 1)) { s with heap := h' }) :
    wpAny (model prog w) A (call (.type "enumerate") [v]) Q E s := by
  refine callType_new F.called_enumerate (by decide) (F.typeCall_enumerate_1 _) (F.newCall_enumerate_1 _) (fun obj => F.args_object_init_2 obj _) F.entry_enumerate_new (meets_enB B) ⟨h1, ?_⟩
  have hz : (s.heap.push o).objs.size = s.heap.objs.size + 1 := Heap.size_push ..
  show _ ∧ _
  rw [hz]
  have he : IsEnum ((s.heap.push o).push { cls := .type "enumerate", data := .fields #[.none, .bool false, .ref s.heap.objs.size, rawInt 0, .none, .none] }) (s.heap.objs.size + 1) s.heap.objs.size 0 .none := by
    have q := Heap.get?_push_size (s.heap.push o) (o := { cls := .type "enumerate", data := .fields #[.none, .bool false, .ref s.heap.objs.size, rawInt 0, .none, .none] }) rfl
    rw [hz] at q; exact q
  exact ⟨⟨_, he, rfl⟩, h _ he (Heap.get?_push_of_some _ (Heap.get?_push_size _ B.free)) (by rw [Heap.size_push, hz]) fun b o x => Heap.get?_push_of_some _ (Heap.get?_push_of_some _ x)⟩
end
/-! a type called with keywords -/
section
variable {M : Model} {A : Around} {E : Value → Shared → Prop} {s : Shared} {env : Env}
theorem callWith_tyK {pos : Pos} {T : String} {e : Expr} {rest : List Expr} {kws : List Keyword} {Q : Value → Shared → Prop}
    (h : wpAny M A (spliced (backTo pos (starEach (e :: rest) env))) (fun vs s₁ => wpAny M A (evalAll ((backToKw pos (keywordEach kws env)).map (·.2)))
      (fun kvs s₂ => wpAny M A (call (.type T) vs (((backToKw pos (keywordEach kws env)).filterMap (·.1)).zip kvs)) Q E s₂) E s₁) E s)
    (he : backTo pos (starEach (e :: rest) env) = (false, eval e env) :: backTo pos (starEach rest env))
    (hpl : (backTo pos (starEach (e :: rest) env)).any (·.1) = false)
    (hall : (backToKw pos (keywordEach kws env)).all (·.1.isSome) = true)
    (hkw : (backToKw pos (keywordEach kws env)).any (·.1.isNone) = false) :
    wpAny M A (callWith pos (.type T) [] (backTo pos (starEach (e :: rest) env)) (backToKw pos (keywordEach kws env))) Q E s := by
  have ev : wpAny M A (evalArgs (.type T) true (backTo pos (starEach (e :: rest) env)) (backToKw pos (keywordEach kws env))) (fun (a : Args) s₁ => wpAny M A (call (.type T) a.pos a.kw) Q E s₁) E s := by
    rw [he] at h ⊢
    exact evalArgs_kwB hall h
  unfold callWith
  refine wpAny_bind (wpAny_holding (wpAny_mono ev (fun a s₁ h₁ => wpAny_bind (wpAny_standAt ?_)) fun _ _ x => x))
  simp only [hpl, hkw, Bool.or_false]
  refine wpAny_bind (wpAny_pure ?_)
  refine wpAny_bind (wpAny_mono h₁ (fun r s₂ hr => ?_) fun _ _ x => x)
  exact wpAny_bind (wpAny_holding (wpAny_point (wpAny_pure hr)))
end
section
variable {X : Cx}
theorem sqs_of {K : PySem.W.Frag} {H : Hp} {a : Addr} {xs : List V} (h : SqL K H a xs ∨ SqT K H a xs) : ∃ k, SqS K H k a xs := by
  rcases h with h | h
  · exact ⟨true, h⟩
  · exact ⟨false, h⟩
/-- what enumerate(e) walks -/
def iEn (K : PySem.W.Frag) (ta : TA) : TI := fun σ H R => ta σ H fun vs H1 => ∃ (k : Bool) (a : Addr) (xs : List V), vs = [.ref a] ∧ SqS K H1 k a xs ∧ R (ItEn K k a) H1
theorem pi_en {e : Expr} {ta : TA} {p pos tpos : Pos} {elts : List Expr} {kk : Nat} (hg : Gl X "enumerate") (hm : X.mg "enumerate" = none) (ha : PA X [e] ta) (hs : starEach [e] X.env = [(false, eval e X.env)] := by rfl) :
    PI X (.Tuple elts kk tpos) (.Call (.Name "enumerate" p) [e] [] pos) (iEn X.K ta) := by
  refine ⟨fun pins s σ H R I h => ?_⟩
  refine Call_ (ld_blt I hg hm boot_enumerate (PyProof.Rows.callWith_type1 (thn (ha.run pos pins s σ H _ I h) fun us s1 ⟨vs, H1, I1, r1, q1⟩ => ?_) hs rfl))
  obtain ⟨k, a, xs, ex, hq, q⟩ := q1
  subst ex
  obtain rfl := Vals.ref1 r1
  obtain ⟨its, rv, sq⟩ := inv_seq I1 hq
  obtain ⟨oa, ea⟩ := seq_there sq
  have la : a < s1.heap.objs.size := Heap.lt_size ea
  refine en_begins (begins_seq k a its.toArray) sq fun h' he hit hsz hk => wpAny_pyIter_enum he ?_
  have I2 : Inv X pins σ H1 { s1 with heap := h' } := I1.kept (t' := s1.toks) hk
  refine ⟨s1.heap.objs.size + 1, [s1.heap.objs.size + 1, s1.heap.objs.size], _, _, H1, rfl, I2, turn_en (k := k) (a := a) (e := s1.heap.objs.size + 1) (it := s1.heap.objs.size) (Nat.succ_ne_self _) (Nat.ne_of_gt (Nat.lt_succ_of_lt la)) (Nat.ne_of_lt la),
    ⟨⟨.none, he⟩, ItAt.start hit⟩, fun b hb => ?_, q⟩
  have hle : s1.heap.objs.size ≤ b := by
    have e' : b = s1.heap.objs.size + 1 ∨ b = s1.heap.objs.size := by simpa using hb
    rcases e' with z | z
    · rw [z]; exact Nat.le_add_right _ _
    · rw [z]; exact Nat.le_refl _
  exact I1.fpOk hle (I1.hok.fresh hle)
/-- what zip(e, f) walks -/
def iZp (K : PySem.W.Frag) (st : Bool) (ta : TA) : TI := fun σ H R => ta σ H fun vs H1 => ∃ (k1 k2 : Bool) (a b : Addr) (xs ys : List V), vs = [.ref a, .ref b] ∧ SqS K H1 k1 a xs ∧ SqS K H1 k2 b ys ∧ R (ItZp K st k1 k2 a b) H1
theorem zAp_new {N a b : Nat} (ha : a < N) (hb : b < N) : ZAp (N + 4) (N + 2) (N + 3) N (N + 1) a b where
  sep := zip_sep2 (fp1 := [a]) (fp2 := [b]) (fun c hc => by have : c = a := (by simpa using hc); rw [this]; exact ha) (fun c hc => by have : c = b := (by simpa using hc); rw [this]; exact hb)
  a1 := Nat.ne_of_lt ha
  b2 := Nat.ne_of_lt (Nat.lt_succ_of_lt hb)
theorem zp_start {pins : List (Addr × Obj)} {σ : L2.St} {H1 : Hp} {s1 : Shared} {R : It → Hp → Prop} {k1 k2 st : Bool} {a b : Addr} {its1 its2 : List Value} {elts : List Expr} {kk : Nat} {tpos : Pos} {h' : Heap} (I1 : Inv X pins σ H1 s1)
    (p1 : SeqA s1.heap k1 a its1.toArray) (p2 : SeqA s1.heap k2 b its2.toArray) (q : R (ItZp X.K st k1 k2 a b) H1)
    (hz : ZpS st h' (s1.heap.objs.size + 4) (s1.heap.objs.size + 2) (s1.heap.objs.size + 3) .none) (hTI : IsTupOf2 h' (s1.heap.objs.size + 2) (.ref s1.heap.objs.size) (.ref (s1.heap.objs.size + 1)))
    (hTO : IsTupOf2 h' (s1.heap.objs.size + 3) .none .none) (g1 : h'.get? s1.heap.objs.size = some (itObj k1 a)) (g2 : h'.get? (s1.heap.objs.size + 1) = some (itObj k2 b))
    (hk : ∀ c o, s1.heap.get? c = some o → h'.get? c = some o) :
    wpAny (model X.prog X.w) X.A (pyIter (.ref (s1.heap.objs.size + 4))) (PIE X pins σ (.Tuple elts kk tpos) R) X.xe { s1 with heap := h' } := by
  obtain ⟨oa, ea⟩ := seq_there p1
  obtain ⟨ob, eb⟩ := seq_there p2
  refine zp_iter (s := { s1 with heap := h' }) hz ?_
  have I2 : Inv X pins σ H1 { s1 with heap := h' } := I1.kept (t' := s1.toks) hk
  refine ⟨s1.heap.objs.size + 4, [s1.heap.objs.size + 4, s1.heap.objs.size + 2, s1.heap.objs.size + 3, s1.heap.objs.size, s1.heap.objs.size + 1], _, _, H1, rfl, I2,
    turn_zp (st := st) (k1 := k1) (k2 := k2) (zAp_new (Heap.lt_size ea) (Heap.lt_size eb)), ⟨hz, hTI, ⟨_, _, hTO⟩, ItAt.start g1, ItAt.start g2⟩, fun c hcm => ?_, q⟩
  have hle : s1.heap.objs.size ≤ c := by
    have e' : c = s1.heap.objs.size + 4 ∨ c = s1.heap.objs.size + 2 ∨ c = s1.heap.objs.size + 3 ∨ c = s1.heap.objs.size ∨ c = s1.heap.objs.size + 1 := by simpa using hcm
    rcases e' with z | z | z | z | z <;> rw [z] <;> first | exact Nat.le_add_right _ _ | exact Nat.le_refl _
  exact I1.fpOk hle (I1.hok.fresh hle)
theorem pi_zp {e e2 : Expr} {ta : TA} {p pos tpos : Pos} {elts : List Expr} {kk : Nat} (hg : Gl X "zip") (hm : X.mg "zip" = none) (ha : PA X [e, e2] ta)
    (hs : starEach [e, e2] X.env = (false, eval e X.env) :: starEach [e2] X.env := by rfl) (hpl : (backTo pos (starEach [e2] X.env)).any (·.1) = false := by rfl) :
    PI X (.Tuple elts kk tpos) (.Call (.Name "zip" p) [e, e2] [] pos) (iZp X.K false ta) := by
  refine ⟨fun pins s σ H R I h => ?_⟩
  refine Call_ (ld_blt I hg hm PyProof.Rows.boot_zip (PyProof.Rows.callWith_type1 (thn (ha.run pos pins s σ H _ I h) fun us s1 ⟨vs, H1, I1, r1, q1⟩ => ?_) hs hpl))
  obtain ⟨k1, k2, a, b, xs, ys, ex, qx, qy, q⟩ := q1
  subst ex
  obtain ⟨u1, u2, rfl, e1, e2⟩ := vals2 r1
  cases e1; cases e2
  obtain ⟨its1, rv1, p1⟩ := inv_seq I1 qx
  obtain ⟨its2, rv2, p2⟩ := inv_seq I1 qy
  exact zip_begins2 (begins_seq k1 a its1.toArray) (begins_seq k2 b its2.toArray) p1 p2 fun h' hz hTI hTO g1 g2 hsz hk => zp_start (st := false) I1 p1 p2 q hz hTI hTO g1 g2 hk
theorem pi_zpS {e e2 : Expr} {ta : TA} {p pos tpos kp cp : Pos} {elts : List Expr} {kk j : Nat} (hg : Gl X "zip") (hm : X.mg "zip" = none) (ha : PA X [e, e2] ta)
    (he : backTo pos (starEach [e, e2] X.env) = (false, eval e X.env) :: backTo pos (starEach [e2] X.env) := by rfl) (hpl : (backTo pos (starEach [e, e2] X.env)).any (·.1) = false := by rfl) :
    PI X (.Tuple elts kk tpos) (.Call (.Name "zip" p) [e, e2] [⟨some "strict", .Constant (.bool true) j cp, kp⟩] pos) (iZp X.K true ta) := by
  refine ⟨fun pins s σ H R I h => ?_⟩
  refine wpAny_Call_Name_kw (ld_blt I hg hm PyProof.Rows.boot_zip ?_)
  refine callWith_tyK (thn (ha.run pos pins s σ H _ I h) fun us s1 ⟨vs, H1, I1, r1, q1⟩ => ?_) he hpl rfl rfl
  refine kws_cons (Constant_bool (kws_nil ?_))
  obtain ⟨k1, k2, a, b, xs, ys, ex, qx, qy, q⟩ := q1
  subst ex
  obtain ⟨u1, u2, rfl, e1, e2⟩ := vals2 r1
  cases e1; cases e2
  obtain ⟨its1, rv1, p1⟩ := inv_seq I1 qx
  obtain ⟨its2, rv2, p2⟩ := inv_seq I1 qy
  exact zipS_begins (begins_seq k1 a its1.toArray) (begins_seq k2 b its2.toArray) p1 p2 fun h' hz hTI hTO g1 g2 hsz hk => zp_start (st := true) I1 p1 p2 q hz hTI hTO g1 g2 hk
end
end CW

namespace CW
open PySem PySem.Spec PyProof.Rows L2

/-! a def's promise where nothing is being shown (so that repr of a list can be told) -/
structure FnG (P : Program) (w : World) (K : PySem.W.Frag) (mg : Str → Option Value) (base : Heap) (CX : CXT) (k : Nat) (f : Addr) (fd : FuncData) (ps : List Str) (sp : Sp) : Prop where
  len : ∀ vs H Q E, sp vs H Q E → vs.length = ps.length
  run : ∀ (A : Around) (outer : List Env) (s : Shared) (H : Hp) (args : Args) (us : List Value) (vs : List V) (Q : VK) (E : XK), A.guards = some [] → Room k A → Env0 P w K mg base A outer s H → BindsTo s fd args (ps.zip us) → Vals vs us → sp vs H Q E →
    codeAny (model P w) A (.call (.ref f) args) (CR CX outer P w H s Q E) s
theorem FnG.mono {P : Program} {w : World} {K : PySem.W.Frag} {mg : Str → Option Value} {base : Heap} {CX : CXT} {j k : Nat} {f : Addr} {fd : FuncData} {ps : List Str} {sp : Sp} (F : FnG P w K mg base CX j f fd ps sp) (h : j ≤ k) :
    FnG P w K mg base CX k f fd ps sp := ⟨F.len, fun A outer s H args us vs Q E hg hr => F.run A outer s H args us vs Q E hg (hr.mono h)⟩
section
variable {P : Program} {w : World} {K : PySem.W.Frag} {mg : Str → Option Value} {base : Heap} {x qual : Str} {params : Arguments} {body : List Stmt} {scope : Scope} {dvs : List V} {kws : List (Str × V)} {f : Addr} {fd : FuncData}
theorem fnG_of {CX : CXT} {N ps : List Str} {k : Nat} {sp : Sp} (D : FunD K x qual params body scope dvs kws f fd) (S : FnScope N ps scope) (len : ∀ vs H Q E, sp vs H Q E → vs.length = ps.length)
    (bd : ∀ (cdv : Value) (A : Around) (outer : List Env) (s : Shared) (H : Hp) (vs : List V) (Q : VK) (E : XK), A.guards = some [] → Room k (A.deeper (envOfC qual scope s.heap.objs.size f cdv)) → sp vs H Q E →
      ∃ t, PSs (cxOf CX P w K mg base N qual scope f cdv A outer s H E) body t ∧ t { nx := fun _ H' => Q .non H', rt := Q } (start N vs) H) : FnG P w K mg base CX (k + 1) f fd ps sp := by
  obtain ⟨oc, od, dV, kV, doc, pm, an, cdv, ct, osl, rfl, lk, hcd, _, _⟩ := D.ex
  refine ⟨len, fun A outer s H args us vs Q E hG hR e0 hB rV hS => ?_⟩
  have hL := len vs H Q E hS
  have kin : K.In s.heap := e0.mod.kin.keeps fun b o z => (e0.bs b o z).1
  have nl : s.heap.NoLimit := e0.mod.nolimit.keeps fun b o z => (e0.bs b o z).1
  have kinds : ∀ y ∈ ps.zip us, scope.names.lookup y.1 = some .local ∨ (scope.names.lookup y.1 = some .cell ∧ ((cellsFrom (s.heap.objs.size + 1) scope.names []).lookup y.1).isSome = true) := by
    rintro ⟨n, v⟩ hy
    rcases S.par n (List.of_mem_zip hy).1 with z | z
    · exact .inl z
    · exact .inr ⟨z, PySem.W.cellsFrom_some _ _ _ (.inl z)⟩
  refine codeAny_call_function hR.depth (kin _ _ lk) rfl S.co S.gen rfl (PySem.W.codeRec_of kin hcd) (hB _ _ _ _ ?_)
  refine wpAny_newFunctionEnv_cells S.kind kinds fun env eE s1 inC => ?_
  subst eE
  refine ⟨nl.keeps inC.toInCall.keep, codeAny_func ?_⟩
  obtain ⟨t, pt, ht⟩ := bd cdv A outer s H vs Q E hG (hR.deeper _) hS
  have J : Inv (cxOf CX P w K mg base N qual scope f cdv A outer s H E) [] (start N vs) H s1 := inv_start S hR.hd e0 hL rV inC
  refine wpAny_mono (pt.run [] s1 (start N vs) H _ J ht) (fun fl s' z => ?_) fun _ _ z => z
  have ends : ∀ {σ' : L2.St} {H' : Hp} {v : V} {u : Value}, Inv (cxOf CX P w K mg base N qual scope f cdv A outer s H E) [] σ' H' s' → RelV v u → Q v H' → CE outer P w H s Q u s' :=
    fun {σ' H' v u} I rv q => ⟨v, H', I.os, I.bare, I.base, I.hok, rv, q⟩
  cases fl with
  | next => obtain ⟨σ', H', I, q⟩ := z; exact ends (v := V.non) (u := Value.none) I rfl q
  | ret u => obtain ⟨v, σ', H', I, rv, q⟩ := z; exact ends I rv q
  | brk => obtain ⟨_, _, _, q⟩ := z; exact q.elim
  | cont => obtain ⟨_, _, _, q⟩ := z; exact q.elim
end

/-! calls of such a def -/
section
variable {X : Cx} {CX : CXT} {k : Nat} {f : Addr} {fd : FuncData} {ps ks : List Str} {sp : Sp} {E : XK} {x : Str} {p pos : Pos} {e : Expr} {es : List Expr} {kws : List Keyword} {t tk : TA}
theorem run_fnG {pins : List (Addr × Obj)} {σ : L2.St} {H : Hp} {s : Shared} {Q : VK} {args : Args} {us : List Value} {vs : List V} (F : FnG X.prog X.w X.K X.mg X.base CX k f fd ps sp) (hG : X.A.guards = some []) (hr : Room k X.A) (hx : Passes CX X E)
    (I : Inv X pins σ H s) (hb : us.length = ps.length → BindsTo s fd args (ps.zip us)) (r : Vals vs us) (h : sp vs H Q E) : wpAny (model X.prog X.w) X.A (call (.ref f) args.pos args.kw) (EP X pins σ Q) X.xe s := by
  have hl : us.length = ps.length := by rw [← r.length]; exact F.len _ _ _ _ h
  refine wpAny_call (codeAny_mono (F.run X.A X.stack s H args us vs Q E hG hr I.env0 (hb hl) r h) fun r s' hq => ?_)
  cases r with
  | error e => exact hx pins σ H s e s' I hq
  | ok fl =>
    cases fl with
    | ret u => exact I.after hq
    | next => exact hq.elim
    | brk => exact hq.elim
    | cont => exact hq.elim
theorem pe_callG (F : FnG X.prog X.w X.K X.mg X.base CX k f fd ps sp) (hG : X.A.guards = some []) (hr : Room k X.A) (hg : Gl X x) (hm : X.mg x = some (.ref f)) (hk : PySem.W.keepIn X.K (.ref f) = true) (hb : Binds X.K fd ps []) (hx : Passes CX X E)
    (ha : PA X (e :: es) t) (hdb : (x == ("__debug__" : Str)) = false := by decide) (he : starEach (e :: es) X.env = (false, eval e X.env) :: starEach es X.env := by rfl) (hpl : (backTo pos (starEach es X.env)).any (·.1) = false := by rfl) :
    PE X (.Call (.Name x p) (e :: es) [] pos) (tCall sp [] E t) := by
  refine ⟨fun pins s σ H Q I h => ?_⟩
  refine wpAny_Call_Name_kw (ld_glob I hg hm ?_ hdb)
  refine PySem.W.callWith_K (h₀ := X.base) I.ok.mod.kin hk (thn (ha.run pos pins s σ H _ I h) fun us s1 ⟨vs, H1, I1, r, q⟩ => ⟨I1.kIn, ?_⟩) he hpl
  have q' : sp vs H1 Q E := by
    have z : sp (vs ++ []) H1 Q E := q
    rwa [List.append_nil] at z
  exact run_fnG (args := ⟨us, []⟩) F hG hr hx I1 (fun hl => by have z := hb s1 us I1.kIn (by simpa using hl); rwa [List.append_nil] at z) r q'
theorem pe_call0G (F : FnG X.prog X.w X.K X.mg X.base CX k f fd ps sp) (hG : X.A.guards = some []) (hr : Room k X.A) (hg : Gl X x) (hm : X.mg x = some (.ref f)) (hk : PySem.W.keepIn X.K (.ref f) = true) (hb : Binds X.K fd ps []) (hx : Passes CX X E)
    (hdb : (x == ("__debug__" : Str)) = false := by decide) : PE X (.Call (.Name x p) [] [] pos) (tCall sp [] E tNil) := by
  refine ⟨fun pins s σ H Q I h => ?_⟩
  refine wpAny_Call_Name_kw (ld_glob I hg hm ?_ hdb)
  exact PySem.W.callWith_K0 I.kIn hk (run_fnG (args := ⟨[], []⟩) (us := []) F hG hr hx I (fun hl => hb s [] I.kIn (by simpa using hl)) .nil h)
/-- the written values in the parameters' order -/
def inOrder {α : Type} (ix : List Nat) (xs : List α) : List α := ix.filterMap fun i => xs[i]?
theorem vals_order {vs : List V} {us : List Value} (r : Vals vs us) : ∀ ix : List Nat, Vals (inOrder ix vs) (inOrder ix us)
  | [] => .nil
  | i :: ix => by
    unfold inOrder
    cases q : vs[i]? with
    | none =>
      have q2 := Vals.none_of r q
      rw [List.filterMap_cons_none q, List.filterMap_cons_none q2]
      exact vals_order r ix
    | some v =>
      obtain ⟨u, q2, rv⟩ := r.get q
      rw [List.filterMap_cons_some q, List.filterMap_cons_some q2]
      exact .cons rv (vals_order r ix)
/-- f(e, .., k = v, ..): ix says where each parameter's value stands among the written ones -/
def KwTo (K : PySem.W.Frag) (fd : FuncData) (ps : List Str) (n : Nat) (ks : List Str) (ix : List Nat) : Prop := ∀ (s : Shared) (us ws : List Value), K.In s.heap → us.length = n → ws.length = ks.length → BindsTo s fd ⟨us, ks.zip ws⟩ (ps.zip (inOrder ix (us ++ ws)))
def tCallO (sp : Sp) (ix : List Nat) (n m : Nat) (E : XK) (t tk : TA) : TE := fun σ H Q => t σ H fun vs H1 => tk σ H1 fun zs H2 => vs.length = n ∧ zs.length = m ∧ sp (inOrder ix (vs ++ zs)) H2 Q E
theorem pe_callGK {ix : List Nat} {n : Nat} (F : FnG X.prog X.w X.K X.mg X.base CX k f fd ps sp) (hG : X.A.guards = some []) (hr : Room k X.A) (hg : Gl X x) (hm : X.mg x = some (.ref f)) (hk : PySem.W.keepIn X.K (.ref f) = true) (hb : KwTo X.K fd ps n ks ix) (hx : Passes CX X E)
    (ha : PA X (e :: es) t) (hkw : PK X kws tk) (hall : (backToKw pos (keywordEach kws X.env)).all (·.1.isSome) = true := by rfl) (hks : (backToKw pos (keywordEach kws X.env)).filterMap (·.1) = ks := by rfl)
    (hdb : (x == ("__debug__" : Str)) = false := by decide) (he : starEach (e :: es) X.env = (false, eval e X.env) :: starEach es X.env := by rfl)
    (hpl : ((backTo pos (starEach (e :: es) X.env)).any (·.1) || (backToKw pos (keywordEach kws X.env)).any (·.1.isNone)) = false := by rfl) :
    PE X (.Call (.Name x p) (e :: es) kws pos) (tCallO sp ix n ks.length E t tk) := by
  refine ⟨fun pins s σ H Q I h => ?_⟩
  refine wpAny_Call_Name_kw (ld_glob I hg hm ?_ hdb)
  refine PySem.W.callWith_KW (h₀ := X.base) I.ok.mod.kin hk hall (thn (ha.run pos pins s σ H _ I h) fun us s1 ⟨vs, H1, I1, r, q⟩ => ?_) hpl he
  refine thn (hkw.run pos pins s1 σ H1 _ I1 q) fun ws s2 ⟨zs, H2, I2, rz, l1, l2, q2⟩ => ⟨I2.kIn, ?_⟩
  rw [hks]
  exact run_fnG (args := ⟨us, ks.zip ws⟩) F hG hr hx I2 (fun hl => hb s2 us ws I2.kIn (r.length.symm.trans l1) (rz.length.symm.trans l2)) (vals_order (r.append rz) ix) q2
theorem pe_callGK0 {ix : List Nat} (F : FnG X.prog X.w X.K X.mg X.base CX k f fd ps sp) (hG : X.A.guards = some []) (hr : Room k X.A) (hg : Gl X x) (hm : X.mg x = some (.ref f)) (hk : PySem.W.keepIn X.K (.ref f) = true) (hb : KwTo X.K fd ps 0 ks ix) (hx : Passes CX X E)
    (hkw : PK X kws tk) (hall : (backToKw pos (keywordEach kws X.env)).all (·.1.isSome) = true := by rfl) (hks : (backToKw pos (keywordEach kws X.env)).filterMap (·.1) = ks := by rfl)
    (hdb : (x == ("__debug__" : Str)) = false := by decide)
    (hpl : ((backTo pos (starEach [] X.env)).any (·.1) || (backToKw pos (keywordEach kws X.env)).any (·.1.isNone)) = false := by rfl) :
    PE X (.Call (.Name x p) [] kws pos) (tCallO sp ix 0 ks.length E tNil tk) := by
  refine ⟨fun pins s σ H Q I h => ?_⟩
  refine wpAny_Call_Name_kw (ld_glob I hg hm ?_ hdb)
  refine PySem.W.callWith_KW0 (h₀ := X.base) I.ok.mod.kin hk hall ?_ hpl
  refine thn (hkw.run pos pins s σ H _ I h) fun ws s2 ⟨zs, H2, I2, rz, l1, l2, q2⟩ => ⟨I2.kIn, ?_⟩
  rw [hks]
  exact run_fnG (args := ⟨[], ks.zip ws⟩) F hG hr hx I2 (fun hl => hb s2 [] ws I2.kIn rfl (rz.length.symm.trans l2)) (vals_order (us := [] ++ ws) rz ix) q2
end

/-! the promise in data: m says what comes of the arguments' slots -/
def spD (K : PySem.W.Frag) (mg : Str → Option Value) (n : Nat) (m : Ev → Res (Sl × Ev)) : Sp := fun vs H Q _ => ∃ (ρ : Nat → Addr) (Fr F : Hp) (as : Ev) (r : Sl) (as' : Ev), vs.length = n ∧ Rel K mg ρ Fr F as (vs.map some) H ∧ m as = .ok (r, as') ∧
  ∀ F' v H', Same F F' → Rel K mg ρ Fr F' (r :: as') (some v :: vs.map some) H' → Q v H'
/-- the arguments' slots behind a body -/
def outA : Ev → Ev → Res Ev
  | [], _ => .ok []
  | .val d :: as, _ :: δ => (match outA as δ with
    | .ok r => .ok (.val d :: r)
    | .err c d => .err c d
    | .no => .no)
  | .io k _ :: as, .io k' ys :: δ => if k = k' then (match outA as δ with
    | .ok r => .ok (.io k ys :: r)
    | .err c d => .err c d
    | .no => .no) else .no
  | _, _ => .no
def fnM (nl : Nat) (body : MS) (as : Ev) : Res (Sl × Ev) := match body (as ++ List.replicate nl .emp) with
  | .ok (.rt s, δ') => (match outA as δ' with
    | .ok as' => .ok (s, as')
    | .err c d => .err c d
    | .no => .no)
  | .ok (.nx, δ') => (match outA as δ' with
    | .ok as' => .ok (.val .none, as')
    | .err c d => .err c d
    | .no => .no)
  | .err c d => .err c d
  | _ => .no
section
variable {K : PySem.W.Frag} {mg : Str → Option Value} {ρ : Nat → Addr} {Fr F F' H H' : Hp}
theorem outA_ok (e : Same F F') : ∀ {as δ as' : Ev} {os σ : L2.St} {L0 L : List Addr}, SlotsR K mg ρ F H as os L0 → SlotsR K mg ρ F' H' δ σ L → outA as δ = .ok as' → ∃ L', SlotsR K mg ρ F' H' as' os L' ∧ L'.Sublist L
  | [], δ, as', [], σ, L0, L, h, h', q => by
    cases q
    exact ⟨[], rfl, List.nil_sublist _⟩
  | [], _, _, _ :: _, _, _, _, h, _, _ => h.elim
  | _ :: _, _, _, [], _, _, _, h, _, _ => h.elim
  | a :: as, [], as', o :: os, σ, L0, L, h, h', q => by
    cases a <;> cases q
  | a :: as, s :: δ, as', o :: os, [], L0, L, h, h', q => h'.elim
  | a :: as, s :: δ, as', o :: os, oσ :: σ, L0, L, h, h', q => by
    obtain ⟨A1, A2, rfl, g1, g2⟩ := h
    obtain ⟨B1, B2, rfl, g3, g4⟩ := h'
    cases a with
    | emp => cases q
    | own xs => cases q
    | fn x => cases q
    | val d =>
      unfold outA at q
      split at q
      · rename_i r e1
        cases q
        obtain ⟨L', c1, c2⟩ := outA_ok e g2 g4 e1
        obtain ⟨rfl, v, rfl, dv⟩ := g1
        exact ⟨[] ++ L', ⟨[], L', rfl, ⟨rfl, v, rfl, dv.up e⟩, c1⟩, c2.trans (List.sublist_append_right _ _)⟩
      · cases q
      · cases q
    | io k xs =>
      cases s with
      | io k' ys =>
        unfold outA at q
        split at q
        · rename_i hk
          subst hk
          split at q
          · rename_i r e1
            cases q
            obtain ⟨L', c1, c2⟩ := outA_ok e g2 g4 e1
            obtain ⟨rfl, rfl, vs, a1, a2⟩ := g1
            obtain ⟨_, rfl, ws, b1, b2⟩ := g3
            exact ⟨[ρ k] ++ L', ⟨[ρ k], L', rfl, ⟨rfl, rfl, ws, b1, b2⟩, c1⟩, c2.append_left _⟩
          · cases q
          · cases q
        · cases q
      | emp => cases q
      | own ys => cases q
      | fn x => cases q
      | val d => cases q
theorem outA_rel {as δ as' : Ev} {os σ : L2.St} {s : Sl} {o : Option V} (e : Same F F') (r0 : Rel K mg ρ Fr F as os H) (r : Rel K mg ρ Fr F' (s :: δ) (o :: σ) H') (q : outA as δ = .ok as') : Rel K mg ρ Fr F' (s :: as') (o :: os) H' := by
  obtain ⟨L0, g0, _, _⟩ := r0.own
  obtain ⟨L, ⟨L1, L2, rfl, g1, g2⟩, nd, av⟩ := r.own
  obtain ⟨L', c1, c2⟩ := outA_ok e g0 g2 q
  have sb : (L1 ++ L').Sublist (L1 ++ L2) := c2.append_left _
  exact ⟨r.sub, r.fr, r.dis, L1 ++ L', ⟨L1, L', rfl, g1, c1⟩, nd.sublist sb, fun a ha => av a (sb.subset ha)⟩
end
end CW

namespace CW
open PySem PySem.Spec PyProof.Rows L2

/-! what a loop walks -/
section
variable (K : PySem.W.Frag) (mg : Str → Option Value)
def ItD (J : It) (F : Hp) (ds : List PyData) : Prop := ∀ (i : Nat) (F2 H2 : Hp), Same F F2 → Same F2 H2 → (i = ds.length → J.stop i H2) ∧ ∀ d, ds[i]? = some d → J.go i H2 ∧ ∀ x H3, J.yld i H2 x H3 →
  ∃ F3, Same F2 F3 ∧ Dp K F3 x d ∧ ∀ {ρ : Nat → Addr} {Fr : Hp} {δ : Ev} {σ : L2.St}, Rel K mg ρ Fr F2 δ σ H2 → Rel K mg ρ Fr F3 δ σ H3
def SndI (w : TI) (m : MA) : Prop := ∀ {ρ : Nat → Addr} {Fr F : Hp} {δ : Ev} {σ : L2.St} {H : Hp} {ds : List PyData} {δ' : Ev}, Rel K mg ρ Fr F δ σ H → m δ = .ok (ds, δ') →
  ∀ {R : It → Hp → Prop}, (∀ F' J H', Same F F' → Rel K mg ρ Fr F' δ' σ H' → ItD K mg J F' ds → R J H') → w σ H R
def SndG (g : TG) (f : PyData → Ev → Res Ev) (js : List Nat) : Prop := ∀ {ρ : Nat → Addr} {Fr F : Hp} {δ : Ev} {σ : L2.St} {H : Hp} {x : V} {d : PyData} {δ' : Ev}, Rel K mg ρ Fr F δ σ H → Dp K F x d → f d δ = .ok δ' →
  ∀ {Q : L2.St → Hp → Prop}, (∀ F' σ' H', Same F F' → Rel K mg ρ Fr F' δ' σ' H' → (∀ k, k ∉ js → σ'[k]? = σ[k]?) → σ'.length = σ.length → Q σ' H') → g x σ H Q
end
structure RI (X : Cx) (tg iter : Expr) (w : TI) (m : MA) : Prop where
  pi : PI X tg iter w
  sn : SndI X.K X.mg w m
structure RG (X : Cx) (tg : Expr) (g : TG) (f : PyData → Ev → Res Ev) (js : List Nat) : Prop where
  pg : PG X tg g
  sn : SndG X.K X.mg g f js

section
variable {X : Cx} {K : PySem.W.Frag} {mg : Str → Option Value}
theorem pi_or {tg iter : Expr} {w w' : TI} (h : PI X tg iter w) (h' : PI X tg iter w') : PI X tg iter (fun σ H R => w σ H R ∨ w' σ H R) :=
  ⟨fun pins s σ H R I q => q.elim (h.run pins s σ H R I) (h'.run pins s σ H R I)⟩
theorem itD_list {F : Hp} {a : Addr} {vs : List V} {ds : List PyData} (h : SqL K F a vs) (d : DpAll K F vs ds) : ItD K mg (Itl K a) F ds := fun i F2 H2 s1 s2 => by
  have hq : SqL K H2 a vs := sqL_mono (s1.trans s2) h
  refine ⟨fun e => ⟨vs, hq, by rw [dpa_len d]; omega⟩, fun d' e => ?_⟩
  obtain ⟨v, e1, e2⟩ := dpa_get d e
  refine ⟨⟨vs, v, hq, e1⟩, fun x H3 y => ?_⟩
  obtain ⟨rfl, y⟩ := y
  have ex := y vs hq
  rw [e1] at ex
  cases ex
  exact ⟨F2, Same.refl _, e2.up s1, fun r => r⟩
theorem itD_tup {F : Hp} {a : Addr} {vs : List V} {ds : List PyData} (h : SqT K F a vs) (d : DpAll K F vs ds) : ItD K mg (Itt K a) F ds := fun i F2 H2 s1 s2 => by
  have hq : SqT K H2 a vs := sqT_mono (s1.trans s2) h
  refine ⟨fun e => ⟨vs, hq, by rw [dpa_len d]; omega⟩, fun d' e => ?_⟩
  obtain ⟨v, e1, e2⟩ := dpa_get d e
  refine ⟨⟨vs, v, hq, e1⟩, fun x H3 y => ?_⟩
  obtain ⟨rfl, y⟩ := y
  have ex := y vs hq
  rw [e1] at ex
  cases ex
  exact ⟨F2, Same.refl _, e2.up s1, fun r => r⟩
/-- a list, a tuple, a text -/
def signsD (z : Str) : List PyData := z.cps.toList.map fun c => .str ⟨#[c]⟩
def itemsD : PyData → Res (List PyData)
  | .list xs => .ok xs
  | .tuple xs => .ok xs
  | .str z => .ok (signsD z)
  | _ => .no
def mItems (m : ME) : MA := fun δ => match m δ with
  | .ok (d, δ1) => (match itemsD d with
    | .ok xs => .ok (xs, δ1)
    | .err c d => .err c d
    | .no => .no)
  | .err c d => .err c d
  | .no => .no
def iAny (K : PySem.W.Frag) (t : TE) : TI := fun σ H R => iList K t σ H R ∨ (iTup K t σ H R ∨ iStr t σ H R)
theorem itD_str {F : Hp} {z : Str} : ItD K mg (Its z) F (signsD z) := fun i F2 H2 s1 s2 => by
  refine ⟨fun e => ?_, fun d' e => ?_⟩
  · show z.cps.size ≤ i
    rw [e]; unfold signsD; simp
  · unfold signsD at e
    rw [List.getElem?_map] at e
    cases q : z.cps.toList[i]? with
    | none => rw [q] at e; cases e
    | some c =>
      rw [q] at e
      have e' : PyData.str ⟨#[c]⟩ = d' := Option.some.inj e
      subst e'
      have q2 : z.cps[i]? = some c := by rw [← Array.getElem?_toList]; exact q
      refine ⟨?_, fun x H3 y => ?_⟩
      · show i < z.cps.size
        rcases Nat.lt_or_ge i z.cps.size with l | l
        · exact l
        · rw [Array.getElem?_eq_none l] at q2; cases q2
      · obtain ⟨rfl, c', e1, rfl⟩ := y
        rw [q2] at e1
        cases e1
        exact ⟨F2, Same.refl _, .str _, fun r => r⟩
theorem sn_items {t : TE} {m : ME} (h : SndE K mg t m) : SndI K mg (iAny K t) (mItems m) := fun {ρ Fr F δ σ H ds δ'} r e {R} q => by
  unfold mItems at e
  split at e
  · rename_i d δ1 e1
    split at e
    · rename_i xs e2
      cases e
      unfold itemsD at e2
      split at e2
      · cases e2
        refine .inl (h r e1 fun F1 v H1 s1 r1 d1 => ?_)
        cases d1 with
        | lst hs da => exact ⟨_, rfl, ⟨_, sqL_mono r1.sub hs⟩, q F1 _ H1 s1 r1 (itD_list hs da)⟩
      · cases e2
        refine .inr (.inl (h r e1 fun F1 v H1 s1 r1 d1 => ?_))
        cases d1 with
        | tup hs da => exact ⟨_, rfl, ⟨_, sqT_mono r1.sub hs⟩, q F1 _ H1 s1 r1 (itD_tup hs da)⟩
      · cases e2
        refine .inr (.inr (h r e1 fun F1 v H1 s1 r1 d1 => ?_))
        cases d1
        exact ⟨_, rfl, q F1 _ H1 s1 r1 itD_str⟩
      · cases e2
    · cases e
    · cases e
  · cases e
  · cases e
theorem ri_any {tg e : Expr} {t : TE} {m : ME} (h : RE X e t m) : RI X tg e (iAny X.K t) (mItems m) := ⟨pi_or (pi_list h.pe) (pi_or (pi_tup h.pe) (pi_str h.pe)), sn_items h.sn⟩
/-- ranges -/
def rngD (lo : Int) (n : Nat) : List PyData := (List.range n).map fun (i : Nat) => PyData.int (lo + (i : Int))
theorem itD_rng {F : Hp} {lo : Int} {n : Nat} : ItD K mg (Itr lo n) F (rngD lo n) := fun i F2 H2 s1 s2 => by
  refine ⟨fun e => ?_, fun d' e => ?_⟩
  · show n ≤ i
    rw [e]; unfold rngD; simp
  · unfold rngD at e
    rw [List.getElem?_map] at e
    cases q : (List.range n)[i]? with
    | none => rw [q] at e; cases e
    | some c =>
      rw [q] at e
      have e' : PyData.int (lo + c) = d' := Option.some.inj e
      subst e'
      obtain ⟨hl, hc⟩ := List.getElem?_eq_some_iff.mp q
      have hn : i < n := by simpa using hl
      have hi : c = i := by rw [← hc]; simp
      subst hi
      refine ⟨hn, fun x H3 y => ?_⟩
      obtain ⟨rfl, rfl⟩ := y
      exact ⟨F2, Same.refl _, .int _, fun r => r⟩
def rOk (i : Int) : Bool := decide (-(2 ^ 62) ≤ i ∧ i < 2 ^ 62)
def mRng1 (as : MA) : MA := fun δ => match as δ with
  | .ok ([.int j], δ1) => if rOk j then .ok (rngD 0 j.toNat, δ1) else .no
  | .err c d => .err c d
  | _ => .no
def mRng2 (as : MA) : MA := fun δ => match as δ with
  | .ok ([.int i, .int j], δ1) => if rOk i && rOk j then .ok (rngD i (j - i).toNat, δ1) else .no
  | .err c d => .err c d
  | _ => .no
theorem sn_rng1 {t : TA} {as : MA} (h : SndA K mg t as) : SndI K mg (iRng1 t) (mRng1 as) := fun {ρ Fr F δ σ H ds δ'} r e {R} q => by
  unfold mRng1 at e
  split at e
  · split at e
    · rename_i j δ1 e1 hj
      cases e
      refine h r e1 fun F1 vs H1 s1 r1 d1 => ?_
      have hj' := of_decide_eq_true hj
      cases d1 with
      | cons d2 d3 =>
        cases d2; cases d3
        exact ⟨_, rfl, hj'.1, hj'.2, q F1 _ H1 s1 r1 itD_rng⟩
    · cases e
  · cases e
  · cases e
theorem sn_rng2 {t : TA} {as : MA} (h : SndA K mg t as) : SndI K mg (iRng2 t) (mRng2 as) := fun {ρ Fr F δ σ H ds δ'} r e {R} q => by
  unfold mRng2 at e
  split at e
  · split at e
    · rename_i i j δ1 e1 hj
      cases e
      refine h r e1 fun F1 vs H1 s1 r1 d1 => ?_
      rw [Bool.and_eq_true] at hj
      have h1 := of_decide_eq_true hj.1
      have h2 := of_decide_eq_true hj.2
      cases d1 with
      | cons d2 d3 =>
        cases d3 with
        | cons d4 d5 =>
          cases d2; cases d4; cases d5
          exact ⟨_, _, rfl, ⟨h1.1, h1.2, h2.1, h2.2⟩, q F1 _ H1 s1 r1 itD_rng⟩
    · cases e
  · cases e
  · cases e
theorem ri_rng1 {tg a : Expr} {t : TA} {as : MA} {p pos : Pos} (hg : Gl X "range") (hm : X.mg "range" = none) (ha : RA X [a] t as) (hs : starEach [a] X.env = [(false, eval a X.env)] := by rfl) : RI X tg (.Call (.Name "range" p) [a] [] pos) (iRng1 t) (mRng1 as) :=
  ⟨pi_range1 hg hm ha.pa hs, sn_rng1 ha.sn⟩
theorem ri_rng2 {tg a b : Expr} {t : TA} {as : MA} {p pos : Pos} (hg : Gl X "range") (hm : X.mg "range" = none) (ha : RA X [a, b] t as) (hs : starEach [a, b] X.env = [(false, eval a X.env), (false, eval b X.env)] := by rfl) (hs2 : starEach [b] X.env = [(false, eval b X.env)] := by rfl) :
    RI X tg (.Call (.Name "range" p) [a, b] [] pos) (iRng2 t) (mRng2 as) := ⟨pi_range2 hg hm ha.pa hs hs2, sn_rng2 ha.sn⟩
/-- enumerate -/
def seqD : PyData → Res (List PyData)
  | .list xs => .ok xs
  | .tuple xs => .ok xs
  | _ => .no
theorem seqD_ok {F : Hp} {v : V} {d : PyData} {xs : List PyData} (h : Dp K F v d) (e : seqD d = .ok xs) : ∃ k a vs, v = .ref a ∧ SqS K F k a vs ∧ DpAll K F vs xs := by
  unfold seqD at e
  split at e
  · cases e
    cases h with
    | lst hs da => exact ⟨true, _, _, rfl, hs, da⟩
  · cases e
    cases h with
    | tup hs da => exact ⟨false, _, _, rfl, hs, da⟩
  · cases e
theorem sqs_mono {F F' : Hp} {k : Bool} {a : Addr} {xs : List V} (e : Same F F') (h : SqS K F k a xs) : SqS K F' k a xs := by
  cases k with
  | true => exact sqL_mono e h
  | false => exact sqT_mono e h
def enD (xs : List PyData) : List PyData := xs.zipIdx.map fun p => .tuple [.int (p.2 : Nat), p.1]
theorem itD_en {F : Hp} {k : Bool} {a : Addr} {vs : List V} {xs : List PyData} (h : SqS K F k a vs) (da : DpAll K F vs xs) : ItD K mg (ItEn K k a) F (enD xs) := fun i F2 H2 s1 s2 => by
  have hq : SqS K H2 k a vs := sqs_mono (s1.trans s2) h
  refine ⟨fun e => ⟨vs, hq, by rw [dpa_len da, e]; unfold enD; simp⟩, fun d' e => ?_⟩
  unfold enD at e
  rw [List.getElem?_map, List.getElem?_zipIdx] at e
  cases q : xs[i]? with
  | none => rw [q] at e; cases e
  | some d =>
    rw [q] at e
    have e' : PyData.tuple [.int ((0 + i : Nat) : Int), d] = d' := Option.some.inj e
    rw [Nat.zero_add] at e'
    subst e'
    obtain ⟨v, e1, e2⟩ := dpa_get da q
    refine ⟨⟨vs, v, hq, e1⟩, fun x H3 y => ?_⟩
    obtain ⟨T, x', rfl, hT, rfl, y⟩ := y
    have ex := y vs hq
    rw [e1] at ex
    cases ex
    have fT := s2.free hT
    exact ⟨upd F2 T (.tup [.int (i : Nat), v]), same_upd fT, .tup (SqT.of upd_same) (.cons (.int _) (.cons (e2.up (s1.trans (same_upd fT))) .nil)), fun r => r.frz hT⟩
def mEn (as : MA) : MA := fun δ => match as δ with
  | .ok ([d], δ1) => (match seqD d with
    | .ok xs => .ok (enD xs, δ1)
    | .err c d => .err c d
    | .no => .no)
  | .err c d => .err c d
  | _ => .no
theorem sn_en {t : TA} {as : MA} (h : SndA K mg t as) : SndI K mg (iEn K t) (mEn as) := fun {ρ Fr F δ σ H ds δ'} r e {R} q => by
  unfold mEn at e
  split at e
  · split at e
    · rename_i d δ1 e1 _ xs e2
      cases e
      refine h r e1 fun F1 vs H1 s1 r1 d1 => ?_
      cases d1 with
      | cons d2 d3 =>
        cases d3
        obtain ⟨k, a, ws, rfl, sq, da⟩ := seqD_ok d2 e2
        exact ⟨k, a, ws, rfl, sqs_mono r1.sub sq, q F1 _ H1 s1 r1 (itD_en sq da)⟩
    · cases e
    · cases e
  · cases e
  · cases e
theorem ri_en {elts : List Expr} {kk : Nat} {tpos p pos : Pos} {a : Expr} {t : TA} {as : MA} (hg : Gl X "enumerate") (hm : X.mg "enumerate" = none) (ha : RA X [a] t as) (hs : starEach [a] X.env = [(false, eval a X.env)] := by rfl) :
    RI X (.Tuple elts kk tpos) (.Call (.Name "enumerate" p) [a] [] pos) (iEn X.K t) (mEn as) := ⟨pi_en hg hm ha.pa hs, sn_en ha.sn⟩
/-- zip -/
def zpD (xs ys : List PyData) : List PyData := List.zipWith (fun x y => .tuple [x, y]) xs ys
theorem itD_zp {F : Hp} {st k1 k2 : Bool} {a b : Addr} {vs ws : List V} {xs ys : List PyData} (h1 : SqS K F k1 a vs) (d1 : DpAll K F vs xs) (h2 : SqS K F k2 b ws) (d2 : DpAll K F ws ys) (hl : st = true → xs.length = ys.length) : ItD K mg (ItZp K st k1 k2 a b) F (zpD xs ys) := fun i F2 H2 s1 s2 => by
  have q1 : SqS K H2 k1 a vs := sqs_mono (s1.trans s2) h1
  have q2 : SqS K H2 k2 b ws := sqs_mono (s1.trans s2) h2
  have hl' : st = true → vs.length = ws.length := fun e => by rw [dpa_len d1, dpa_len d2]; exact hl e
  refine ⟨fun e => ⟨vs, ws, q1, q2, by rw [dpa_len d1, dpa_len d2, e]; unfold zpD; simp, hl'⟩, fun d' e => ?_⟩
  unfold zpD at e
  rw [List.getElem?_zipWith] at e
  cases g1 : xs[i]? with
  | none => rw [g1] at e; cases e
  | some x =>
    cases g2 : ys[i]? with
    | none => rw [g1, g2] at e; cases e
    | some y =>
      rw [g1, g2] at e
      have e' : PyData.tuple [x, y] = d' := Option.some.inj e
      subst e'
      obtain ⟨v, e1, e2⟩ := dpa_get d1 g1
      obtain ⟨w, e3, e4⟩ := dpa_get d2 g2
      refine ⟨⟨vs, ws, v, w, q1, q2, e1, e3, hl'⟩, fun z H3 yy => ?_⟩
      obtain ⟨T, x', y', rfl, hT, rfl, z1, z2⟩ := yy
      have c1 := z1 vs q1
      have c2 := z2 ws q2
      rw [e1] at c1; rw [e3] at c2
      cases c1; cases c2
      have fT := s2.free hT
      have su := s1.trans (same_upd (o := .tup [v, w]) fT)
      exact ⟨upd F2 T (.tup [v, w]), same_upd fT, .tup (SqT.of upd_same) (.cons (e2.up su) (.cons (e4.up su) .nil)), fun r => r.frz hT⟩
def mZp (st : Bool) (as : MA) : MA := fun δ => match as δ with
  | .ok ([c, d], δ1) => (match seqD c with
    | .ok xs => (match seqD d with
      | .ok ys => if (!st || xs.length == ys.length) = true then .ok (zpD xs ys, δ1) else .no
      | .err c d => .err c d
      | .no => .no)
    | .err c d => .err c d
    | .no => .no)
  | .err c d => .err c d
  | _ => .no
theorem sn_zp {st : Bool} {t : TA} {as : MA} (h : SndA K mg t as) : SndI K mg (iZp K st t) (mZp st as) := fun {ρ Fr F δ σ H ds δ'} r e {R} q => by
  unfold mZp at e
  split at e
  · rename_i c d δ1 e1
    split at e
    · rename_i xs e2
      split at e
      · rename_i ys e3
        split at e
        · rename_i hl
          cases e
          refine h r e1 fun F1 vs H1 s1 r1 d1 => ?_
          cases d1 with
          | cons d2 d3 =>
            cases d3 with
            | cons d4 d5 =>
              cases d5
              obtain ⟨k1, a, ws1, rfl, sq1, da1⟩ := seqD_ok d2 e2
              obtain ⟨k2, b, ws2, rfl, sq2, da2⟩ := seqD_ok d4 e3
              refine ⟨k1, k2, a, b, ws1, ws2, rfl, sqs_mono r1.sub sq1, sqs_mono r1.sub sq2, q F1 _ H1 s1 r1 (itD_zp sq1 da1 sq2 da2 fun es => ?_)⟩
              subst es
              simpa using hl
        · cases e
      · cases e
      · cases e
    · cases e
    · cases e
  · cases e
  · cases e
theorem ri_zp {elts : List Expr} {kk : Nat} {tpos p pos : Pos} {a b : Expr} {t : TA} {as : MA} (hg : Gl X "zip") (hm : X.mg "zip" = none) (ha : RA X [a, b] t as)
    (hs : starEach [a, b] X.env = (false, eval a X.env) :: starEach [b] X.env := by rfl) (hpl : (backTo pos (starEach [b] X.env)).any (·.1) = false := by rfl) :
    RI X (.Tuple elts kk tpos) (.Call (.Name "zip" p) [a, b] [] pos) (iZp X.K false t) (mZp false as) := ⟨pi_zp hg hm ha.pa hs hpl, sn_zp ha.sn⟩
theorem ri_zpS {elts : List Expr} {kk j : Nat} {tpos p pos kp cp : Pos} {a b : Expr} {t : TA} {as : MA} (hg : Gl X "zip") (hm : X.mg "zip" = none) (ha : RA X [a, b] t as)
    (he : backTo pos (starEach [a, b] X.env) = (false, eval a X.env) :: backTo pos (starEach [b] X.env) := by rfl) (hpl : (backTo pos (starEach [a, b] X.env)).any (·.1) = false := by rfl) :
    RI X (.Tuple elts kk tpos) (.Call (.Name "zip" p) [a, b] [⟨some "strict", .Constant (.bool true) j cp, kp⟩] pos) (iZp X.K true t) (mZp true as) := ⟨pi_zpS hg hm ha.pa he hpl, sn_zp ha.sn⟩

/-! targets -/
def gSet (i : Nat) (d : PyData) : Ev → Res Ev := fun δ => if i < δ.length then .ok (δ.set i (.val d)) else .no
theorem sn_gname (i : Nat) : SndG K mg (gName i) (gSet i) [i] := fun {ρ Fr F δ σ H x d δ'} r hd e {Q} q => by
  unfold gSet at e
  split at e
  · rename_i hi
    cases e
    refine q F _ H (Same.refl _) ((r.tval hd).set hi) (fun k hk => ?_) (by simp)
    rw [List.getElem?_set_ne (fun z => hk (by simp [z]))]
  · cases e
theorem rg_name (i : Nat) {x : Str} {pos : Pos} (hN : X.N.Nodup) (hi : X.N[i]? = some x := by rfl) (hx : Loc X.env.scope x := by first | exact .inl rfl | exact .inr rfl) (hf : X.fn x = true ∨ X.env.scope.names.lookup x = some .local := by first | exact .inl rfl | exact .inr rfl) : RG X (.Name x pos) (gName i) (gSet i) [i] :=
  ⟨pg_name hN hi hx hf, sn_gname i⟩
/-- several names -/
structure RGs (X : Cx) (ts : List Expr) (g : TGs) (f : List PyData → Ev → Res Ev) (js : List Nat) : Prop where
  pg : PGs X ts g
  sn : ∀ {ρ : Nat → Addr} {Fr F : Hp} {δ : Ev} {σ : L2.St} {H : Hp} {xs : List V} {ds : List PyData} {δ' : Ev}, Rel X.K X.mg ρ Fr F δ σ H → DpAll X.K F xs ds → f ds δ = .ok δ' →
    ∀ {Q : L2.St → Hp → Prop}, (∀ F' σ' H', Same F F' → Rel X.K X.mg ρ Fr F' δ' σ' H' → (∀ k, k ∉ js → σ'[k]? = σ[k]?) → σ'.length = σ.length → Q σ' H') → g xs σ H Q
def gsNil : List PyData → Ev → Res Ev
  | [], δ => .ok δ
  | _, _ => .no
def gsCons (f : PyData → Ev → Res Ev) (g : List PyData → Ev → Res Ev) : List PyData → Ev → Res Ev
  | d :: ds, δ => (match f d δ with
    | .ok δ1 => g ds δ1
    | .err c d => .err c d
    | .no => .no)
  | [], _ => .no
theorem rgs_nil : RGs X [] gNil gsNil [] := ⟨pgs_nil, fun {ρ Fr F δ σ H xs ds δ'} r hd e {Q} q => by
  unfold gsNil at e
  split at e
  · cases e; cases hd
    exact ⟨rfl, q F σ H (Same.refl _) r (fun _ _ => rfl) rfl⟩
  · cases e⟩
theorem rgs_cons {t : Expr} {ts : List Expr} {g : TG} {gs : TGs} {f : PyData → Ev → Res Ev} {fs : List PyData → Ev → Res Ev} {js ks : List Nat} (h : RG X t g f js) (hs : RGs X ts gs fs ks)
    (hp : (assignEach (t :: ts) X.env).map (·.2) = assign t X.env :: (assignEach ts X.env).map (·.2) := by rfl) : RGs X (t :: ts) (gCons g gs) (gsCons f fs) (js ++ ks) := ⟨pgs_cons h.pg hs.pg hp, fun {ρ Fr F δ σ H xs ds δ'} r hd e {Q} q => by
  cases ds with
  | nil => cases e
  | cons d ds =>
    have e' : (match f d δ with | .ok δ1 => fs ds δ1 | .err c d => .err c d | .no => .no) = Res.ok δ' := e
    clear e
    split at e'
    · rename_i δ1 e1
      cases hd with
      | cons h1 h2 =>
        refine ⟨_, _, rfl, h.sn r h1 e1 fun F1 σ1 H1 s1 r1 k1 l1 => ?_⟩
        refine hs.sn r1 (h2.up s1) e' fun F2 σ2 H2 s2 r2 k2 l2 => q F2 σ2 H2 (s1.trans s2) r2 (fun k hk => ?_) (l2.trans l1)
        exact (k2 k (fun z => hk (List.mem_append_right _ z))).trans (k1 k (fun z => hk (List.mem_append_left _ z)))
    · cases e'
    · cases e'⟩
end
end CW

namespace CW
open PySem PySem.Spec PyProof.Rows L2

/-! statements -/
section
variable (K : PySem.W.Frag) (mg : Str → Option Value)
def EndS (ρ : Nat → Addr) (Fr F : Hp) (D : Ends) (δ' : Ev) : Ctl → Prop
  | .nx => ∀ F' σ' H', Same F F' → Rel K mg ρ Fr F' δ' σ' H' → D.nx σ' H'
  | .bk => ∀ F' σ' H', Same F F' → Rel K mg ρ Fr F' δ' σ' H' → D.bk σ' H'
  | .ct => ∀ F' σ' H', Same F F' → Rel K mg ρ Fr F' δ' σ' H' → D.ct σ' H'
  | .rt s => ∀ F' v σ' H', Same F F' → Rel K mg ρ Fr F' (s :: δ') (some v :: σ') H' → D.rt v H'
def SndS (t : TS) (m : MS) : Prop := ∀ {ρ : Nat → Addr} {Fr F : Hp} {δ : Ev} {σ : L2.St} {H : Hp} {c : Ctl} {δ' : Ev}, Rel K mg ρ Fr F δ σ H → m δ = .ok (c, δ') →
  ∀ {D : Ends}, EndS K mg ρ Fr F D δ' c → t D σ H
theorem EndS.up {K : PySem.W.Frag} {mg : Str → Option Value} {ρ : Nat → Addr} {Fr F F1 : Hp} {D : Ends} {δ' : Ev} {c : Ctl} (h : EndS K mg ρ Fr F D δ' c) (e : Same F F1) : EndS K mg ρ Fr F1 D δ' c := by
  cases c with
  | nx => exact fun F' σ' H' s r => h F' σ' H' (e.trans s) r
  | bk => exact fun F' σ' H' s r => h F' σ' H' (e.trans s) r
  | ct => exact fun F' σ' H' s r => h F' σ' H' (e.trans s) r
  | rt x => exact fun F' v σ' H' s r => h F' v σ' H' (e.trans s) r
end
structure RS (X : Cx) (st : Stmt) (t : TS) (m : MS) : Prop where
  ps : PS X st t
  sn : SndS X.K X.mg t m
structure RB (X : Cx) (st : List Stmt) (t : TS) (m : MS) : Prop where
  pss : PSs X st t
  sn : SndS X.K X.mg t m

section
variable {X : Cx} {K : PySem.W.Frag} {mg : Str → Option Value}
def mNext : MS := fun δ => .ok (.nx, δ)
theorem sn_next : SndS K mg tNext mNext := fun {ρ Fr F δ σ H c δ'} r e {D} q => by
  cases e
  exact q F σ H (Same.refl _) r
theorem rb_nil : RB X [] tNext mNext := ⟨pss_nil, sn_next⟩
theorem rs_pass {pos : Pos} : RS X (.Pass pos) tNext mNext := ⟨ps_pass, sn_next⟩
theorem rs_doc {x j pos pos'} : RS X (.Expr (.Constant (.str x) j pos) pos') tNext mNext := ⟨ps_doc, sn_next⟩
def mBreak : MS := fun δ => .ok (.bk, δ)
def mCont : MS := fun δ => .ok (.ct, δ)
theorem rs_break {pos : Pos} : RS X (.Break pos) tBreak mBreak := ⟨ps_break, fun {ρ Fr F δ σ H c δ'} r e {D} q => by cases e; exact q F σ H (Same.refl _) r⟩
theorem rs_continue {pos : Pos} : RS X (.Continue pos) tCont mCont := ⟨ps_continue, fun {ρ Fr F δ σ H c δ'} r e {D} q => by cases e; exact q F σ H (Same.refl _) r⟩
def mSeq (a b : MS) : MS := fun δ => match a δ with
  | .ok (.nx, δ1) => b δ1
  | .ok (.bk, δ1) => .ok (.bk, δ1)
  | .ok (.ct, δ1) => .ok (.ct, δ1)
  | .ok (.rt s, δ1) => .ok (.rt s, δ1)
  | .err c d => .err c d
  | .no => .no
theorem sn_seq {t u : TS} {a b : MS} (ha : SndS K mg t a) (hb : SndS K mg u b) : SndS K mg (tSeq t u) (mSeq a b) := fun {ρ Fr F δ σ H c δ'} r e {D} q => by
  unfold mSeq at e
  split at e
  · rename_i δ1 e1
    exact ha r e1 (D := { D with nx := u D }) fun F1 σ1 H1 s1 r1 => hb r1 e (q.up s1)
  · rename_i δ1 e1
    cases e
    exact ha r e1 (D := { D with nx := u D }) fun F1 σ1 H1 s1 r1 => q F1 σ1 H1 s1 r1
  · rename_i δ1 e1
    cases e
    exact ha r e1 (D := { D with nx := u D }) fun F1 σ1 H1 s1 r1 => q F1 σ1 H1 s1 r1
  · rename_i s δ1 e1
    cases e
    exact ha r e1 (D := { D with nx := u D }) fun F1 v σ1 H1 s1 r1 => q F1 v σ1 H1 s1 r1
  · cases e
  · cases e
theorem rb_cons {st : Stmt} {rest : List Stmt} {t u : TS} {a b : MS} (ha : RS X st t a) (hb : RB X rest u b) : RB X (st :: rest) (tSeq t u) (mSeq a b) := ⟨pss_cons ha.ps hb.pss, sn_seq ha.sn hb.sn⟩
theorem rb_one {st : Stmt} {t : TS} {a : MS} (ha : RS X st t a) : RB X [st] t a := ⟨pss_one ha.ps, ha.sn⟩
/-- a part that raises: nothing is promised -/
def mNever : MS := fun _ => .no
def mRaise (c : Str) (m : ME) : MS := fun δ => match m δ with
  | .ok (d, _) => .err c d
  | .err c d => .err c d
  | .no => .no
theorem rs_never {st : Stmt} : RS X st tNever mNever := ⟨ps_never, fun {ρ Fr F δ σ H c δ'} r e => by cases e⟩
theorem rs_raise {st : Stmt} (c : Str) (m : ME) : RS X st tNever (mRaise c m) := ⟨ps_never, fun {ρ Fr F δ σ H c δ'} r e => by
  unfold mRaise at e
  split at e <;> cases e⟩
theorem rb_never {sts : List Stmt} : RB X sts tNever mNever := ⟨pss_never, fun {ρ Fr F δ σ H c δ'} r e => by cases e⟩

/-! return, expression statements, if -/
def mRet (m : MN) : MS := fun δ => match m δ with
  | .ok (s, δ1) => .ok (.rt s, δ1)
  | .err c d => .err c d
  | .no => .no
theorem sn_ret {t : TE} {m : MN} (h : SndN K mg t m) : SndS K mg (tRet t) (mRet m) := fun {ρ Fr F δ σ H c δ'} r e {D} q => by
  unfold mRet at e
  split at e
  · cases e
    rename_i s δ1 e1
    exact h r e1 fun F1 v H1 s1 r1 => q F1 v σ H1 s1 r1
  · cases e
  · cases e
theorem rs_ret {e : Expr} {t : TE} {m : MN} {pos : Pos} (h : RN X e t m) : RS X (.Return (some e) pos) (tRet t) (mRet m) := ⟨ps_ret h.pe, sn_ret h.sn⟩
theorem rs_retV {e : Expr} {t : TE} {m : ME} {pos : Pos} (h : RE X e t m) : RS X (.Return (some e) pos) (tRet t) (mRet (mVal m)) := rs_ret (rn_val h)
def mRetN : MS := fun δ => .ok (.rt (.val .none), δ)
theorem rs_retN {pos : Pos} : RS X (.Return none pos) tRetN mRetN := ⟨ps_retN, fun {ρ Fr F δ σ H c δ'} r e {D} q => by
  cases e
  exact q F .non σ H (Same.refl _) (r.tval .non)⟩
def mDrop (m : MN) : MS := fun δ => match m δ with
  | .ok (_, δ1) => .ok (.nx, δ1)
  | .err c d => .err c d
  | .no => .no
theorem sn_drop {t : TE} {m : MN} (h : SndN K mg t m) : SndS K mg (tDrop t) (mDrop m) := fun {ρ Fr F δ σ H c δ'} r e {D} q => by
  unfold mDrop at e
  split at e
  · cases e
    rename_i s δ1 e1
    exact h r e1 fun F1 v H1 s1 r1 => q F1 σ H1 s1 r1.tail
  · cases e
  · cases e
theorem rs_expr {e : Expr} {t : TE} {m : MN} {pos : Pos} (h : RN X e t m) (hs : swapsWith e none pos.line X.env = pure false := by rfl) : RS X (.Expr e pos) (tDrop t) (mDrop m) := ⟨ps_expr h.pe hs, sn_drop h.sn⟩
def mIfS (c : MT) (a b : MS) : MS := fun δ => match c δ with
  | .ok (true, δ1) => a δ1
  | .ok (false, δ1) => b δ1
  | .err c d => .err c d
  | .no => .no
theorem sn_ifS {tc : TT} {t u : TS} {c : MT} {a b : MS} (hc : SndT K mg tc c) (ha : SndS K mg t a) (hb : SndS K mg u b) : SndS K mg (tIfS tc t u) (mIfS c a b) := fun {ρ Fr F δ σ H cc δ'} r e {D} q => by
  unfold mIfS at e
  split at e
  · rename_i δ1 e1
    exact hc r e1 fun F1 H1 s1 r1 => iteT (ha r1 e (q.up s1))
  · rename_i δ1 e1
    exact hc r e1 fun F1 H1 s1 r1 => iteF (hb r1 e (q.up s1))
  · cases e
  · cases e
theorem rs_if {c : Expr} {a b : List Stmt} {tc : TT} {t u : TS} {mc : MT} {ma mb : MS} {pos : Pos} (hc : RT X c tc mc) (ha : RB X a t ma) (hb : RB X b u mb) : RS X (.If c a b pos) (tIfS tc t u) (mIfS mc ma mb) := ⟨ps_if hc.pt ha.pss hb.pss, sn_ifS hc.sn ha.sn hb.sn⟩

/-! assignments -/
def mSet (i : Nat) (m : MN) : MS := fun δ => match m δ with
  | .ok (s, δ1) => if i < δ1.length then .ok (.nx, δ1.set i s) else .no
  | .err c d => .err c d
  | .no => .no
theorem sn_set {t : TE} {m : MN} (i : Nat) (h : SndN K mg t m) : SndS K mg (tAsg t (gName i)) (mSet i m) := fun {ρ Fr F δ σ H c δ'} r e {D} q => by
  unfold mSet at e
  split at e
  · split at e
    · rename_i s δ1 e1 hi
      cases e
      exact h r e1 fun F1 v H1 s1 r1 => q F1 _ H1 s1 (r1.set hi)
    · cases e
  · cases e
  · cases e
theorem rs_set (i : Nat) {x : Str} {e : Expr} {t : TE} {m : MN} {pos pos' : Pos} (hN : X.N.Nodup) (h : RN X e t m) (hi : X.N[i]? = some x := by rfl) (hx : Loc X.env.scope x := by first | exact .inl rfl | exact .inr rfl) (hs : swapsWith e (some (.Name x pos')) pos.line X.env = pure false := by rfl)
    (hf : X.fn x = true ∨ X.env.scope.names.lookup x = some .local := by first | exact .inl rfl | exact .inr rfl) : RS X (.Assign [.Name x pos'] e pos) (tAsg t (gName i)) (mSet i m) := ⟨ps_set hN hi hx h.pe hs hf, sn_set i h.sn⟩
def mAsg (m : ME) (g : PyData → Ev → Res Ev) : MS := fun δ => match m δ with
  | .ok (d, δ1) => (match g d δ1 with
    | .ok δ2 => .ok (.nx, δ2)
    | .err c d => .err c d
    | .no => .no)
  | .err c d => .err c d
  | .no => .no
theorem sn_asg {t : TE} {m : ME} {g : TG} {f} {js : List Nat} (h : SndE K mg t m) (hg : SndG K mg g f js) : SndS K mg (tAsg t g) (mAsg m f) := fun {ρ Fr F δ σ H c δ'} r e {D} q => by
  unfold mAsg at e
  split at e
  · split at e
    · rename_i d δ1 e1 _ δ2 e2
      cases e
      exact h r e1 fun F1 v H1 s1 r1 d1 => hg r1 d1 e2 fun F2 σ2 H2 s2 r2 _ _ => q F2 σ2 H2 (s1.trans s2) r2
    · cases e
    · cases e
  · cases e
  · cases e
theorem rs_asg {tg e : Expr} {t : TE} {m : ME} {g : TG} {f} {js : List Nat} {pos : Pos} (h : RE X e t m) (hg : RG X tg g f js) (hs : swapsWithSole [tg] e pos.line X.env = pure false := by rfl) (hw : swappedStores [tg] e X.env = pure none := by rfl)
    (h1 : (assignEach [tg] X.env).map (·.2) = [assign tg X.env] := by rfl) : RS X (.Assign [tg] e pos) (tAsg t g) (mAsg m f) := ⟨ps_asg h.pe hg.pg hs hw h1, sn_asg h.sn hg.sn⟩
/-- a tuple of targets -/
def gsTup (n : Nat) (fs : List PyData → Ev → Res Ev) : PyData → Ev → Res Ev
  | .tuple ds, δ => if ds.length = n then fs ds δ else .no
  | .list ds, δ => if ds.length = n then fs ds δ else .no
  | _, _ => .no
def gTupA (K : PySem.W.Frag) (n : Nat) (t : TGs) : TG := fun v σ H Q => gTup K n t v σ H Q ∨ gLst K n t v σ H Q
theorem rg_tup {es : List Expr} {k : Nat} {t : TGs} {n : Nat} {fs} {js : List Nat} {pos : Pos} (hc : X.calm = true) (h : RGs X es t fs js) (hn : (assignEach es X.env).length = n := by rfl) (hst : (assignEach es X.env).findIdx? (·.1) = none := by rfl) :
    RG X (.Tuple es k pos) (gTupA X.K n t) (gsTup n fs) js := ⟨⟨fun pins s σ H v u Q I r hw => hw.elim (fun hw => (pg_tup hc h.pg hn hst).run pins s σ H v u Q I r hw) (fun hw => (pg_lst hc h.pg hn hst).run pins s σ H v u Q I r hw)⟩, fun {ρ Fr F δ σ H x d δ'} r hd e {Q} q => by
  unfold gsTup at e
  split at e
  · split at e
    · rename_i hl
      cases hd with
      | tup hs da => exact .inl ⟨_, _, rfl, sqT_mono r.sub hs, (dpa_len da).trans hl, h.sn r da e q⟩
    · cases e
  · split at e
    · rename_i hl
      cases hd with
      | lst hs da => exact .inr ⟨_, _, rfl, sqL_mono r.sub hs, (dpa_len da).trans hl, h.sn r da e q⟩
    · cases e
  · cases e⟩
/-- a, b = .., .. at one go -/
def mPar (i j : Nat) (as : MA) : MS := fun δ => match as δ with
  | .ok ([a, b], δ1) => if i < δ1.length ∧ j < δ1.length then .ok (.nx, (δ1.set i (.val a)).set j (.val b)) else .no
  | .err c d => .err c d
  | _ => .no
theorem sn_par {i j : Nat} {t : TA} {as : MA} (h : SndA K mg t as) : SndS K mg (tPar i j t) (mPar i j as) := fun {ρ Fr F δ σ H c δ'} r e {D} q => by
  unfold mPar at e
  split at e
  · split at e
    · rename_i a b δ1 e1 hi
      cases e
      refine h r e1 fun F1 vs H1 s1 r1 d1 => ?_
      cases d1 with
      | cons d2 d3 =>
        cases d3 with
        | cons d4 d5 =>
          cases d5
          exact ⟨_, _, rfl, q F1 _ H1 s1 ((((r1.tval d2).set hi.1).tval d4).set (by rw [List.length_set]; exact hi.2))⟩
    · cases e
  · cases e
  · cases e
theorem rs_par (i j : Nat) {x y : Str} {a b : Expr} {ta : TA} {ma : MA} {px py pt pos : Pos} {kt k2 pt2} (hc : X.calm = true) (hN : X.N.Nodup) (ha : RA X [a, b] ta ma) (hi : X.N[i]? = some x := by rfl) (hj : X.N[j]? = some y := by rfl) (hij : i ≠ j := by decide)
    (hx : X.env.scope.names.lookup x = some .local := by rfl) (hy : X.env.scope.names.lookup y = some .local := by rfl)
    (hw : swappedStores [.Tuple [.Name x px, .Name y py] kt pt] (.Tuple [a, b] k2 pt2) X.env = pure (some [x, y]) := by rfl)
    (hs : swapsWithSole [.Tuple [.Name x px, .Name y py] kt pt] (.Tuple [a, b] k2 pt2) pos.line X.env = pure false := by rfl) :
    RS X (.Assign [.Tuple [.Name x px, .Name y py] kt pt] (.Tuple [a, b] k2 pt2) pos) (tPar i j ta) (mPar i j ma) := ⟨ps_par hc hN hi hj hij hx hy ha.pa hw hs, sn_par ha.sn⟩
def mPar3 (i j l : Nat) (as : MA) : MS := fun δ => match as δ with
  | .ok ([a, b, c], δ1) => if i < δ1.length ∧ j < δ1.length ∧ l < δ1.length then .ok (.nx, ((δ1.set i (.val a)).set j (.val b)).set l (.val c)) else .no
  | .err c d => .err c d
  | _ => .no
theorem sn_par3 {i j l : Nat} {t : TA} {as : MA} (h : SndA K mg t as) : SndS K mg (tPar3 i j l t) (mPar3 i j l as) := fun {ρ Fr F δ σ H c δ'} r e {D} q => by
  unfold mPar3 at e
  split at e
  · split at e
    · rename_i a b c δ1 e1 hi
      cases e
      refine h r e1 fun F1 vs H1 s1 r1 d1 => ?_
      cases d1 with
      | cons d2 d3 =>
        cases d3 with
        | cons d4 d5 =>
          cases d5 with
          | cons d6 d7 =>
            cases d7
            exact ⟨_, _, _, rfl, q F1 _ H1 s1 ((((((r1.tval d2).set hi.1).tval d4).set (by rw [List.length_set]; exact hi.2.1)).tval d6).set (by rw [List.length_set, List.length_set]; exact hi.2.2))⟩
    · cases e
  · cases e
  · cases e
theorem rs_par3 (i j l : Nat) {x y z : Str} {a b c : Expr} {ta : TA} {ma : MA} {px py pz pt pos : Pos} {kt k2 pt2} (hc : X.calm = true) (hN : X.N.Nodup) (ha : RA X [a, b, c] ta ma) (hi : X.N[i]? = some x := by rfl) (hj : X.N[j]? = some y := by rfl) (hl : X.N[l]? = some z := by rfl) (hij : i ≠ j := by decide) (hil : i ≠ l := by decide) (hjl : j ≠ l := by decide)
    (hx : X.env.scope.names.lookup x = some .local := by rfl) (hy : X.env.scope.names.lookup y = some .local := by rfl) (hz : X.env.scope.names.lookup z = some .local := by rfl)
    (hw : swappedStores [.Tuple [.Name x px, .Name y py, .Name z pz] kt pt] (.Tuple [a, b, c] k2 pt2) X.env = pure (some [x, y, z]) := by rfl)
    (hs : swapsWithSole [.Tuple [.Name x px, .Name y py, .Name z pz] kt pt] (.Tuple [a, b, c] k2 pt2) pos.line X.env = pure false := by rfl) :
    RS X (.Assign [.Tuple [.Name x px, .Name y py, .Name z pz] kt pt] (.Tuple [a, b, c] k2 pt2) pos) (tPar3 i j l ta) (mPar3 i j l ma) := ⟨ps_par3 hc hN hi hj hl hij hil hjl hx hy hz ha.pa hw hs, sn_par3 ha.sn⟩

/-! for -/
def forL (g : PyData → Ev → Res Ev) (b : MS) : List PyData → MS
  | [], δ => .ok (.nx, δ)
  | d :: ds, δ => match g d δ with
    | .ok δ1 => (match b δ1 with
      | .ok (.nx, δ2) => forL g b ds δ2
      | .ok (.ct, δ2) => forL g b ds δ2
      | .ok (.bk, δ2) => .ok (.nx, δ2)
      | .ok (.rt s, δ2) => .ok (.rt s, δ2)
      | .err c d => .err c d
      | .no => .no)
    | .err c d => .err c d
    | .no => .no
def mFor (mi : MA) (g : PyData → Ev → Res Ev) (b : MS) : MS := fun δ => match mi δ with
  | .ok (ds, δ1) => forL g b ds δ1
  | .err c d => .err c d
  | .no => .no
theorem sn_for {wi : TI} {g : TG} {tb : TS} {mi : MA} {f} {b : MS} {js : List Nat} (hi : SndI K mg wi mi) (hg : SndG K mg g f js) (hb : SndS K mg tb b) : SndS K mg (tFor wi g tb) (mFor mi f b) := fun {ρ Fr F δ σ H c δ'} r e {D} q => by
  unfold mFor at e
  split at e
  · rename_i ds δ1 e1
    refine hi r e1 fun F1 J H1 s1 r1 it => ?_
    refine ⟨fun i m σ' H' => ∃ F2 δ2, Same F1 F2 ∧ Rel K mg ρ Fr F2 δ2 σ' H' ∧ i + m = ds.length ∧ forL f b (ds.drop i) δ2 = .ok (c, δ'), ⟨ds.length, F1, δ1, Same.refl _, r1, Nat.zero_add _, e⟩, ?_⟩
    rintro i m σ' H' ⟨F2, δ2, s2, r2, hm, e2⟩
    have it' := it i F2 H' s2 r2.sub
    cases q2 : ds[i]? with
    | none =>
      have hl : ds.length ≤ i := List.getElem?_eq_none_iff.mp q2
      have hi : i = ds.length := by omega
      rw [List.drop_eq_nil_of_le hl] at e2
      cases e2
      exact .inl ⟨it'.1 hi, q F2 σ' H' (s1.trans s2) r2⟩
    | some d =>
      obtain ⟨hl, hd⟩ := List.getElem?_eq_some_iff.mp q2
      rw [List.drop_eq_getElem_cons hl, hd] at e2
      obtain ⟨go, yl⟩ := it'.2 d q2
      refine .inr ⟨go, fun σ' H' => ∃ F2 δ2, Same F1 F2 ∧ Rel K mg ρ Fr F2 δ2 σ' H' ∧ forL f b (ds.drop (i + 1)) δ2 = .ok (c, δ'), ?_, ?_⟩
      · rintro σ3 H3 ⟨F3, δ3, s3, r3, e3⟩
        exact ⟨m - 1, by omega, F3, δ3, s3, r3, by omega, e3⟩
      · intro x H3 y
        obtain ⟨F3, s3, dx, up⟩ := yl x H3 y
        have r3 := up r2
        unfold forL at e2
        split at e2
        · rename_i δ4 e4
          refine hg r3 dx e4 fun F4 σ4 H4 s4 r4 _ _ => ?_
          split at e2
          · rename_i δ5 e5
            exact hb r4 e5 fun F5 σ5 H5 s5 r5 => ⟨F5, δ5, ((s2.trans s3).trans s4).trans s5, r5, e2⟩
          · rename_i δ5 e5
            exact hb r4 e5 fun F5 σ5 H5 s5 r5 => ⟨F5, δ5, ((s2.trans s3).trans s4).trans s5, r5, e2⟩
          · rename_i δ5 e5
            cases e2
            exact hb r4 e5 fun F5 σ5 H5 s5 r5 => q F5 σ5 H5 (s1.trans (((s2.trans s3).trans s4).trans s5)) r5
          · rename_i s δ5 e5
            cases e2
            exact hb r4 e5 fun F5 v σ5 H5 s5 r5 => q F5 v σ5 H5 (s1.trans (((s2.trans s3).trans s4).trans s5)) r5
          · cases e2
          · cases e2
        · cases e2
        · cases e2
  · cases e
  · cases e
theorem rs_for {tg iter : Expr} {body : List Stmt} {wi : TI} {g : TG} {tb : TS} {mi : MA} {f} {b : MS} {js : List Nat} {pos : Pos} (hp : PassesOwn (model X.prog X.w) X.A X.env X.xe) (hc : X.calm = true) (hi : RI X tg iter wi mi) (hg : RG X tg g f js) (hb : RB X body tb b)
    (hs : ∀ x, foldedSetIterable iter X.env x = pure x := by intro _; rfl) : RS X (.For tg iter body [] pos) (tFor wi g tb) (mFor mi f b) := ⟨ps_for hp hc hi.pi hg.pg hb.pss hs, sn_for hi.sn hg.sn hb.sn⟩

/-! while -/
def whN (c : MT) (b : MS) : Nat → MS
  | 0, _ => .no
  | n + 1, δ => match c δ with
    | .ok (true, δ1) => (match b δ1 with
      | .ok (.nx, δ2) => whN c b n δ2
      | .ok (.ct, δ2) => whN c b n δ2
      | .ok (.bk, δ2) => .ok (.nx, δ2)
      | .ok (.rt s, δ2) => .ok (.rt s, δ2)
      | .err c d => .err c d
      | .no => .no)
    | .ok (false, δ1) => .ok (.nx, δ1)
    | .err c d => .err c d
    | .no => .no
open Classical in
noncomputable def mWhile (c : MT) (b : MS) : MS := fun δ => if h : ∃ p : Nat × Ctl × Ev, whN c b p.1 δ = .ok p.2 then .ok h.choose.2 else .no
theorem whN_up (c : MT) (b : MS) : ∀ (n : Nat) {δ : Ev} {r : Ctl × Ev}, whN c b n δ = .ok r → ∀ m, n ≤ m → whN c b m δ = .ok r
  | 0, _, _, e, _, _ => by cases e
  | n + 1, δ, r, e, 0, h => by omega
  | n + 1, δ, r, e, m + 1, h => by
    unfold whN at e ⊢
    split at e
    · rename_i δ1 e1
      split at e
      · rename_i δ2 e2
        exact whN_up c b n e m (by omega)
      · rename_i δ2 e2
        exact whN_up c b n e m (by omega)
      · exact e
      · exact e
      · cases e
      · cases e
    · exact e
    · cases e
    · cases e
theorem mWhile_of {c : MT} {b : MS} {n : Nat} {δ : Ev} {r : Ctl × Ev} (h : whN c b n δ = .ok r) : mWhile c b δ = .ok r := by
  unfold mWhile
  have ex : ∃ p : Nat × Ctl × Ev, whN c b p.1 δ = .ok p.2 := ⟨(n, r), h⟩
  rw [dif_pos ex]
  have h2 := ex.choose_spec
  have a := whN_up c b n h (max n ex.choose.1) (Nat.le_max_left _ _)
  have b' := whN_up c b _ h2 (max n ex.choose.1) (Nat.le_max_right _ _)
  rw [a] at b'
  exact b'.symm
theorem mWhile_inv {c : MT} {b : MS} {δ : Ev} {r : Ctl × Ev} (h : mWhile c b δ = .ok r) : ∃ n, whN c b n δ = .ok r := by
  unfold mWhile at h
  split at h
  · rename_i ex
    have h2 := ex.choose_spec
    cases h
    exact ⟨_, h2⟩
  · cases h
theorem sn_while {tc : TT} {tb : TS} {mc : MT} {b : MS} (hc : SndT K mg tc mc) (hb : SndS K mg tb b) : SndS K mg (tWhile tc tb) (mWhile mc b) := fun {ρ Fr F δ σ H c δ'} r e {D} q => by
  obtain ⟨n, e⟩ := mWhile_inv e
  refine ⟨fun m σ' H' => ∃ F2 δ2, Same F F2 ∧ Rel K mg ρ Fr F2 δ2 σ' H' ∧ whN mc b m δ2 = .ok (c, δ'), ⟨n, F, δ, Same.refl _, r, e⟩, ?_⟩
  rintro m σ' H' ⟨F2, δ2, s2, r2, e2⟩
  cases m with
  | zero => cases e2
  | succ m =>
    unfold whN at e2
    split at e2
    · rename_i δ3 e3
      refine hc r2 e3 fun F3 H3 s3 r3 => iteT ?_
      refine ⟨fun σ' H' => ∃ F2 δ2, Same F F2 ∧ Rel K mg ρ Fr F2 δ2 σ' H' ∧ whN mc b m δ2 = .ok (c, δ'), fun σ4 H4 w => ⟨m, Nat.lt_succ_self _, w⟩, ?_⟩
      split at e2
      · rename_i δ5 e5
        exact hb r3 e5 fun F5 σ5 H5 s5 r5 => ⟨F5, δ5, (s2.trans s3).trans s5, r5, e2⟩
      · rename_i δ5 e5
        exact hb r3 e5 fun F5 σ5 H5 s5 r5 => ⟨F5, δ5, (s2.trans s3).trans s5, r5, e2⟩
      · rename_i δ5 e5
        cases e2
        exact hb r3 e5 fun F5 σ5 H5 s5 r5 => q F5 σ5 H5 ((s2.trans s3).trans s5) r5
      · rename_i s δ5 e5
        cases e2
        exact hb r3 e5 fun F5 v σ5 H5 s5 r5 => q F5 v σ5 H5 ((s2.trans s3).trans s5) r5
      · cases e2
      · cases e2
    · rename_i δ3 e3
      cases e2
      exact hc r2 e3 fun F3 H3 s3 r3 => iteF (q F3 σ' H3 (s2.trans s3) r3)
    · cases e2
    · cases e2
theorem rs_while {c : Expr} {body : List Stmt} {tc : TT} {tb : TS} {mc : MT} {b : MS} {pos : Pos} (hp : PassesOwn (model X.prog X.w) X.A X.env X.xe) (hc : RT X c tc mc) (hb : RB X body tb b) : RS X (.While c body [] pos) (tWhile tc tb) (mWhile mc b) := ⟨ps_while hp hc.pt hb.pss, sn_while hc.sn hb.sn⟩
end
end CW

namespace CW
open PySem PySem.Spec PyProof.Rows L2

/-! an owned list: moved, frozen, looked at -/
section
variable {X : Cx} {K : PySem.W.Frag} {mg : Str → Option Value}
section
variable {ρ : Nat → Addr} {Fr F F' H H' : Hp} {δ δ' : Ev} {σ σ' : L2.St}
/-- the list of a slot goes out of it -/
theorem Rel.take {i : Nat} {xs : List PyData} (r : Rel K mg ρ Fr F δ σ H) (h : δ[i]? = some (.own xs)) : ∃ v, σ[i]? = some (some v) ∧ Rel K mg ρ Fr F (.own xs :: δ.set i .emp) (some v :: σ) H := by
  obtain ⟨L, h1, h2, h3⟩ := r.own
  obtain ⟨o, L1, Li, L2, e1, rfl, e3, e4⟩ := slotsR_at h1 h
  obtain ⟨p, vs, rfl, rfl, a1, a2⟩ := e3
  have hl : i < σ.length := by
    by_cases hl : i < σ.length
    · exact hl
    · rw [List.getElem?_eq_none (by omega)] at e1; cases e1
  have es : σ.set i (some (.ref p)) = σ := by
    apply List.ext_getElem?
    intro j
    by_cases hj : i = j
    · subst hj; rw [List.getElem?_set_self hl, e1]
    · rw [List.getElem?_set_ne hj]
  have q := e4 (F' := F) (H' := H) (Same.refl _) (fun _ _ => rfl) .emp (some (.ref p)) [] rfl
  rw [es] at q
  refine ⟨_, e1, r.sub, r.fr, r.dis, [p] ++ (L1 ++ L2), ⟨[p], L1 ++ L2, rfl, ⟨p, vs, rfl, rfl, a1, a2⟩, by simpa using q⟩, ?_, fun a ha => h3 a ?_⟩
  · have pm : (L1 ++ ([p] ++ L2)).Perm ([p] ++ (L1 ++ L2)) := by
      rw [← List.append_assoc, ← List.append_assoc]
      exact List.Perm.append_right _ List.perm_append_comm
    exact pm.nodup_iff.mp h2
  · simp only [List.mem_append] at ha ⊢
    rcases ha with q | q | q
    · exact .inr (.inl q)
    · exact .inl q
    · exact .inr (.inr q)
theorem Rel.drop {i : Nat} (r : Rel K mg ρ Fr F δ σ H) {s : Sl} {o : Option V} (h : SlotR K mg ρ F H s o []) : Rel K mg ρ Fr F (δ.set i s) (σ.set i o) H := by
  cases q : δ[i]? with
  | none =>
    have hl := List.getElem?_eq_none_iff.mp q
    have hl2 : σ.length ≤ i := by rw [← r.len]; exact hl
    rw [List.set_eq_of_length_le hl, List.set_eq_of_length_le hl2]
    exact r
  | some s0 =>
    obtain ⟨L, h1, h2, h3⟩ := r.own
    obtain ⟨o0, L1, Li, L2, e1, rfl, e3, e4⟩ := slotsR_at h1 q
    have sb : (L1 ++ ([] ++ L2)).Sublist (L1 ++ (Li ++ L2)) := by
      refine List.Sublist.append (List.Sublist.refl _) ?_
      simp
    exact ⟨r.sub, r.fr, r.dis, _, e4 (F' := F) (H' := H) (Same.refl _) (fun _ _ => rfl) s o [] h, h2.sublist sb, fun a ha => h3 a (sb.subset ha)⟩
end
def mMv (i : Nat) : MN := fun δ => match δ[i]? with
  | some (.own xs) => .ok (.own xs, δ.set i .emp)
  | some (.val d) => .ok (.val d, δ)
  | _ => .no
theorem sn_mv (i : Nat) : SndN K mg (tVar i) (mMv i) := fun {ρ Fr F δ σ H d δ'} r e {Q} q => by
  unfold mMv at e
  split at e
  · rename_i xs h
    cases e
    obtain ⟨v, e1, r1⟩ := r.take h
    exact ⟨v, e1, q F v H (Same.refl _) r1⟩
  · rename_i d' h
    cases e
    obtain ⟨v, e1, e2⟩ := r.get h
    exact ⟨v, e1, q F v H (Same.refl _) (r.tval e2)⟩
  · cases e
theorem rn_mv (i : Nat) {x : Str} {pos : Pos} (hN : X.N[i]? = some x := by rfl) (hv : Vis X.env.scope x := by first | exact Or.inl rfl | exact Or.inr (Or.inl rfl) | exact Or.inr (Or.inr rfl)) (hd : (x == ("__debug__" : Str)) = false := by decide)
    (hcd : (x == ("__classdict__" : Str)) = false := by decide) : RN X (.Name x pos) (tVar i) (mMv i) := ⟨pe_var hN hv hd hcd, sn_mv i⟩
/-- the list stays in its slot, frozen -/
def mFz (i : Nat) : ME := fun δ => match δ[i]? with
  | some (.own xs) => .ok (.list xs, δ.set i (.val (.list xs)))
  | some (.val d) => .ok (d, δ)
  | _ => .no
theorem sn_fz (i : Nat) : SndE K mg (tVar i) (mFz i) := fun {ρ Fr F δ σ H d δ'} r e {Q} q => by
  unfold mFz at e
  split at e
  · rename_i xs h
    cases e
    obtain ⟨v, e1, r1⟩ := r.take h
    obtain ⟨v', F', e2, s1, r2, d2⟩ := r1.melt (d := .list xs) rfl
    cases e2
    have r3 := r2.drop (i := i) (s := .val (.list xs)) (o := some v) ⟨rfl, v, rfl, d2⟩
    have hl : i < σ.length := by
      by_cases hl : i < σ.length
      · exact hl
      · rw [List.getElem?_eq_none (by omega)] at e1; cases e1
    have es : σ.set i (some v) = σ := by
      apply List.ext_getElem?
      intro j
      by_cases hj : i = j
      · subst hj; rw [List.getElem?_set_self hl, e1]
      · rw [List.getElem?_set_ne hj]
    rw [List.set_set, es] at r3
    exact ⟨v, e1, q F' v H s1 r3 d2⟩
  · rename_i d' h
    cases e
    obtain ⟨v, e1, e2⟩ := r.get h
    exact ⟨v, e1, q F v H (Same.refl _) r e2⟩
  · cases e
theorem re_fz (i : Nat) {x : Str} {pos : Pos} (hN : X.N[i]? = some x := by rfl) (hv : Vis X.env.scope x := by first | exact Or.inl rfl | exact Or.inr (Or.inl rfl) | exact Or.inr (Or.inr rfl)) (hd : (x == ("__debug__" : Str)) = false := by decide)
    (hcd : (x == ("__classdict__" : Str)) = false := by decide) : RE X (.Name x pos) (tVar i) (mFz i) := ⟨pe_var hN hv hd hcd, sn_fz i⟩

/-! reading a list that stays owned -/
mutual
def scD : PyData → Bool
  | .none => true
  | .bool _ => true
  | .int _ => true
  | .str _ => true
  | .tuple ds => scA ds
  | .list _ => false
  | .dict _ => false
def scA : List PyData → Bool
  | [] => true
  | d :: ds => scD d && scA ds
end
def less (F : Hp) (L : List Addr) : Hp := fun a => if a ∈ L then none else F a
section
variable {F : Hp} {L : List Addr}
theorem sqt_less {a : Addr} {xs : List V} (hL : ∀ a ∈ L, ∃ vs, F a = some (.lst vs)) (h : SqT K F a xs) : SqT K (less F L) a xs := by
  refine h.imp (fun h => ?_) id
  by_cases q : a ∈ L
  · obtain ⟨vs, e⟩ := hL a q
    rcases h with h | ⟨o, h⟩ <;> (rw [e] at h; cases h)
  · unfold Rd less
    rw [if_neg q]
    exact h
mutual
theorem dp_less (hL : ∀ a ∈ L, ∃ vs, F a = some (.lst vs)) : ∀ (d : PyData) (v : V), scD d = true → Dp K F v d → Dp K (less F L) v d
  | .none, _, _, h => by cases h; exact .non
  | .bool b, _, _, h => by cases h; exact .bl b
  | .int i, _, _, h => by cases h; exact .int i
  | .str x, _, _, h => by cases h; exact .str x
  | .list ds, _, f, _ => by unfold scD at f; cases f
  | .tuple ds, _, f, h => by
    unfold scD at f
    cases h with
    | tup hs ha => exact .tup (sqt_less hL hs) (dpa_less hL ds _ f ha)
  | .dict _, _, _, h => by
    cases h with
    | @dct a q =>
      refine .dct ?_
      by_cases z : a ∈ L
      · obtain ⟨vs, e⟩ := hL a z
        rw [e] at q
        cases q
      · unfold less
        rw [if_neg z]
        exact q
theorem dpa_less (hL : ∀ a ∈ L, ∃ vs, F a = some (.lst vs)) : ∀ (ds : List PyData) (vs : List V), scA ds = true → DpAll K F vs ds → DpAll K (less F L) vs ds
  | [], _, _, h => by cases h; exact .nil
  | d :: ds, _, f, h => by
    unfold scA at f
    rw [Bool.and_eq_true] at f
    cases h with
    | cons h1 h2 => exact .cons (dp_less hL d _ f.1 h1) (dpa_less hL ds _ f.2 h2)
end
end
def Sl.see : Sl → Sl
  | .own xs => .val (.list xs)
  | .io _ xs => .val (.list xs)
  | s => s
theorem see_slots {ρ : Nat → Addr} {F F1 H : Hp} (hF : Same F F1) : ∀ {δ : Ev} {σ : L2.St} {L : List Addr}, (∀ a ∈ L, F1 a = H a) → SlotsR K mg ρ F H δ σ L → SlotsR K mg ρ F1 H (δ.map Sl.see) σ []
  | [], [], _, _, h => rfl
  | [], _ :: _, _, _, h => h.elim
  | _ :: _, [], _, _, h => h.elim
  | s :: ss, o :: os, _, k, h => by
    obtain ⟨L1, L2, rfl, h1, h2⟩ := h
    have t := see_slots hF (fun a ha => k a (List.mem_append_right _ ha)) h2
    refine ⟨[], [], rfl, ?_, t⟩
    cases s with
    | emp => exact rfl
    | val d => obtain ⟨rfl, v, e1, e2⟩ := h1; exact ⟨rfl, v, e1, e2.up hF⟩
    | own xs =>
      obtain ⟨p, vs, e1, rfl, e2, e3⟩ := h1
      refine ⟨rfl, _, e1, .lst (SqL.of ?_) (e3.up hF)⟩
      rw [k p (by simp)]; exact e2
    | io j xs =>
      obtain ⟨e1, rfl, vs, e2, e3⟩ := h1
      refine ⟨rfl, _, e1, .lst (SqL.of ?_) (e3.up hF)⟩
      rw [k _ (by simp)]; exact e2
    | fn x => obtain ⟨rfl, f, e1, e2⟩ := h1; exact ⟨rfl, f, e1, e2⟩
theorem Rel.bor {ρ : Nat → Addr} {Fr F H : Hp} {δ : Ev} {σ : L2.St} (r : Rel K mg ρ Fr F δ σ H) : ∃ F1, Same F F1 ∧ Rel K mg ρ Fr F1 (δ.map Sl.see) σ H ∧
    ∀ {F' H' : Hp} {δ' : Ev} {ss : Ev} {os : L2.St}, Same F1 F' → Rel K mg ρ Fr F' (ss ++ δ') (os ++ σ) H' → ss.length = os.length → ∃ L, (∀ a ∈ L, ∃ vs, F' a = some (.lst vs)) ∧ Same F (less F' L) ∧
      ∀ ts, (∀ Ls, SlotsR K mg ρ F' H' ss os Ls → SlotsR K mg ρ (less F' L) H' ts os Ls) → Rel K mg ρ Fr (less F' L) (ts ++ δ) (os ++ σ) H' := by
  obtain ⟨L, h1, h2, h3⟩ := r.own
  have hF1 : Same F (fun a => if a ∈ L then H a else F a) := fun a u e => by
    by_cases q : a ∈ L
    · rw [(h3 a q).1] at e; cases e
    · simp only [q, if_false]; exact e
  refine ⟨fun a => if a ∈ L then H a else F a, hF1, ⟨fun a u e => ?_, r.fr, fun a ha => ?_, [], see_slots hF1 (fun a ha => by simp only [ha, if_true]) h1, List.nodup_nil, fun _ z => nomatch z⟩, ?_⟩
  · by_cases q : a ∈ L
    · simp only [q, if_true] at e; exact e
    · simp only [q, if_false] at e; exact r.sub a u e
  · have q : a ∉ L := fun z => ha (h3 a z).2
    simp only [q, if_false]; exact r.dis a ha
  · intro F' H' δ' ss os s r' hl
    have hLF : ∀ a ∈ L, ∃ vs, F' a = some (.lst vs) ∧ H a = some (.lst vs) := fun a ha => by
      obtain ⟨vs, e⟩ := slotsR_mem h1 ha
      exact ⟨vs, s a _ (by simp only [ha, if_true]; exact e), e⟩
    have hFl : Same F (less F' L) := fun a u e => by
      have q : a ∉ L := fun z => by rw [(h3 a z).1] at e; cases e
      unfold less
      rw [if_neg q]
      exact s a u (by simp only [q, if_false]; exact e)
    have hlF : Same (less F' L) F' := fun a u e => by
      unfold less at e
      by_cases q : a ∈ L
      · rw [if_pos q] at e; cases e
      · rw [if_neg q] at e; exact e
    refine ⟨L, fun a ha => (hLF a ha).imp fun vs e => e.1, hFl, fun ts ht => ?_⟩
    obtain ⟨M, m1, m2, m3⟩ := r'.own
    have split : ∀ {ss : Ev} {os : L2.St} {δ' : Ev} {M : List Addr}, ss.length = os.length → SlotsR K mg ρ F' H' (ss ++ δ') (os ++ σ) M → ∃ M1 M2, M = M1 ++ M2 ∧ SlotsR K mg ρ F' H' ss os M1 := by
      intro ss
      induction ss with
      | nil => intro os δ' M hl h; cases os with
        | nil => exact ⟨[], M, rfl, rfl⟩
        | cons o os => cases hl
      | cons s ss ih => intro os δ' M hl h; cases os with
        | nil => cases hl
        | cons o os =>
          obtain ⟨A, B, rfl, a1, a2⟩ := h
          obtain ⟨M1, M2, rfl, a3⟩ := ih (by simpa using hl) a2
          exact ⟨A ++ M1, M2, by simp, A, M1, rfl, a1, a3⟩
    have join : ∀ {ts : Ev} {os : L2.St} {M1 : List Addr}, SlotsR K mg ρ (less F' L) H' ts os M1 → SlotsR K mg ρ (less F' L) H' (ts ++ δ) (os ++ σ) (M1 ++ L) := by
      intro ts
      induction ts with
      | nil => intro os M1 h; cases os with
        | nil =>
          have e : M1 = [] := h
          subst e
          exact slotsR_mono hFl (fun a ha => by
            obtain ⟨vs, e1, e2⟩ := hLF a ha
            rw [e2]; exact r'.sub a _ e1) h1
        | cons o os => exact h.elim
      | cons t ts ih => intro os M1 h; cases os with
        | nil => exact h.elim
        | cons o os =>
          obtain ⟨A, B, rfl, a1, a2⟩ := h
          exact ⟨A, B ++ L, by simp, a1, ih a2⟩
    obtain ⟨M1, M2, rfl, m4⟩ := split hl m1
    have m5 := List.nodup_append.mp m2
    refine ⟨hlF.trans r'.sub, r'.fr, fun a ha => ?_, M1 ++ L, join (ht M1 m4), ?_, fun a ha => ?_⟩
    · have q := r'.dis a ha
      unfold less
      by_cases z : a ∈ L
      · rw [if_pos z]
      · rw [if_neg z]; exact q
    · refine List.nodup_append.mpr ⟨m5.1, h2, fun a ha b hb e => ?_⟩
      subst e
      have q := (m3 a (List.mem_append_left _ ha)).1
      obtain ⟨vs, e1, _⟩ := hLF a hb
      rw [e1] at q; cases q
    · rcases List.mem_append.mp ha with z | z
      · have q := m3 a (List.mem_append_left _ z)
        refine ⟨?_, q.2⟩
        unfold less
        split
        · rfl
        · exact q.1
      · refine ⟨?_, (h3 a z).2⟩
        unfold less
        rw [if_pos z]
def mBor (m : ME) : ME := fun δ => match m (δ.map Sl.see) with
  | .ok (d, _) => if scD d = true then .ok (d, δ) else .no
  | .err c d => .err c d
  | .no => .no
theorem sn_bor {t : TE} {m : ME} (h : SndE K mg t m) : SndE K mg t (mBor m) := fun {ρ Fr F δ σ H d δ'} r e {Q} q => by
  unfold mBor at e
  split at e
  · split at e
    · rename_i d' δ1 e1 hf
      cases e
      obtain ⟨F1, s1, r1, back⟩ := r.bor
      refine h r1 e1 fun F2 v H2 s2 r2 d2 => ?_
      obtain ⟨L, hL, s3, mk⟩ := back (ss := []) (os := []) s2 r2 rfl
      exact q _ v H2 s3 (mk [] fun Ls z => z) (dp_less hL _ _ hf d2)
    · cases e
  · cases e
  · cases e
theorem RE.bor {e : Expr} {t : TE} {m : ME} (h : RE X e t m) : RE X e t (mBor m) := ⟨h.pe, sn_bor h.sn⟩
def mBorN (m : MN) : MN := fun δ => match m (δ.map Sl.see) with
  | .ok (.val d, _) => if scD d = true then .ok (.val d, δ) else .no
  | .ok (.own xs, _) => if scA xs = true then .ok (.own xs, δ) else .no
  | .err c d => .err c d
  | _ => .no
theorem sn_borN {t : TE} {m : MN} (h : SndN K mg t m) : SndN K mg t (mBorN m) := fun {ρ Fr F δ σ H d δ'} r e {Q} q => by
  unfold mBorN at e
  split at e
  · split at e
    · rename_i d' δ1 e1 hf
      cases e
      obtain ⟨F1, s1, r1, back⟩ := r.bor
      refine h r1 e1 fun F2 v H2 s2 r2 => ?_
      obtain ⟨L, hL, s3, mk⟩ := back (ss := [.val d']) (os := [some v]) s2 r2 rfl
      refine q _ v H2 s3 (mk [.val d'] fun Ls z => ?_)
      obtain ⟨A, B, rfl, ⟨rfl, u, e2, e3⟩, a2⟩ := z
      exact ⟨[], B, rfl, ⟨rfl, u, e2, dp_less hL _ _ hf e3⟩, a2⟩
    · cases e
  · split at e
    · rename_i xs δ1 e1 hf
      cases e
      obtain ⟨F1, s1, r1, back⟩ := r.bor
      refine h r1 e1 fun F2 v H2 s2 r2 => ?_
      obtain ⟨L, hL, s3, mk⟩ := back (ss := [.own xs]) (os := [some v]) s2 r2 rfl
      refine q _ v H2 s3 (mk [.own xs] fun Ls z => ?_)
      obtain ⟨A, B, rfl, ⟨p, vs, e2, rfl, e3, e4⟩, a2⟩ := z
      exact ⟨[p], B, rfl, ⟨p, vs, e2, rfl, e3, dpa_less hL _ _ hf e4⟩, a2⟩
    · cases e
  · cases e
  · cases e
theorem RN.bor {e : Expr} {t : TE} {m : MN} (h : RN X e t m) : RN X e t (mBorN m) := ⟨h.pe, sn_borN h.sn⟩
end
end CW

namespace CW
open PySem PySem.Spec PyProof.Rows L2

section
variable {X : Cx} {K : PySem.W.Frag} {mg : Str → Option Value}

/-! a name's own list: append, pop, an item -/
def mApp (i : Nat) (as : MA) : MN := fun δ => match as δ with
  | .ok ([d], δ1) => (match δ1[i]? with
    | some s => (match s.isOwn with
      | some xs => if xs.length < sizeLine then .ok (.val .none, δ1.set i (s.put (xs ++ [d]))) else .no
      | none => .no)
    | none => .no)
  | .err c d => .err c d
  | _ => .no
/-- the slot's address, ahead of the arguments -/
theorem Rel.ownAt {ρ : Nat → Addr} {Fr F H : Hp} {δ : Ev} {σ : L2.St} {i : Nat} {s : Sl} {xs : List PyData} (r : Rel K mg ρ Fr F δ σ H) (h : δ[i]? = some s) (hs : s.isOwn = some xs) : ∃ p vs, σ[i]? = some (some (.ref p)) ∧ H p = some (.lst vs) :=
  let ⟨p, vs, a, b, _⟩ := r.getOwn h hs
  ⟨p, vs, a, b⟩
def tBMv (K : PySem.W.Frag) (i : Nat) (r : V → List V → Hp → VK → Prop) (t : TA) : TE := tBM K "list" r (tVar i) t
/-- was the slot a list of its own already ahead of the arguments -/
def wasOwn (i : Nat) (δ : Ev) : Bool := match δ[i]? with
  | some s => s.isOwn.isSome
  | none => false
theorem wasOwn_at {ρ : Nat → Addr} {Fr F H : Hp} {δ : Ev} {σ : L2.St} {i : Nat} (r : Rel K mg ρ Fr F δ σ H) (h : wasOwn i δ = true) : ∃ p vs, σ[i]? = some (some (.ref p)) ∧ H p = some (.lst vs) := by
  unfold wasOwn at h
  split at h
  · rename_i s e
    cases q : s.isOwn with
    | none => rw [q] at h; cases h
    | some xs => exact r.ownAt e q
  · cases h
def mOwnM (i : Nat) (f : List PyData → List PyData → Res (PyData × List PyData)) (as : MA) : ME := fun δ => if wasOwn i δ = true then (match as δ with
  | .ok (ds, δ1) => (match δ1[i]? with
    | some s => (match s.isOwn with
      | some xs => (match f xs ds with
        | .ok (d, ys) => .ok (d, δ1.set i (s.put ys))
        | .err c d => .err c d
        | .no => .no)
      | none => .no)
    | none => .no)
  | .err c d => .err c d
  | .no => .no) else .no
/-- a method on a list of its own, by values -/
def OwnR (K : PySem.W.Frag) (r : V → List V → Hp → VK → Prop) (f : List PyData → List PyData → Res (PyData × List PyData)) : Prop := ∀ {F H : Hp} {p : Addr} {vs as : List V} {xs ds : List PyData} {d : PyData} {ys : List PyData}, H p = some (.lst vs) → DpAll K F vs xs → DpAll K F as ds → f xs ds = .ok (d, ys) →
  ∀ {Q : VK}, (∀ v ws, Dp K F v d → DpAll K F ws ys → Q v (upd H p (.lst ws))) → r (.ref p) as H Q
theorem sn_ownM {i : Nat} {r0 : V → List V → Hp → VK → Prop} {f} {t : TA} {as : MA} (hf : OwnR K r0 f) (ha : SndA K mg t as) : SndE K mg (tBMv K i r0 t) (mOwnM i f as) := fun {ρ Fr F δ σ H d δ'} r e {Q} q => by
  unfold mOwnM at e
  split at e
  · rename_i hw
    obtain ⟨p, vs, e0, e1⟩ := wasOwn_at r hw
    split at e
    · rename_i ds δ1 e2
      split at e
      · rename_i s e3
        split at e
        · rename_i xs e4
          split at e
          · rename_i d' ys e5
            cases e
            refine ⟨_, e0, Or.inl ⟨rfl, _, Or.inl (Or.inl e1)⟩, ha r e2 fun F1 as1 H1 s1 r1 d1 => ?_⟩
            obtain ⟨p', vs', g1, g2, g3, g4, g5⟩ := r1.getOwn e3 e4
            rw [e0] at g1
            cases g1
            exact hf g2 g3 d1 e5 fun v ws b1 b2 => q F1 v _ s1 (g5 ws ys b2) b1
          · cases e
          · cases e
        · cases e
      · cases e
    · cases e
    · cases e
  · cases e
def fAppend : List PyData → List PyData → Res (PyData × List PyData) := fun xs ds => match ds with
  | [d] => if xs.length < sizeLine then .ok (.none, xs ++ [d]) else .no
  | _ => .no
theorem own_append : OwnR K rAppend fAppend := fun {F H p vs as xs ds d ys} h1 h2 h3 e {Q} q => by
  unfold fAppend at e
  split at e
  · split at e
    · rename_i d' hz
      cases e
      cases h3 with
      | cons a b =>
        cases b
        exact ⟨_, _, _, rfl, rfl, h1, by rw [dpa_len h2]; exact hz, q _ _ .non (dpa_app h2 (.cons a .nil))⟩
    · cases e
  · cases e
def fPopAt : List PyData → List PyData → Res (PyData × List PyData) := fun xs ds => match ds with
  | [.int i] => if -(2 ^ 63) ≤ i ∧ i < 2 ^ 63 then (match seqIndex? i xs.length with
    | some k => (match xs[k]? with
      | some d => .ok (d, xs.eraseIdx k)
      | none => .no)
    | none => .no) else .no
  | _ => .no
theorem own_popAt : OwnR K rPopAt fPopAt := fun {F H p vs as xs ds d ys} h1 h2 h3 e {Q} q => by
  unfold fPopAt at e
  split at e
  · split at e
    · rename_i i hz
      split at e
      · rename_i k e1
        split at e
        · rename_i d' e2
          cases e
          cases h3 with
          | cons a b =>
            cases a; cases b
            obtain ⟨v, e3, e4⟩ := dpa_get h2 e2
            exact ⟨_, _, _, k, v, rfl, rfl, h1, hz.1, hz.2, by rw [dpa_len h2]; exact e1, e3, q _ _ e4 (dpa_erase k h2)⟩
        · cases e
      · cases e
    · cases e
  · cases e
theorem re_append (i : Nat) {x : Str} {a : Expr} {t : TA} {as : MA} {p1 apos cpos : Pos} (ha : RA X [a] t as) (hN : X.N[i]? = some x := by rfl) (hv : Vis X.env.scope x := by first | exact Or.inl rfl | exact Or.inr (Or.inl rfl) | exact Or.inr (Or.inr rfl)) (hd : (x == ("__debug__" : Str)) = false := by decide)
    (hcd : (x == ("__classdict__" : Str)) = false := by decide)
    (hfew : ((backTo cpos (starEach [a] X.env)).all (fun x => !x.1) && (backToKw cpos (keywordEach [] X.env)).all (fun x => x.1.isSome)
      && decide (([a] : List Expr).length + ([] : List Keyword).length + (if ([] : List Keyword).isEmpty then 0 else 1) < 30)) = true := by rfl)
    (hline : (apos.endLine == cpos.line) = true := by rfl) (hs : starEach [a] X.env = (false, eval a X.env) :: starEach [] X.env := by rfl) (hplain : (backTo cpos (starEach [] X.env)).any (·.1) = false := by rfl) :
    RE X (.Call (.Attribute (.Name x p1) "append" apos) [a] [] cpos) (tBMv X.K i rAppend t) (mOwnM i fAppend as) :=
  ⟨pe_bm PySem.F.plainAttrs_list PySem.F.slot_list_append PySem.F.type_list_append mt_append (pe_var hN hv hd hcd) ha.pa rfl hfew hline hs hplain, sn_ownM own_append ha.sn⟩
theorem re_popAt (i : Nat) {x : Str} {a : Expr} {t : TA} {as : MA} {p1 apos cpos : Pos} (ha : RA X [a] t as) (hN : X.N[i]? = some x := by rfl) (hv : Vis X.env.scope x := by first | exact Or.inl rfl | exact Or.inr (Or.inl rfl) | exact Or.inr (Or.inr rfl)) (hd : (x == ("__debug__" : Str)) = false := by decide)
    (hcd : (x == ("__classdict__" : Str)) = false := by decide)
    (hfew : ((backTo cpos (starEach [a] X.env)).all (fun x => !x.1) && (backToKw cpos (keywordEach [] X.env)).all (fun x => x.1.isSome)
      && decide (([a] : List Expr).length + ([] : List Keyword).length + (if ([] : List Keyword).isEmpty then 0 else 1) < 30)) = true := by rfl)
    (hline : (apos.endLine == cpos.line) = true := by rfl) (hs : starEach [a] X.env = (false, eval a X.env) :: starEach [] X.env := by rfl) (hplain : (backTo cpos (starEach [] X.env)).any (·.1) = false := by rfl) :
    RE X (.Call (.Attribute (.Name x p1) "pop" apos) [a] [] cpos) (tBMv X.K i rPopAt t) (mOwnM i fPopAt as) :=
  ⟨pe_bm PySem.F.plainAttrs_list PySem.F.slot_list_pop PySem.F.type_list_pop mt_popAt (pe_var hN hv hd hcd) ha.pa rfl hfew hline hs hplain, sn_ownM own_popAt ha.sn⟩
def fPop : List PyData → List PyData → Res (PyData × List PyData) := fun xs _ => match xs[xs.length - 1]? with
  | some d => .ok (d, xs.dropLast)
  | none => .no
theorem dpa_dropLast {F : Hp} {vs : List V} {ds : List PyData} (h : DpAll K F vs ds) : DpAll K F vs.dropLast ds.dropLast := by
  rw [List.dropLast_eq_take, List.dropLast_eq_take, dpa_len h]
  exact dpa_take _ h
theorem sn_ownM0 {i : Nat} : SndE K mg (tBM0 K "list" rPop (tVar i)) (mOwnM i fPop (fun δ => .ok ([], δ))) := fun {ρ Fr F δ σ H d δ'} r e {Q} q => by
  unfold mOwnM at e
  split at e
  · rename_i hw
    split at e
    · rename_i ds δ1 e2
      cases e2
      split at e
      · rename_i s e3
        split at e
        · rename_i xs e4
          split at e
          · rename_i d' ys e5
            cases e
            obtain ⟨p', vs', g1, g2, g3, g4, g5⟩ := r.getOwn e3 e4
            refine ⟨_, g1, Or.inl ⟨rfl, _, Or.inl (Or.inl g2)⟩, ?_⟩
            unfold fPop at e5
            split at e5
            · rename_i d2 e6
              cases e5
              obtain ⟨v, e7, e8⟩ := dpa_get g3 e6
              rw [← dpa_len g3] at e7
              exact ⟨_, _, v, rfl, rfl, g2, e7, q F v _ (Same.refl _) (g5 _ _ (dpa_dropLast g3)) e8⟩
            · cases e5
          · cases e
          · cases e
        · cases e
      · cases e
    · cases e
    · cases e
  · cases e
theorem re_pop (i : Nat) {x : Str} {p1 apos cpos : Pos} (hN : X.N[i]? = some x := by rfl) (hv : Vis X.env.scope x := by first | exact Or.inl rfl | exact Or.inr (Or.inl rfl) | exact Or.inr (Or.inr rfl)) (hd : (x == ("__debug__" : Str)) = false := by decide)
    (hcd : (x == ("__classdict__" : Str)) = false := by decide) (hline : (apos.endLine == cpos.line) = true := by rfl) :
    RE X (.Call (.Attribute (.Name x p1) "pop" apos) [] [] cpos) (tBM0 X.K "list" rPop (tVar i)) (mOwnM i fPop (fun δ => .ok ([], δ))) :=
  ⟨pe_bm0 PySem.F.plainAttrs_list PySem.F.slot_list_pop PySem.F.type_list_pop mt_pop (pe_var hN hv hd hcd) rfl hline, sn_ownM0⟩
/-- x[i], x of any kind -/
def mIxV (i : Nat) (mb : ME) : ME := fun δ => match δ[i]? with
  | some s => (match mb δ with
    | .ok (y, δ1) => (match δ1[i]? with
      | some s1 => (match s.isOwn, s1.isOwn with
        | some _, some xs => (match fIx (.list xs) y with
          | .ok d => .ok (d, δ1)
          | .err c d => .err c d
          | .no => .no)
        | none, none => (match s with
          | .val d0 => (match fIx d0 y with
            | .ok d => .ok (d, δ1)
            | .err c d => .err c d
            | .no => .no)
          | _ => .no)
        | _, _ => .no)
      | none => .no)
    | .err c d => .err c d
    | .no => .no)
  | none => .no
theorem fIx_list {xs : List PyData} {y d : PyData} (e : fIx (.list xs) y = .ok d) : ∃ i, y = .int i ∧ atI xs i = some d := by
  cases y with
  | int i =>
    have e' : (match atI xs i with | some d => Res.ok d | none => .no) = .ok d := e
    split at e'
    · rename_i d' h; cases e'; exact ⟨i, rfl, h⟩
    · cases e'
  | _ => cases e
theorem sn_ixV {i : Nat} {tb : TE} {mb : ME} (hb : SndE K mg tb mb) : SndE K mg (tOp (rIx K) (tVar i) tb) (mIxV i mb) := fun {ρ Fr F δ σ H d δ'} r e {Q} q => by
  unfold mIxV at e
  split at e
  · rename_i s e0
    split at e
    · rename_i y δ1 e1
      split at e
      · rename_i s1 e2
        split at e
        · rename_i xs0 xs e3 e4
          split at e
          · rename_i d' e5
            cases e
            obtain ⟨p, vs, g1, g2⟩ := r.ownAt e0 e3
            refine ⟨_, g1, hb r e1 fun F1 u H1 t1 r1 d1 => ?_⟩
            obtain ⟨p', vs', k1, k2, k3, k4, k5⟩ := r1.getOwn e2 e4
            rw [g1] at k1
            cases k1
            obtain ⟨i', rfl, h2⟩ := fIx_list e5
            cases d1
            obtain ⟨v, h3, h4⟩ := dpa_atI k3 h2
            exact .inl ⟨_, _, _, v, rfl, rfl, SqL.of k2, h3, q F1 v H1 t1 r1 h4⟩
          · cases e
          · cases e
        · split at e
          · rename_i d0
            split at e
            · rename_i d' e5
              cases e
              obtain ⟨v, g1, g2⟩ := r.get e0
              exact ⟨v, g1, hb r e1 fun F1 u H1 t1 r1 d1 => opv_ix r1 (g2.up t1) d1 e5 fun F2 w H2 t2 r2 d2 => q F2 w H2 (t1.trans t2) r2 d2⟩
            · cases e
            · cases e
          · cases e
        · cases e
      · cases e
    · cases e
    · cases e
  · cases e
theorem re_ixV (i : Nat) {x : Str} {b : Expr} {tb : TE} {mb : ME} {p1 pos : Pos} (hb : RE X b tb mb) (hN : X.N[i]? = some x := by rfl) (hv : Vis X.env.scope x := by first | exact Or.inl rfl | exact Or.inr (Or.inl rfl) | exact Or.inr (Or.inr rfl)) (hd : (x == ("__debug__" : Str)) = false := by decide)
    (hcd : (x == ("__classdict__" : Str)) = false := by decide) (hs : PlainIx b := by exact fun _ _ => rfl) : RE X (.Subscript (.Name x p1) b pos) (tOp (rIx X.K) (tVar i) tb) (mIxV i mb) := ⟨pe_ix ix_seq (pe_var hN hv hd hcd) hb.pe hs, sn_ixV hb.sn⟩
/-- x[i] = .. -/
def gsIx (i : Nat) (mb : ME) : PyData → Ev → Res Ev := fun d δ => if wasOwn i δ = true then (match mb δ with
  | .ok (.int k, δ1) => (match δ1[i]? with
    | some s => (match s.isOwn with
      | some xs => (match ixN xs.length k with
        | some j => .ok (δ1.set i (s.put (xs.set j d)))
        | none => .no)
      | none => .no)
    | none => .no)
  | .err c d => .err c d
  | _ => .no) else .no
theorem sn_gsub {i : Nat} {tb : TE} {mb : ME} (hb : SndE K mg tb mb) : SndG K mg (gSub (tVar i) tb rSetL) (gsIx i mb) [] := fun {ρ Fr F δ σ H x d δ'} r hd e {Q} q => by
  unfold gsIx at e
  split at e
  · rename_i hw
    obtain ⟨p, vs, e0, _⟩ := wasOwn_at r hw
    split at e
    · rename_i k δ1 e1
      split at e
      · rename_i s e2
        split at e
        · rename_i xs e3
          split at e
          · rename_i j e4
            cases e
            refine ⟨_, e0, hb r e1 fun F1 u H1 t1 r1 d1 => ?_⟩
            obtain ⟨p', vs', k1, k2, k3, k4, k5⟩ := r1.getOwn e2 e3
            rw [e0] at k1
            cases k1
            cases d1
            exact ⟨_, _, _, j, rfl, rfl, k2, by rw [dpa_len k3]; exact e4, q F1 σ _ t1 (k5 _ _ (dpa_set j k3 (hd.up t1))) (fun _ _ => rfl) rfl⟩
          · cases e
        · cases e
      · cases e
    · cases e
    · cases e
  · cases e
theorem rg_ix (i : Nat) {x : Str} {b : Expr} {tb : TE} {mb : ME} {p1 pos : Pos} (hb : RE X b tb mb) (hN : X.N[i]? = some x := by rfl) (hv : Vis X.env.scope x := by first | exact Or.inl rfl | exact Or.inr (Or.inl rfl) | exact Or.inr (Or.inr rfl)) (hd : (x == ("__debug__" : Str)) = false := by decide)
    (hcd : (x == ("__classdict__" : Str)) = false := by decide)
    (ha : ∀ v, assign (.Subscript (.Name x p1) b pos) X.env v = (do
      let ov ← holding [v] (eval (.Name x p1) X.env)
      let iv ← holding [v, ov] (eval b X.env)
      standAt pos
      holding [v, ov, iv] (setItem ov iv v)
      release [v, ov, iv] []) := by intro _; rfl) : RG X (.Subscript (.Name x p1) b pos) (gSub (tVar i) tb rSetL) (gsIx i mb) [] := ⟨pg_sub (pe_var hN hv hd hcd) hb.pe set_list ha, sn_gsub hb.sn⟩
end

/-! [e for x in xs if c] -/
section
variable {X : Cx} {K : PySem.W.Frag} {mg : Str → Option Value}
def clr : Ev → List Nat → Ev
  | δ, [] => δ
  | δ, v :: vs => (clr δ vs).set v .emp
def bck (δ0 : Ev) : List Nat → Ev → Ev
  | [], δ => δ
  | v :: vs, δ => match δ0[v]? with
    | some s => (bck δ0 vs δ).set v s
    | none => bck δ0 vs δ
def calmS : Sl → Bool
  | .own _ => false
  | .io _ _ => false
  | _ => true
def calmAt (δ : Ev) : List Nat → Bool
  | [] => true
  | v :: vs => (match δ[v]? with
    | some s => calmS s
    | none => true) && calmAt δ vs
def lcL (g : PyData → Ev → Res Ev) (tt : MT) (te : ME) (vs : List Nat) : List PyData → List PyData → Ev → Res (List PyData × Ev)
  | [], acc, δ => .ok (acc, δ)
  | d :: ds, acc, δ => match g d δ with
    | .ok δ2 => (match tt δ2 with
      | .ok (true, δ3) => (match te δ3 with
        | .ok (y, δ4) => if acc.length < sizeLine then lcL g tt te vs ds (acc ++ [y]) (clr δ4 vs) else .no
        | .err c d => .err c d
        | .no => .no)
      | .ok (false, δ3) => lcL g tt te vs ds acc (clr δ3 vs)
      | .err c d => .err c d
      | .no => .no)
    | .err c d => .err c d
    | .no => .no
def mLc (mi : MA) (g : PyData → Ev → Res Ev) (tt : MT) (te : ME) (vs : List Nat) : MN := fun δ => match mi δ with
  | .ok (ds, δ1) => if calmAt δ1 vs = true then (match lcL g tt te vs ds [] (clr δ1 vs) with
    | .ok (ys, δ2) => .ok (.own ys, bck δ1 vs δ2)
    | .err c d => .err c d
    | .no => .no) else .no
  | .err c d => .err c d
  | .no => .no
section
variable {ρ : Nat → Addr} {Fr F F' H H' : Hp} {δ δ' δ0 : Ev} {σ σ' : L2.St}
theorem Rel.clr (r : Rel K mg ρ Fr F δ σ H) : ∀ vs : List Nat, Rel K mg ρ Fr F (clr δ vs) (wipe σ vs) H
  | [] => r
  | v :: vs => by
    unfold CW.clr wipe
    exact (Rel.clr r vs).drop (i := v) (s := .emp) (o := none) rfl
theorem set_self {σ : L2.St} {i : Nat} {o : Option V} (h : σ[i]? = some o) : σ.set i o = σ := by
  have hl : i < σ.length := by
    by_cases hl : i < σ.length
    · exact hl
    · rw [List.getElem?_eq_none (by omega)] at h; cases h
  apply List.ext_getElem?
  intro j
  by_cases hj : i = j
  · subst hj; rw [List.getElem?_set_self hl, h]
  · rw [List.getElem?_set_ne hj]
/-- the wiped slots put back, in the run's list too -/
def unw (σ0 : L2.St) : List Nat → L2.St → L2.St
  | [], σ => σ
  | v :: vs, σ => match σ0[v]? with
    | some s => (unw σ0 vs σ).set v s
    | none => unw σ0 vs σ
theorem unw_len (σ0 : L2.St) (σ : L2.St) : ∀ vs : List Nat, (unw σ0 vs σ).length = σ.length
  | [] => rfl
  | v :: vs => by
    unfold unw
    split
    · rw [List.length_set, unw_len σ0 σ vs]
    · exact unw_len σ0 σ vs
theorem unw_at {σ0 σ : L2.St} (hl : σ.length = σ0.length) {k : Nat} : ∀ {vs : List Nat}, (k ∈ vs ∨ σ[k]? = σ0[k]?) → (unw σ0 vs σ)[k]? = σ0[k]?
  | [], h => by
    rcases h with h | h
    · cases h
    · exact h
  | v :: vs, h => by
    unfold unw
    by_cases q : v = k
    · subst q
      split
      · rename_i s e
        have hv : v < σ0.length := by
          by_cases hv : v < σ0.length
          · exact hv
          · rw [List.getElem?_eq_none (by omega)] at e; cases e
        rw [List.getElem?_set_self (by rw [unw_len, hl]; exact hv), e]
      · rename_i e
        have hv : σ0.length ≤ v := List.getElem?_eq_none_iff.mp e
        rw [e]
        exact List.getElem?_eq_none (by rw [unw_len, hl]; exact hv)
    · have h' : k ∈ vs ∨ σ[k]? = σ0[k]? := by
        rcases h with h | h
        · rcases List.mem_cons.mp h with z | z
          · exact absurd z.symm q
          · exact .inl z
        · exact .inr h
      split
      · rw [List.getElem?_set_ne q]; exact unw_at hl h'
      · exact unw_at hl h'
theorem unw_wipe {σ : L2.St} {vs : List Nat} : unw σ vs (wipe σ vs) = σ := by
  apply List.ext_getElem?
  intro k
  by_cases h : k ∈ vs
  · exact unw_at (wipe_length σ vs) (.inl h)
  · exact unw_at (wipe_length σ vs) (.inr (wipe_out h))
theorem calm_slot {s : Sl} {o : Option V} {L : List Addr} (h : SlotR K mg ρ F H s o L) (e : Same F F') (c : calmS s = true) : SlotR K mg ρ F' H' s o [] := by
  cases s with
  | emp => exact rfl
  | val d => obtain ⟨_, v, a, b⟩ := h; exact ⟨rfl, v, a, b.up e⟩
  | own xs => cases c
  | io k xs => cases c
  | fn x => obtain ⟨_, f, a, b⟩ := h; exact ⟨rfl, f, a, b⟩
theorem Rel.bck (r0 : Rel K mg ρ Fr F δ0 σ H) (e : Same F F') {δ2 : Ev} {σ2 : L2.St} : ∀ {vs : List Nat}, calmAt δ0 vs = true → Rel K mg ρ Fr F' δ2 σ2 H' → Rel K mg ρ Fr F' (bck δ0 vs δ2) (unw σ vs σ2) H'
  | [], _, r => r
  | v :: vs, c, r => by
    unfold calmAt at c
    rw [Bool.and_eq_true] at c
    have r1 := Rel.bck r0 e (vs := vs) c.2 r
    unfold CW.bck unw
    cases q : δ0[v]? with
    | none =>
      have hl := List.getElem?_eq_none_iff.mp q
      rw [List.getElem?_eq_none (by rw [← r0.len]; exact hl)]
      exact r1
    | some s =>
      obtain ⟨L, h1, h2, h3⟩ := r0.own
      obtain ⟨o, L1, Li, L2, e1, _, e3, _⟩ := slotsR_at h1 q
      rw [e1]
      have c1 := c.1
      rw [q] at c1
      exact r1.drop (calm_slot e3 e c1)
theorem wipe_eq {σ σ' : L2.St} (hl : σ'.length = σ.length) : ∀ {vs : List Nat}, (∀ k, k ∉ vs → σ'[k]? = σ[k]?) → wipe σ' vs = wipe σ vs := by
  intro vs h
  apply List.ext_getElem?
  intro k
  by_cases q : k ∈ vs
  · have z : ∀ (τ : L2.St) (ws : List Nat), k ∈ ws → (wipe τ ws)[k]? = if k < τ.length then some none else none := by
      intro τ ws
      induction ws with
      | nil => intro z; cases z
      | cons w ws ih =>
        intro z
        unfold wipe
        by_cases hw : w = k
        · subst hw
          by_cases hl : w < τ.length
          · rw [List.getElem?_set_self (by rw [wipe_length]; exact hl), if_pos hl]
          · rw [List.getElem?_eq_none (by rw [List.length_set, wipe_length]; omega), if_neg hl]
        · rw [List.getElem?_set_ne hw]
          rcases List.mem_cons.mp z with z | z
          · exact absurd z.symm hw
          · exact ih z
    rw [z σ' vs q, z σ vs q, hl]
  · rw [wipe_out q, wipe_out q, h k q]
theorem wipe_wipe {σ : L2.St} {vs : List Nat} : wipe (wipe σ vs) vs = wipe σ vs := wipe_eq (wipe_length σ vs) fun k hk => wipe_out hk
end
theorem sn_lc {wi : TI} {g : TG} {tt : TT} {te : TE} {mi : MA} {f} {mt : MT} {me : ME} {vs js : List Nat} (hi : SndI K mg wi mi) (hg : SndG K mg g f js) (ht : SndT K mg tt mt) (he : SndE K mg te me) (hj : ∀ k ∈ js, k ∈ vs) :
    SndN K mg (tLc wi g tt te vs) (mLc mi f mt me vs) := fun {ρ Fr F δ σ H s δ'} r e {Q} q => by
  unfold mLc at e
  split at e
  · rename_i ds δ1 e1
    split at e
    · rename_i hc
      split at e
      · rename_i ys δ2 e2
        cases e
        refine hi r e1 fun F1 J H1 s1 r1 it => ?_
        intro D hD
        have r0 : Rel K mg ρ (upd Fr D (.lst [])) F1 (clr δ1 vs) (wipe σ vs) (upd H1 D (.lst [])) := by
          obtain ⟨p, ws, k1, k2, k3, k4, k5, k6⟩ := ((r1.clr vs).temp (vs := []) (xs := []) hD .nil).stash
          cases k1
          rw [upd_same] at k2
          cases k2
          exact k6
        have fD : Fr D = none := r1.fFr hD
        refine ⟨fun i m H' => ∃ F2 δ3 acc ws, Same F1 F2 ∧ DpAll K F2 ws acc ∧ Rel K mg ρ (upd Fr D (.lst ws)) F2 δ3 (wipe σ vs) H' ∧ i + m = ds.length ∧ lcL f mt me vs (ds.drop i) acc δ3 = .ok (ys, δ2), ⟨ds.length, F1, _, [], [], Same.refl _, .nil, r0, Nat.zero_add _, e2⟩, ?_⟩
        rintro i m H' ⟨F2, δ3, acc, ws, s2, d2, r2, hm, e3⟩
        have it' := it i F2 H' s2 r2.sub
        cases q2 : ds[i]? with
        | none =>
          have hl : ds.length ≤ i := List.getElem?_eq_none_iff.mp q2
          have hi : i = ds.length := by omega
          rw [List.drop_eq_nil_of_le hl] at e3
          cases e3
          refine .inl ⟨it'.1 hi, q F2 _ H' (s1.trans s2) ?_⟩
          -- the list and the slots put back
          have key : Rel K mg ρ (upd Fr D (.lst ws)) F2 (bck δ1 vs δ2) (unw σ vs (wipe σ vs)) H' := by
            have go : ∀ us : List Nat, calmAt δ1 us = true → Rel K mg ρ (upd Fr D (.lst ws)) F2 (bck δ1 us δ2) (unw σ us (wipe σ vs)) H' := by
              intro us
              induction us with
              | nil => exact fun _ => r2
              | cons u us ih =>
                intro c
                unfold calmAt at c
                rw [Bool.and_eq_true] at c
                have r4 := ih c.2
                unfold CW.bck unw
                cases z : δ1[u]? with
                | none =>
                  have hl := List.getElem?_eq_none_iff.mp z
                  rw [List.getElem?_eq_none (by rw [← r1.len]; exact hl)]
                  exact r4
                | some s =>
                  obtain ⟨L0, h1, _, _⟩ := r1.own
                  obtain ⟨o, L1, Li, L2, g1, _, g3, _⟩ := slotsR_at h1 z
                  rw [g1]
                  have c1 := c.1
                  rw [z] at c1
                  exact r4.drop (calm_slot g3 s2 c1)
            exact go vs hc
          rw [unw_wipe] at key
          exact key.unstash fD d2
        | some d =>
          obtain ⟨hl, hd⟩ := List.getElem?_eq_some_iff.mp q2
          rw [List.drop_eq_getElem_cons hl, hd] at e3
          obtain ⟨go, yl⟩ := it'.2 d q2
          refine .inr ⟨go, fun H' => ∃ F2 δ3 acc ws, Same F1 F2 ∧ DpAll K F2 ws acc ∧ Rel K mg ρ (upd Fr D (.lst ws)) F2 δ3 (wipe σ vs) H' ∧ lcL f mt me vs (ds.drop (i + 1)) acc δ3 = .ok (ys, δ2), ?_, ?_⟩
          · rintro H3 ⟨F3, δ4, acc', ws', a1, a2, a3, a4⟩
            exact ⟨m - 1, by omega, F3, δ4, acc', ws', a1, a2, a3, by omega, a4⟩
          · intro x H3 y
            obtain ⟨F3, s3, dx, up⟩ := yl x H3 y
            have r3 := up r2
            unfold lcL at e3
            split at e3
            · rename_i δ4 e4
              refine hg r3 dx e4 fun F4 σ4 H4 s4 r4 k4 l4 => ?_
              have hw : wipe σ4 vs = wipe σ vs := by
                have z := wipe_eq (σ := wipe σ vs) (σ' := σ4) (vs := vs) l4 (fun k hk => k4 k (fun z => hk (hj k z)))
                rw [z, wipe_wipe]
              refine ⟨hw, ?_⟩
              split at e3
              · rename_i δ5 e5
                split at e3
                · rename_i y' δ6 e6
                  split at e3
                  · rename_i hz
                    refine ht r4 e5 fun F5 H5 s5 r5 => iteT (he r5 e6 fun F6 v H6 s6 r6 d6 => ?_)
                    have s26 := ((s3.trans s4).trans s5).trans s6
                    have d26 := d2.up s26
                    refine ⟨ws, r6.fr D _ upd_same, by rw [dpa_len d2]; exact hz, F6, _, acc ++ [y'], ws ++ [v], s2.trans s26, dpa_app d26 (.cons d6 .nil), ?_, e3⟩
                    have r7 := r6.unstash fD d26
                    obtain ⟨p, vs', g1, g2, g3, g4, g5⟩ := r7.getOwn (i := 0) (s := .own acc) (xs := acc) rfl rfl
                    have gp : p = D := by cases g1; rfl
                    subst gp
                    have r8 := g5 (ws ++ [v]) (acc ++ [y']) (dpa_app d26 (.cons d6 .nil))
                    obtain ⟨p2, ws2, k1, k2, k3, _, _, k6⟩ := Rel.stash (δ := δ6) r8
                    cases k1
                    rw [upd_same] at k2
                    cases k2
                    have k7 := k6.clr vs
                    rw [hw] at k7
                    exact k7
                  · cases e3
                · cases e3
                · cases e3
              · rename_i δ5 e5
                refine ht r4 e5 fun F5 H5 s5 r5 => iteF ?_
                have s25 := (s3.trans s4).trans s5
                have k7 := r5.clr vs
                rw [hw] at k7
                exact ⟨F5, _, acc, ws, s2.trans s25, d2.up s25, k7, e3⟩
              · cases e3
              · cases e3
            · cases e3
            · cases e3
      · cases e
      · cases e
    · cases e
  · cases e
  · cases e
end
end CW

namespace CW
open PySem PySem.Spec PyProof.Rows L2
structure RTs (X : Cx) (ifs : List Expr) (t : TT) (m : MT) : Prop where
  pts : PTs X ifs t
  sn : SndT X.K X.mg t m
section
variable {X : Cx}
def mYes : MT := fun δ => .ok (true, δ)
theorem rts_nil : RTs X [] tYes mYes := ⟨pts_nil, fun {ρ Fr F δ σ H d δ'} r e {Q} q => by cases e; exact q F H (Same.refl _) r⟩
theorem rts_one {c : Expr} {t : TT} {m : MT} (h : RT X c t m) : RTs X [c] t m := ⟨pts_one h.pt, h.sn⟩
/-- the context of a comprehension's own scope -/
abbrev BX (X : Cx) (scope : Scope) (s : Shared) (H : Hp) (C : Addr) (cl : List (Str × Addr)) (fp : List Addr) : Cx := X.blk s H scope (compEnvC scope cl C X.env) fp
/-- the reading that a mirror itself tells -/
def cE (K : PySem.W.Frag) (mg : Str → Option Value) (m : ME) : TE := fun σ H Q => ∃ (ρ : Nat → Addr) (Fr F : Hp) (δ : Ev) (d : PyData) (δ' : Ev), Rel K mg ρ Fr F δ σ H ∧ m δ = .ok (d, δ') ∧ ∀ F' v H', Same F F' → Rel K mg ρ Fr F' δ' σ H' → Dp K F' v d → Q v H'
def cT (K : PySem.W.Frag) (mg : Str → Option Value) (m : MT) : TT := fun σ H Q => ∃ (ρ : Nat → Addr) (Fr F : Hp) (δ : Ev) (d : Bool) (δ' : Ev), Rel K mg ρ Fr F δ σ H ∧ m δ = .ok (d, δ') ∧ ∀ F' H', Same F F' → Rel K mg ρ Fr F' δ' σ H' → Q d H'
def cG (K : PySem.W.Frag) (mg : Str → Option Value) (f : PyData → Ev → Res Ev) (vs : List Nat) : TG := fun x σ H Q => ∃ (ρ : Nat → Addr) (Fr F : Hp) (δ : Ev) (d : PyData) (δ' : Ev), Rel K mg ρ Fr F δ σ H ∧ Dp K F x d ∧ f d δ = .ok δ' ∧
  ∀ F' σ' H', Same F F' → Rel K mg ρ Fr F' δ' σ' H' → (∀ k, k ∉ vs → σ'[k]? = σ[k]?) → σ'.length = σ.length → Q σ' H'
theorem sn_cE {K : PySem.W.Frag} {mg : Str → Option Value} {m : ME} : SndE K mg (cE K mg m) m := fun {ρ Fr F δ σ H d δ'} r e {Q} q => ⟨ρ, Fr, F, δ, d, δ', r, e, q⟩
theorem sn_cT {K : PySem.W.Frag} {mg : Str → Option Value} {m : MT} : SndT K mg (cT K mg m) m := fun {ρ Fr F δ σ H d δ'} r e {Q} q => ⟨ρ, Fr, F, δ, d, δ', r, e, q⟩
theorem sn_cG {K : PySem.W.Frag} {mg : Str → Option Value} {f} {vs : List Nat} : SndG K mg (cG K mg f vs) f vs := fun {ρ Fr F δ σ H x d δ'} r h e {Q} q => ⟨ρ, Fr, F, δ, d, δ', r, h, e, q⟩
theorem RE.canon {e : Expr} {t : TE} {m : ME} (h : RE X e t m) : PE X e (cE X.K X.mg m) := ⟨fun pins s σ H Q I ⟨ρ, Fr, F, δ, d, δ', r, e, q⟩ => h.pe.run pins s σ H Q I (h.sn r e q)⟩
theorem RTs.canon {es : List Expr} {t : TT} {m : MT} (h : RTs X es t m) : PTs X es (cT X.K X.mg m) := ⟨fun pins s σ H Q I ⟨ρ, Fr, F, δ, d, δ', r, e, q⟩ => h.pts.run pins s σ H Q I (h.sn r e q)⟩
theorem RG.canon {e : Expr} {g : TG} {f} {js vs : List Nat} (h : RG X e g f js) (hj : ∀ k ∈ js, k ∈ vs) : PG X e (cG X.K X.mg f vs) := ⟨fun pins s σ H v u Q I rv ⟨ρ, Fr, F, δ, d, δ', r, hd, e, q⟩ => h.pg.run pins s σ H v u Q I rv (h.sn r hd e fun F' σ' H' s r k l => q F' σ' H' s r (fun i hi => k i fun z => hi (hj i z)) l)⟩
section
variable {elt tg iter : Expr} {ifs : List Expr} {scope : Scope} {own : List (Str × Nat)} {pos : Pos} {wi : TI} {mi : MA} {f : PyData → Ev → Res Ev} {mt : MT} {me : ME}
theorem rn_lc (own : List (Str × Nat)) (hc : X.calm = true) (hN : X.N.Nodup) (hi : RI X tg iter wi mi) (hg : ∀ s H C cl fp, ∃ g js, RG (BX X scope s H C cl fp) tg g f js ∧ ∀ k ∈ js, k ∈ own.map (·.2)) (ht : ∀ s H C cl fp, ∃ tt, RTs (BX X scope s H C cl fp) ifs tt mt)
    (he : ∀ s H C cl fp, ∃ te, RE (BX X scope s H C cl fp) elt te me) (ok : BlkOk X.N X.env.scope scope own := by exact blkOk_by rfl) (hs : ∀ x, foldedSetIterable iter X.env x = pure x := by intro _; rfl) :
    RN X (.ListComp elt [⟨tg, iter, ifs, 0⟩] scope pos) (tLc wi (cG X.K X.mg f (own.map (·.2))) (cT X.K X.mg mt) (cE X.K X.mg me) (own.map (·.2))) (mLc mi f mt me (own.map (·.2))) :=
  ⟨pe_lc hc hN hi.pi ok (fun s H C cl fp => let ⟨_, _, r, j⟩ := hg s H C cl fp; r.canon j) (fun s H C cl fp => let ⟨_, r⟩ := ht s H C cl fp; r.canon) (fun s H C cl fp => let ⟨_, r⟩ := he s H C cl fp; r.canon) hs,
    sn_lc hi.sn sn_cG sn_cT sn_cE fun _ h => h⟩
theorem rs_setLc (own : List (Str × Nat)) (i : Nat) {y : Str} {py spos : Pos} (hc : X.calm = true) (hN : X.N.Nodup) (hi : RI X tg iter wi mi) (hg : ∀ s H C cl fp, ∃ g js, RG (BX X scope s H C cl fp) tg g f js ∧ ∀ k ∈ js, k ∈ own.map (·.2)) (ht : ∀ s H C cl fp, ∃ tt, RTs (BX X scope s H C cl fp) ifs tt mt)
    (he : ∀ s H C cl fp, ∃ te, RE (BX X scope s H C cl fp) elt te me) (ok : BlkOk X.N X.env.scope scope own := by exact blkOk_by rfl) (hs : ∀ x, foldedSetIterable iter X.env x = pure x := by intro _; rfl)
    (hy : X.N[i]? = some y := by rfl) (hyl : X.env.scope.names.lookup y = some .local := by rfl) (hsw : swapsWith (.ListComp elt [⟨tg, iter, ifs, 0⟩] scope pos) (some (.Name y py)) spos.line X.env = pure true := by rfl) :
    RS X (.Assign [.Name y py] (.ListComp elt [⟨tg, iter, ifs, 0⟩] scope pos) spos) (tAsg (tLc wi (cG X.K X.mg f (own.map (·.2))) (cT X.K X.mg mt) (cE X.K X.mg me) (own.map (·.2))) (gName i)) (mSet i (mLc mi f mt me (own.map (·.2)))) :=
  ⟨ps_setLc hc hN hy hyl hsw hi.pi ok (fun s H C cl fp => let ⟨_, _, r, j⟩ := hg s H C cl fp; r.canon j) (fun s H C cl fp => let ⟨_, r⟩ := ht s H C cl fp; r.canon) (fun s H C cl fp => let ⟨_, r⟩ := he s H C cl fp; r.canon) hs,
    sn_set i (sn_lc hi.sn sn_cG sn_cT sn_cE fun _ h => h)⟩
end
end
end CW

namespace CW
open PySem PySem.Spec PyProof.Rows L2
section
variable {K : PySem.W.Frag} {mg : Str → Option Value} {ρ : Nat → Addr} {Fr F F' H H' : Hp} {δ δ' : Ev} {σ σ' : L2.St}
theorem slotsR_split : ∀ {ss : Ev} {os : L2.St} {L : List Addr}, ss.length = os.length → SlotsR K mg ρ F H (ss ++ δ) (os ++ σ) L → ∃ L1 L2, L = L1 ++ L2 ∧ SlotsR K mg ρ F H ss os L1 ∧ SlotsR K mg ρ F H δ σ L2
  | [], [], L, _, h => ⟨[], L, rfl, rfl, h⟩
  | [], _ :: _, _, h, _ => nomatch h
  | _ :: _, [], _, h, _ => nomatch h
  | s :: ss, o :: os, L, hl, h => by
    obtain ⟨A, B, rfl, a1, a2⟩ := h
    obtain ⟨L1, L2, rfl, a3, a4⟩ := slotsR_split (by simpa using hl) a2
    exact ⟨A ++ L1, L2, by simp, ⟨A, L1, rfl, a1, a3⟩, a4⟩
theorem slotsR_join : ∀ {ss : Ev} {os : L2.St} {L1 L2 : List Addr}, SlotsR K mg ρ F H ss os L1 → SlotsR K mg ρ F H δ σ L2 → SlotsR K mg ρ F H (ss ++ δ) (os ++ σ) (L1 ++ L2)
  | [], [], L1, L2, h, h' => by
    have e : L1 = [] := h
    subst e
    exact h'
  | [], _ :: _, _, _, h, _ => h.elim
  | _ :: _, [], _, _, h, _ => h.elim
  | s :: ss, o :: os, _, _, h, h' => by
    obtain ⟨A, B, rfl, a1, a2⟩ := h
    exact ⟨A, B ++ _, by simp, a1, slotsR_join a2 h'⟩
/-- the slots behind the first ones wait in the frame -/
theorem Rel.hideJ {ss : Ev} {os : L2.St} (hl : ss.length = os.length) (r : Rel K mg ρ Fr F (ss ++ δ) (os ++ σ) H) : ∃ Fr', Rel K mg ρ Fr' F ss os H ∧ (∀ {F1 H1 : Hp}, Same F F1 → Rel K mg ρ Fr' F1 [] [] H1 → Rel K mg ρ Fr F1 δ σ H1) ∧
    ∀ {F' H' : Hp} {ts : Ev} {us : L2.St}, Same F F' → Rel K mg ρ Fr' F' ts us H' → Rel K mg ρ Fr F' (ts ++ δ) (us ++ σ) H' := by
  obtain ⟨L, h1, h2, h3⟩ := r.own
  obtain ⟨L1, LB, rfl, g1, g2⟩ := slotsR_split hl h1
  have nd := List.nodup_append.mp h2
  have key : ∀ {F' H' : Hp} {ts : Ev} {us : L2.St}, Same F F' → Rel K mg ρ (fun a => if a ∈ LB then H a else Fr a) F' ts us H' → Rel K mg ρ Fr F' (ts ++ δ) (us ++ σ) H' := by
    intro F' H' ts us e r'
    obtain ⟨M, m1, m2, m3⟩ := r'.own
    have hLH : ∀ a ∈ LB, H' a = H a := fun a ha => by
      obtain ⟨vs, e1⟩ := slotsR_mem g2 ha
      rw [e1]
      exact r'.fr a _ (by simp only [ha, if_true]; exact e1)
    have hLF : ∀ a ∈ LB, F' a = none := fun a ha => r'.dis a (by
      obtain ⟨vs, e1⟩ := slotsR_mem g2 ha
      simp only [ha, if_true, e1]; simp)
    have hFr : ∀ a u, Fr a = some u → (if a ∈ LB then H a else Fr a) = some u := fun a u q => by
      by_cases z : a ∈ LB
      · rw [(h3 a (List.mem_append_right _ z)).2] at q; cases q
      · rw [if_neg z]; exact q
    refine ⟨r'.sub, fun a u q => r'.fr a u (hFr a u q), fun a ha => ?_, M ++ LB, slotsR_join m1 (slotsR_mono e hLH g2), List.nodup_append.mpr ⟨m2, nd.2.1, fun a ha b hb z => ?_⟩, fun a ha => ?_⟩
    · obtain ⟨u, q⟩ := Option.ne_none_iff_exists'.mp ha
      refine r'.dis a (fun z => ?_)
      have q2 := hFr a u q
      rw [show (if a ∈ LB then H a else Fr a) = none from z] at q2
      cases q2
    · subst z
      have q := (m3 a ha).2
      obtain ⟨vs, e1⟩ := slotsR_mem g2 hb
      simp only [hb, if_true, e1] at q
      cases q
    · rcases List.mem_append.mp ha with z | z
      · refine ⟨(m3 a z).1, ?_⟩
        have q := (m3 a z).2
        by_cases w : a ∈ LB
        · exact (h3 a (List.mem_append_right _ w)).2
        · simp only [w, if_false] at q; exact q
      · exact ⟨hLF a z, (h3 a (List.mem_append_right _ z)).2⟩
  refine ⟨fun a => if a ∈ LB then H a else Fr a, ⟨r.sub, fun a u q => ?_, fun a ha => ?_, L1, g1, nd.1, fun a ha => ⟨(h3 a (List.mem_append_left _ ha)).1, ?_⟩⟩, fun e r' => by simpa using key (ts := []) (us := []) e r', key⟩
  · by_cases z : a ∈ LB
    · simp only [z, if_true] at q; exact q
    · simp only [z, if_false] at q; exact r.fr a u q
  · by_cases z : a ∈ LB
    · exact (h3 a (List.mem_append_right _ z)).1
    · simp only [z, if_false] at ha; exact r.dis a ha
  · have z : a ∉ LB := fun z => nd.2.2 a ha a z rfl
    simp only [z, if_false]
    exact (h3 a (List.mem_append_left _ ha)).2
theorem Rel.swap2 {a b : Sl} {oa ob : Option V} (r : Rel K mg ρ Fr F (a :: b :: δ) (oa :: ob :: σ) H) : Rel K mg ρ Fr F (b :: a :: δ) (ob :: oa :: σ) H := by
  obtain ⟨L, ⟨A, B, rfl, a1, B1, C, rfl, a2, a3⟩, h2, h3⟩ := r.own
  have p : (A ++ (B1 ++ C)).Perm (B1 ++ (A ++ C)) := by
    rw [← List.append_assoc, ← List.append_assoc]
    exact List.Perm.append_right _ List.perm_append_comm
  exact ⟨r.sub, r.fr, r.dis, B1 ++ (A ++ C), ⟨B1, A ++ C, rfl, a2, A, C, rfl, a1, a3⟩, p.nodup_iff.mp h2, fun x hx => h3 x (p.mem_iff.mpr hx)⟩
/-- the parameters' lists under other names -/
def reIo (s : Sl) : Sl := match s with
  | .io _ xs => .own xs
  | s => s
theorem slot_reIo {ρ' : Nat → Addr} {s : Sl} {o : Option V} {L : List Addr} (h : SlotR K mg ρ F H s o L) : SlotR K mg ρ' F H (reIo s) o L := by
  cases s with
  | emp => exact h
  | val d => exact h
  | own xs => exact h
  | io k xs => obtain ⟨h1, h2, vs, h3, h4⟩ := h; exact ⟨_, vs, h1, h2, h3, h4⟩
  | fn x => exact h
theorem Rel.reRho {ρ' : Nat → Addr} {ts : Ev} (r : Rel K mg ρ Fr F δ σ H) (h : ∀ L, SlotsR K mg ρ F H δ σ L → SlotsR K mg ρ' F H ts σ L) : Rel K mg ρ' Fr F ts σ H :=
  let ⟨L, h1, h2, h3⟩ := r.own
  ⟨r.sub, r.fr, r.dis, L, h L h1, h2, h3⟩
/-- values, on top of slots -/
theorem Rel.vals (r : Rel K mg ρ Fr F δ σ H) : ∀ {vs : List V} {ds : List PyData}, DpAll K F vs ds → Rel K mg ρ Fr F (ds.map .val ++ δ) (vs.map some ++ σ) H
  | _, [], h => by cases h; exact r
  | _, d :: ds, h => by
    cases h with
    | cons h1 h2 => exact (Rel.vals r h2).tval h1
end

/-! the def -/
theorem empties {K : PySem.W.Frag} {mg : Str → Option Value} {ρ : Nat → Addr} {F H : Hp} : ∀ n : Nat, SlotsR K mg ρ F H (List.replicate n .emp) (List.replicate n none) []
  | 0 => rfl
  | n + 1 => ⟨[], [], rfl, rfl, empties n⟩
section
variable {P : Program} {w : World} {K : PySem.W.Frag} {mg : Str → Option Value} {base : Heap} {x qual : Str} {params : Arguments} {body : List Stmt} {scope : Scope} {dvs : List V} {kws : List (Str × V)} {f : Addr} {fd : FuncData}
theorem body_of {N : List Str} {n nl : Nat} {t : TS} {m : MS} (hN : N.length = n + nl) (hs : SndS K mg t m) {vs : List V} {H : Hp} {Q : VK} {E : XK} (h : spD K mg n (fnM nl m) vs H Q E) : t { nx := fun _ H' => Q .non H', rt := Q } (L2.start N vs) H := by
  obtain ⟨ρ, Fr, F, as, r, as', hl, rel, e, q⟩ := h
  have hst : L2.start N vs = vs.map some ++ List.replicate nl none := by
    unfold L2.start
    rw [hN, hl, Nat.add_sub_cancel_left]
  rw [hst]
  obtain ⟨L, h1, h2, h3⟩ := rel.own
  have r0 : Rel K mg ρ Fr F (as ++ List.replicate nl .emp) (vs.map some ++ List.replicate nl none) H :=
    ⟨rel.sub, rel.fr, rel.dis, L, by have z := slotsR_join h1 (empties (K := K) (mg := mg) (ρ := ρ) (F := F) (H := H) nl); simpa using z, h2, h3⟩
  unfold fnM at e
  split at e
  · rename_i s δ' e1
    split at e
    · rename_i as2 e2
      cases e
      exact hs r0 e1 fun F' v σ' H' s1 r1 => q F' v H' s1 (outA_rel s1 rel r1 e2)
    · cases e
    · cases e
  · rename_i δ' e1
    split at e
    · rename_i as2 e2
      cases e
      exact hs r0 e1 fun F' σ' H' s1 r1 => q F' .non H' s1 (outA_rel s1 rel (r1.tval .non) e2)
    · cases e
    · cases e
  · cases e
  · cases e
theorem fnG_D {CX : CXT} {N ps : List Str} {k n nl : Nat} {m : MS} (D : FunD K x qual params body scope dvs kws f fd) (S : FnScope N ps scope) (hn : ps.length = n) (hN : N.length = n + nl)
    (bd : ∀ (cdv : Value) (A : Around) (outer : List Env) (s : Shared) (H : Hp) (E : XK), A.guards = some [] → Room k (A.deeper (envOfC qual scope s.heap.objs.size f cdv)) → ∃ t, RB (cxOf CX P w K mg base N qual scope f cdv A outer s H E) body t m) : FnG P w K mg base CX (k + 1) f fd ps (spD K mg n (fnM nl m)) := by
  refine fnG_of D S (fun vs H Q E h => ?_) fun cdv A outer s H vs Q E hG hR h => ?_
  · obtain ⟨_, _, _, _, _, _, hl, _⟩ := h
    rw [hl, hn]
  · obtain ⟨t, b⟩ := bd cdv A outer s H E hG hR
    exact ⟨t, b.pss, body_of hN b.sn h⟩
end

/-! calls of the law's and the program's defs -/
abbrev FM := Ev → Res (Sl × Ev)
def resV : Sl → Option Sl
  | .io _ _ => none
  | s => some s
def mCallV (n : Nat) (f : FM) (as : MA) : MN := fun δ => match as δ with
  | .ok (ds, δ1) => if ds.length = n then (match f (ds.map .val) with
    | .ok (r, _) => (match resV r with
      | some s => .ok (s, δ1)
      | none => .no)
    | .err c d => .err c d
    | .no => .no) else .no
  | .err c d => .err c d
  | .no => .no
theorem resV_slot {K : PySem.W.Frag} {mg : Str → Option Value} {ρ ρ' : Nat → Addr} {F H : Hp} {r s : Sl} {o : Option V} {L : List Addr} (e : resV r = some s) (h : SlotR K mg ρ F H r o L) : SlotR K mg ρ' F H s o L := by
  cases r <;> cases e <;> exact h
section
variable {X : Cx} {K : PySem.W.Frag} {mg : Str → Option Value}
theorem sp_vals {ρ : Nat → Addr} {Fr F H : Hp} {δ : Ev} {σ : L2.St} {vs : List V} {ds : List PyData} {n : Nat} {f : FM} {r s : Sl} {as' : Ev} {Q : VK} {E : XK} (rel : Rel K mg ρ Fr F δ σ H) (d : DpAll K F vs ds) (hn : ds.length = n) (e : f (ds.map .val) = .ok (r, as')) (hr : resV r = some s)
    (q : ∀ F' v H', Same F F' → Rel K mg ρ Fr F' (s :: δ) (some v :: σ) H' → Q v H') : spD K mg n f vs H Q E := by
  obtain ⟨Fr', r1, r2, r3⟩ := Rel.hideJ (ss := []) (os := []) rfl rel
  refine ⟨ρ, Fr', F, ds.map .val, r, as', (dpa_len d).trans hn, by simpa using r1.vals d, e, fun F' v H' s1 r4 => q F' v H' s1 ?_⟩
  obtain ⟨L, ⟨A, B, rfl, a1, a2⟩, nd, av⟩ := r4.own
  have a1' : SlotR K mg ρ F' H' s (some v) A := resV_slot hr a1
  have r5 : Rel K mg ρ Fr' F' [s] [some v] H' := ⟨r4.sub, r4.fr, r4.dis, A, ⟨A, [], by simp, a1', rfl⟩, (List.nodup_append.mp nd).1, fun a ha => av a (List.mem_append_left _ ha)⟩
  exact r3 s1 r5
theorem sn_callV {f : FM} {t : TA} {as : MA} {n : Nat} {E : XK} (ha : SndA K mg t as) : SndN K mg (tCall (spD K mg n f) [] E t) (mCallV n f as) := fun {ρ Fr F δ σ H s δ'} r e {Q} q => by
  unfold mCallV at e
  split at e
  · rename_i ds δ1 e1
    split at e
    · rename_i hn
      split at e
      · rename_i r' as' e2
        split at e
        · rename_i s' e3
          cases e
          refine ha r e1 fun F1 vs H1 s1 r1 d1 => ?_
          rw [List.append_nil]
          exact sp_vals r1 d1 hn e2 e3 fun F' v H' s2 r2 => q F' v H' (s1.trans s2) r2
        · cases e
      · cases e
      · cases e
    · cases e
  · cases e
  · cases e
section
variable {CX : CXT} {k : Nat} {f : Addr} {fd : FuncData} {ps ks : List Str} {n : Nat} {fm : FM} {x : Str} {p pos : Pos} {e : Expr} {es : List Expr} {kws : List Keyword} {t tk : TA} {as ak : MA}
theorem rn_callV (F : FnG X.prog X.w X.K X.mg X.base CX0 k f fd ps (spD X.K X.mg n fm)) (hG : X.A.guards = some []) (hr : Room k X.A) (hg : Gl X x) (hm : X.mg x = some (.ref f)) (hk : PySem.W.keepIn X.K (.ref f) = true) (hb : Binds X.K fd ps [])
    (ha : RA X (e :: es) t as) (hdb : (x == ("__debug__" : Str)) = false := by decide) (he : starEach (e :: es) X.env = (false, eval e X.env) :: starEach es X.env := by rfl) (hpl : (backTo pos (starEach es X.env)).any (·.1) = false := by rfl) :
    RN X (.Call (.Name x p) (e :: es) [] pos) (tCall (spD X.K X.mg n fm) [] E0 t) (mCallV n fm as) := ⟨pe_callG F hG hr hg hm hk hb pass0 ha.pa hdb he hpl, sn_callV ha.sn⟩
theorem rn_callV0 (F : FnG X.prog X.w X.K X.mg X.base CX0 k f fd ps (spD X.K X.mg n fm)) (hG : X.A.guards = some []) (hr : Room k X.A) (hg : Gl X x) (hm : X.mg x = some (.ref f)) (hk : PySem.W.keepIn X.K (.ref f) = true) (hb : Binds X.K fd ps [])
    (hdb : (x == ("__debug__" : Str)) = false := by decide) :
    RN X (.Call (.Name x p) [] [] pos) (tCall (spD X.K X.mg n fm) [] E0 tNil) (mCallV n fm mNil) := ⟨pe_call0G F hG hr hg hm hk hb pass0 hdb, sn_callV sn_nil⟩
end

/-! f(x, ..) with x a list of its own, which f may change -/
def mCallI (i n : Nat) (f : FM) (as : MA) : MN := fun δ => if wasOwn i δ = true then (match as δ with
  | .ok (ds, δ1) => (match δ1[i]? with
    | some s => (match s.isOwn with
      | some xs => if ds.length + 1 = n then (match f (.io 0 xs :: ds.map .val) with
        | .ok (r, .io 0 ys :: _) => (match resV r with
          | some r' => .ok (r', δ1.set i (s.put ys))
          | none => .no)
        | .err c d => .err c d
        | _ => .no) else .no
      | none => .no)
    | none => .no)
  | .err c d => .err c d
  | .no => .no) else .no
/-- any list of its own out of its slot -/
theorem Rel.takeO {ρ : Nat → Addr} {Fr F H : Hp} {δ : Ev} {σ : L2.St} {i : Nat} {s : Sl} {xs : List PyData} (r : Rel K mg ρ Fr F δ σ H) (h : δ[i]? = some s) (hs : s.isOwn = some xs) : ∃ p, σ[i]? = some (some (.ref p)) ∧ (∀ L, SlotR K mg ρ F H s (some (.ref p)) L → L = [p]) ∧ Rel K mg ρ Fr F (s :: δ.set i .emp) (some (.ref p) :: σ) H := by
  obtain ⟨L, h1, h2, h3⟩ := r.own
  obtain ⟨o, L1, Li, L2, e1, rfl, e3, e4⟩ := slotsR_at h1 h
  have key : ∃ p, o = some (.ref p) ∧ Li = [p] ∧ ∀ L, SlotR K mg ρ F H s (some (.ref p)) L → L = [p] := by
    cases s with
    | own ys =>
      obtain ⟨p, vs, rfl, rfl, a1, a2⟩ := e3
      refine ⟨p, rfl, rfl, fun L h => ?_⟩
      obtain ⟨p', vs', b1, b2, _⟩ := h
      cases b1
      exact b2
    | io k ys =>
      obtain ⟨rfl, rfl, vs, a1, a2⟩ := e3
      exact ⟨_, rfl, rfl, fun L h => h.2.1⟩
    | emp => cases hs
    | val d => cases hs
    | fn x => cases hs
  obtain ⟨p, rfl, rfl, hp⟩ := key
  have q := e4 (F' := F) (H' := H) (Same.refl _) (fun _ _ => rfl) .emp (some (.ref p)) [] rfl
  rw [set_self e1] at q
  refine ⟨p, e1, hp, r.sub, r.fr, r.dis, [p] ++ (L1 ++ L2), ⟨[p], L1 ++ L2, rfl, e3, by simpa using q⟩, ?_, fun a ha => h3 a ?_⟩
  · have pm : (L1 ++ ([p] ++ L2)).Perm ([p] ++ (L1 ++ L2)) := by
      rw [← List.append_assoc, ← List.append_assoc]
      exact List.Perm.append_right _ List.perm_append_comm
    exact pm.nodup_iff.mp h2
  · simp only [List.mem_append] at ha ⊢
    rcases ha with q | q | q
    · exact .inr (.inl q)
    · exact .inl q
    · exact .inr (.inr q)
theorem sn_callI {i n : Nat} {f : FM} {t : TA} {as : MA} {E : XK} (ha : SndA K mg t as) : SndN K mg (tCall (spD K mg n f) [] E (tCons (tVar i) t)) (mCallI i n f as) := fun {ρ Fr F δ σ H s δ'} r e {Q} q => by
  unfold mCallI at e
  split at e
  · rename_i hw
    obtain ⟨p, vs0, g0, _⟩ := wasOwn_at r hw
    split at e
    · rename_i ds δ1 e1
      split at e
      · rename_i s0 e2
        split at e
        · rename_i xs e3
          split at e
          · rename_i hn
            split at e
            · rename_i r' ys rest e4
              split at e
              · rename_i r2 e5
                cases e
                refine ⟨_, g0, ha r e1 fun F1 vs H1 s1 r1 d1 => ?_⟩
                show spD K mg n f ((V.ref p :: vs) ++ []) H1 Q E
                rw [List.append_nil]
                obtain ⟨p', k1, k2, k3⟩ := r1.takeO e2 e3
                rw [g0] at k1
                cases k1
                obtain ⟨Fr', h1, h2, h3⟩ := Rel.hideJ (ss := [s0]) (os := [some (.ref p)]) rfl k3
                have conv : ∀ {F H : Hp} {zs : List PyData} {L : List Addr}, SlotR K mg (fun _ => p) F H (.io 0 zs) (some (.ref p)) L → SlotR K mg ρ F H (s0.put zs) (some (.ref p)) L := by
                  intro F H zs L h
                  obtain ⟨_, b1, ws, b2, b3⟩ := h
                  have b1 : L = [p] := b1
                  have b2 : H p = some (.lst ws) := b2
                  cases s0 with
                  | own z => exact ⟨p, ws, rfl, b1, b2, b3⟩
                  | io kk z =>
                    obtain ⟨M, ⟨A, B, rfl, a1, _⟩, _⟩ := h1.own
                    obtain ⟨c1, c2, _⟩ := a1
                    have c3 : p = ρ kk := by cases c1; rfl
                    exact ⟨by rw [← c3], by rw [← c3]; exact b1, ws, by rw [← c3]; exact b2, b3⟩
                  | emp => cases e3
                  | val z => cases e3
                  | fn z => cases e3
                have h4 : Rel K mg (fun _ => p) Fr' F1 [.io 0 xs] [some (.ref p)] H1 := h1.reRho fun L h => by
                  obtain ⟨A, B, rfl, a1, a2⟩ := h
                  refine ⟨A, B, rfl, ?_, a2⟩
                  cases s0 with
                  | own z =>
                    cases e3
                    obtain ⟨pp, ws, b1, b2, b3, b4⟩ := a1
                    cases b1
                    exact ⟨rfl, b2, ws, b3, b4⟩
                  | io kk z =>
                    cases e3
                    obtain ⟨b1, b2, ws, b3, b4⟩ := a1
                    have c3 : p = ρ kk := by cases b1; rfl
                    exact ⟨rfl, by rw [c3]; exact b2, ws, by show H1 p = _; rw [c3]; exact b3, b4⟩
                  | emp => cases e3
                  | val z => cases e3
                  | fn z => cases e3
                -- the values on top, then the list ahead of them
                have h5 : Rel K mg (fun _ => p) Fr' F1 (.io 0 xs :: ds.map .val) (some (.ref p) :: vs.map some) H1 := by
                  have z := h4.vals d1
                  obtain ⟨L, z1, z2, z3⟩ := z.own
                  obtain ⟨L1, L2, rfl, z4, z5⟩ := slotsR_split (by simp [dpa_len d1]) z1
                  obtain ⟨A, B, rfl, z6, z7⟩ := z5
                  have eB : B = [] := z7
                  subst eB
                  have pm : (L1 ++ (A ++ [])).Perm (A ++ L1) := by
                    rw [List.append_nil]
                    exact List.perm_append_comm
                  exact ⟨z.sub, z.fr, z.dis, A ++ L1, ⟨A, L1, rfl, z6, z4⟩, pm.nodup_iff.mp z2, fun a ha => z3 a (pm.mem_iff.mpr ha)⟩
                refine ⟨fun _ => p, Fr', F1, _, r', _, by simpa [dpa_len d1] using hn, h5, e4, fun F' v H' s2 r4 => q F' v H' (s1.trans s2) ?_⟩
                obtain ⟨L, ⟨A, B, rfl, a1, C, D, rfl, a2, a3⟩, nd, av⟩ := r4.own
                have c1 : SlotR K mg ρ F' H' s (some v) A := resV_slot e5 a1
                have c2 : SlotR K mg ρ F' H' (s0.put ys) (some (.ref p)) C := conv a2
                have sb : (A ++ C).Sublist (A ++ (C ++ D)) := List.Sublist.append (List.Sublist.refl _) (List.sublist_append_left _ _)
                have r5 : Rel K mg ρ Fr' F' [s0.put ys, s] [some (.ref p), some v] H' := by
                  have z : Rel K mg ρ Fr' F' [s, s0.put ys] [some v, some (.ref p)] H' := ⟨r4.sub, r4.fr, r4.dis, A ++ C, ⟨A, C, rfl, c1, C, [], by simp, c2, rfl⟩, nd.sublist sb, fun a ha => av a (sb.subset ha)⟩
                  exact z.swap2
                have r6 := h3 s2 r5
                have hl : i < δ1.length := by
                  by_cases hl : i < δ1.length
                  · exact hl
                  · rw [List.getElem?_eq_none (by omega)] at e2; cases e2
                have r7 : Rel K mg ρ Fr F' ((s :: δ1.set i .emp).set (i + 1) (s0.put ys)) ((some v :: σ).set (i + 1) (some (.ref p))) H' := Rel.set (δ := s :: δ1.set i .emp) (σ := some v :: σ) (i := i + 1) r6 (by simp; omega)
                rw [List.set_cons_succ, List.set_cons_succ, List.set_set, set_self g0] at r7
                exact r7
              · cases e
            · cases e
            · cases e
          · cases e
        · cases e
      · cases e
    · cases e
    · cases e
  · cases e
section
variable {k : Nat} {f : Addr} {fd : FuncData} {ps : List Str} {n : Nat} {fm : FM} {x y : Str} {p pos py : Pos} {es : List Expr} {t : TA} {as : MA}
theorem rn_callI (i : Nat) (F : FnG X.prog X.w X.K X.mg X.base CX0 k f fd ps (spD X.K X.mg n fm)) (hG : X.A.guards = some []) (hr : Room k X.A) (hg : Gl X x) (hm : X.mg x = some (.ref f)) (hk : PySem.W.keepIn X.K (.ref f) = true) (hb : Binds X.K fd ps [])
    (ha : RA X es t as) (hN : X.N[i]? = some y := by rfl) (hv : Vis X.env.scope y := by first | exact Or.inl rfl | exact Or.inr (Or.inl rfl) | exact Or.inr (Or.inr rfl)) (hd : (y == ("__debug__" : Str)) = false := by decide) (hcd : (y == ("__classdict__" : Str)) = false := by decide)
    (hdb : (x == ("__debug__" : Str)) = false := by decide) (he : starEach (.Name y py :: es) X.env = (false, eval (.Name y py) X.env) :: starEach es X.env := by rfl) (hpl : (backTo pos (starEach es X.env)).any (·.1) = false := by rfl) :
    RN X (.Call (.Name x p) (.Name y py :: es) [] pos) (tCall (spD X.K X.mg n fm) [] E0 (tCons (tVar i) t)) (mCallI i n fm as) := ⟨pe_callG F hG hr hg hm hk hb pass0 (pa_cons (pe_var hN hv hd hcd) ha.pa he) hdb he hpl, sn_callI ha.sn⟩
end

/-! calls with keywords -/
def mCallO (ix : List Nat) (n m k : Nat) (f : FM) (as ak : MA) : MN := fun δ => match as δ with
  | .ok (ds, δ1) => (match ak δ1 with
    | .ok (es, δ2) => if ds.length = n ∧ es.length = m ∧ (inOrder ix (ds ++ es)).length = k then (match f ((inOrder ix (ds ++ es)).map .val) with
      | .ok (r, _) => (match resV r with
        | some s => .ok (s, δ2)
        | none => .no)
      | .err c d => .err c d
      | .no => .no) else .no
    | .err c d => .err c d
    | .no => .no)
  | .err c d => .err c d
  | .no => .no
theorem dpa_order {F : Hp} {vs : List V} {ds : List PyData} (h : DpAll K F vs ds) : ∀ ix : List Nat, DpAll K F (inOrder ix vs) (inOrder ix ds)
  | [] => .nil
  | i :: ix => by
    unfold inOrder
    cases q : ds[i]? with
    | none =>
      have q2 : vs[i]? = none := by
        rw [List.getElem?_eq_none_iff] at q ⊢
        rw [dpa_len h]; exact q
      rw [List.filterMap_cons_none q, List.filterMap_cons_none q2]
      exact dpa_order h ix
    | some d =>
      obtain ⟨v, q2, rv⟩ := dpa_get h q
      rw [List.filterMap_cons_some q, List.filterMap_cons_some q2]
      exact .cons rv (dpa_order h ix)
theorem sn_callO {ix : List Nat} {n m k : Nat} {f : FM} {t tk : TA} {as ak : MA} {E : XK} (ha : SndA K mg t as) (hk : SndA K mg tk ak) : SndN K mg (tCallO (spD K mg k f) ix n m E t tk) (mCallO ix n m k f as ak) := fun {ρ Fr F δ σ H s δ'} r e {Q} q => by
  unfold mCallO at e
  split at e
  · rename_i ds δ1 e1
    split at e
    · rename_i es δ2 e2
      split at e
      · rename_i hn
        split at e
        · rename_i r' as' e3
          split at e
          · rename_i s' e4
            cases e
            refine ha r e1 fun F1 vs H1 s1 r1 d1 => hk r1 e2 fun F2 ws H2 s2 r2 d2 => ?_
            exact ⟨(dpa_len d1).trans hn.1, (dpa_len d2).trans hn.2.1, sp_vals r2 (dpa_order (dpa_app (d1.up s2) d2) ix) hn.2.2 e3 e4 fun F' v H' s3 r3 => q F' v H' ((s1.trans s2).trans s3) r3⟩
          · cases e
        · cases e
        · cases e
      · cases e
    · cases e
    · cases e
  · cases e
  · cases e
structure RK (X : Cx) (kws : List Keyword) (t : TA) (m : MA) : Prop where
  pk : PK X kws t
  sn : SndA X.K X.mg t m
theorem rk_nil : RK X [] tNil mNil := ⟨pk_nil, sn_nil⟩
theorem rk_cons {e : Expr} {kws : List Keyword} {t : TE} {u : TA} {a : ME} {as : MA} {nm : Option Str} {kpos : Pos} (ha : RE X e t a) (hs : RK X kws u as) : RK X (⟨nm, e, kpos⟩ :: kws) (tCons t u) (mCons a as) := ⟨pk_cons ha.pe hs.pk, sn_cons ha.sn hs.sn⟩
section
variable {k : Nat} {f : Addr} {fd : FuncData} {ps ks : List Str} {n kk m : Nat} {fm : FM} {x : Str} {p pos : Pos} {e : Expr} {es : List Expr} {kws : List Keyword} {t tk : TA} {as ak : MA} {ix : List Nat}
theorem rn_callK (F : FnG X.prog X.w X.K X.mg X.base CX0 k f fd ps (spD X.K X.mg kk fm)) (hG : X.A.guards = some []) (hr : Room k X.A) (hg : Gl X x) (hm : X.mg x = some (.ref f)) (hk : PySem.W.keepIn X.K (.ref f) = true) (hb : KwTo X.K fd ps n ks ix)
    (ha : RA X (e :: es) t as) (hkw : RK X kws tk ak) (hall : (backToKw pos (keywordEach kws X.env)).all (·.1.isSome) = true := by rfl) (hks : (backToKw pos (keywordEach kws X.env)).filterMap (·.1) = ks := by rfl)
    (hdb : (x == ("__debug__" : Str)) = false := by decide) (he : starEach (e :: es) X.env = (false, eval e X.env) :: starEach es X.env := by rfl)
    (hpl : ((backTo pos (starEach (e :: es) X.env)).any (·.1) || (backToKw pos (keywordEach kws X.env)).any (·.1.isNone)) = false := by rfl) (hl : ks.length = m := by rfl) :
    RN X (.Call (.Name x p) (e :: es) kws pos) (tCallO (spD X.K X.mg kk fm) ix n ks.length E0 t tk) (mCallO ix n m kk fm as ak) := ⟨pe_callGK F hG hr hg hm hk hb pass0 ha.pa hkw.pk hall hks hdb he hpl, hl ▸ sn_callO ha.sn hkw.sn⟩
theorem rn_callK0 (F : FnG X.prog X.w X.K X.mg X.base CX0 k f fd ps (spD X.K X.mg kk fm)) (hG : X.A.guards = some []) (hr : Room k X.A) (hg : Gl X x) (hm : X.mg x = some (.ref f)) (hk : PySem.W.keepIn X.K (.ref f) = true) (hb : KwTo X.K fd ps 0 ks ix)
    (hkw : RK X kws tk ak) (hall : (backToKw pos (keywordEach kws X.env)).all (·.1.isSome) = true := by rfl) (hks : (backToKw pos (keywordEach kws X.env)).filterMap (·.1) = ks := by rfl)
    (hdb : (x == ("__debug__" : Str)) = false := by decide)
    (hpl : ((backTo pos (starEach [] X.env)).any (·.1) || (backToKw pos (keywordEach kws X.env)).any (·.1.isNone)) = false := by rfl) (hl : ks.length = m := by rfl) :
    RN X (.Call (.Name x p) [] kws pos) (tCallO (spD X.K X.mg kk fm) ix 0 ks.length E0 tNil tk) (mCallO ix 0 m kk fm mNil ak) := ⟨pe_callGK0 F hG hr hg hm hk hb pass0 hkw.pk hall hks hdb hpl, hl ▸ sn_callO sn_nil hkw.sn⟩
end
end
end CW

namespace CW
open PySem PySem.Spec PyProof.Rows L2
section
variable {prog : Program} {w : World} {h₀ : Heap}
theorem call_repr_data {v : Value} {d : PyData} {as : List Addr} (r : Reads h₀ v d as) (hs : d.showable = true) (hsm : d.hasDict = true → sysModules ∉ as) (hz : d.shown.length ≤ sizeLine) (hnd : d.hasDict = false) {A : Around} {E : Value → Shared → Prop} {s : Shared} {Q : Value → Shared → Prop}
    (hg : A.guards = some []) (hu : A.units + 1 + d.depth < cLine) (hk0 : ∀ b o, h₀.get? b = some o → s.heap.get? b = some o)
    (hQ : ∀ h' u tk, (∀ b o, s.heap.get? b = some o → h'.get? b = some o) → Q (.str d.shown u) { s with heap := h', toks := tk }) : wpAny (model prog w) A (call (.builtin "repr") [v]) Q E s := by
  cases r with
  | none => exact PySem.P.repr_of_none (hQ s.heap _ _ fun _ _ e => e)
  | bool b => exact PySem.P.repr_of_bool (hQ s.heap _ _ fun _ _ e => e)
  | int i t => exact PySem.P.repr_of_int (by simpa [PyData.showable] using hs) (hQ s.heap _ _ fun _ _ e => e)
  | str x t => exact PySem.P.repr_of_str (hQ s.heap _ _ fun _ _ e => e) (by simpa only [PyData.shown] using hz)
  | dict => simp [PyData.hasDict] at hnd
  | @list a o vs n xs as1 h1 h2 h3 h4 =>
    have hz' : (listText (PyData.shownAll xs)).length ≤ sizeLine := by simpa only [PyData.shown] using hz
    obtain ⟨bs, hb, hk⟩ := ReprAllK.of_readsAll (prog := prog) (w := w) h4 (by simpa [PyData.showable] using hs) (fun hx hm => hsm (by simpa [PyData.hasDict] using hx) (List.mem_cons_of_mem _ hm)) (fun t ht => Nat.le_trans (listText_mem_le ht) hz')
    have r : Reads h₀ (.ref a) (.list xs) _ := .list h1 h2 h3 h4
    have hna : a ∉ bs := not_mem_of_deeper r (by simp only [PyData.depth]; omega) hb
    simp only [PyData.depth] at hu
    simp only [PyData.shown] at hQ
    obtain ⟨l⟩ := vs
    have hT : s.TypeIs (.ref a) "list" := ⟨_, hk0 _ _ h1, h2⟩
    refine call_repr_slot (by omega) hT F.slot_list_repr.toG ?_
    cases l with
    | nil =>
      have h4' : ReadsAll h₀ [] xs _ := h4
      cases h4'
      simp only [PyData.shownAll, listText_nil] at hQ
      exact call_list_repr_empty hT (hk0 _ _ h1) h3 ⟨_, _, rfl, hQ s.heap _ _ fun _ _ e => e⟩
    | cons x l =>
      exact call_list_reprK (g := []) h1 h2 h3 hna (by simpa using hk.length_eq) (fun i y e => hk.item i y (by simpa using e)) hg (fun b _ => Clear.nil b) (by show A.units + 1 + _ < cLine; omega) hk0 (fun h' u tk hk' => ⟨_, _, rfl, hQ h' u tk hk'⟩) hz'
  | @tuple a o vs n xs as1 h1 h2 h3 h4 =>
    have hz' : (tupleText (PyData.shownAll xs)).length ≤ sizeLine := by simpa only [PyData.shown] using hz
    obtain ⟨bs, hb, hk⟩ := ReprAllK.of_readsAll (prog := prog) (w := w) h4 (by simpa [PyData.showable] using hs) (fun hx => hsm (by simpa [PyData.hasDict] using hx)) (fun t ht => Nat.le_trans (tupleText_mem_le ht) hz')
    have r : Reads h₀ (.ref a) (.tuple xs) _ := .tuple h1 h2 h3 h4
    have hna : a ∉ bs := not_mem_of_deeper r (by simp only [PyData.depth]; omega) hb
    simp only [PyData.depth] at hu
    simp only [PyData.shown] at hQ
    have hT : s.TypeIs (.ref a) "tuple" := ⟨_, hk0 _ _ h1, h2⟩
    refine call_repr_slot (by omega) hT F.slot_tuple_repr ?_
    exact call_tuple_reprK (g := []) h1 h2 h3 hna hk hg (fun b _ => Clear.nil b) (by show A.units + 1 + _ < cLine; omega) hk0 (fun h' u tk hk' => ⟨_, _, rfl, hQ h' u tk hk'⟩) hz'
end
end CW

namespace CW
open PySem PySem.Spec PyProof.Rows L2 HT
/-! t[::-1] -/
section
variable {prog : Program} {w : World} {A : Around} {E : Value → Shared → Prop} {s : Shared}
theorem adjust_rev (n : Nat) : Builtin.Slice.sliceAdjust none none (-1) (n : Int) = ((n : Int) - 1, -1) := by
  unfold Builtin.Slice.sliceAdjust
  simp
theorem places_rev (n : Nat) : Builtin.Slice.slicePlaces ((n : Int) - 1) (-1) (-1) = n := by
  unfold Builtin.Slice.slicePlaces
  have h1 : ¬ ((-1 : Int) > 0) := by omega
  simp only [h1, if_false]
  simp
  split <;> omega
theorem pick_rev (xs : Array Value) : ((List.range xs.size).filterMap fun (k : Nat) => xs[((xs.size : Int) - 1 + (k : Int) * (-1)).toNat]?).toArray = xs.toList.reverse.toArray := by
  have h := PySem.W.krv_pick xs
  unfold slicePick at h
  rw [PySem.W.krv_bounds] at h
  rw [← h]
  show _ = ((sliceRange ((xs.size : Int) - 1) (-1) (-1)).filterMap (xs[·]?)).toArray
  rw [PySem.W.krv_sliceRange, List.filterMap_map]
  have fm : ∀ (l : List Nat) (f g : Nat → Option Value), (∀ k ∈ l, f k = g k) → l.filterMap f = l.filterMap g := by
    intro l f g
    induction l with
    | nil => intro _; rfl
    | cons a l ih =>
      intro h
      rw [List.filterMap_cons, List.filterMap_cons, h a (List.mem_cons_self ..), ih (fun k hk => h k (List.mem_cons_of_mem _ hk))]
  congr 1
  refine fm _ _ _ fun k hk => ?_
  have hk' := List.mem_range.mp hk
  have e : ((xs.size : Int) - 1 + (k : Int) * (-1)).toNat = xs.size - 1 - k := by omega
  show xs[_]? = xs[xs.size - 1 - k]?
  rw [e]
theorem getItem_tuple_rev {t sl : Addr} {items : Array Value} {vl vu vs : Value} {Q : Value → Shared → Prop} (ht : IsTup s.heap t items) (hs : s.heap.IsSliceOf sl vl vu vs) (pl : IsPart vl none) (pu : IsPart vu none) (ps : IsPart vs (some (-1)))
    (h : Q (.ref s.heap.objs.size) { s with heap := s.heap.push { cls := .type "tuple", data := .seq items.toList.reverse.toArray } }) (hsz : items.size ≤ sizeLine) : wpAny (model prog w) A (getItem (.ref t) (.ref sl)) Q E s := by
  have htake : sizeOk (.seq items.toList.reverse.toArray) := by
    show items.toList.reverse.toArray.size ≤ sizeLine
    rw [List.size_toArray, List.length_reverse, Array.length_toList]
    exact hsz
  obtain ⟨os, hos, hcs, hds⟩ := id hs
  have hTs : s.TypeIs (.ref sl) "slice" := ⟨os, hos, hcs⟩
  unfold getItem
  try with_reducible refine wpAny_holding ?_
  first | refine wpAny_bind (wpAny_pure ?_) | skip
  refine wpAny_bind (wpAny_sequenceKey ht.typeIs (by decide) ?_)
  refine wpAny_bind (wpAny_callSpecial?_slot (name := Str.ofString "__getitem__") ht.typeIs PyProof.Rows.slot_tuple_getitem
    (wpAny_call_entry PyProof.Rows.slot_tuple_getitem ht.typeIs entry_tuple_getitem ?_ (args_tuple_getitem _ _)))
  show wpAny _ _ (Builtin.Tuple.tupleItemsOf (.ref t) >>= _) _ _ s
  refine wpAny_bind (tupleItemsOf_ ht ?_)
  refine wpAny_bind (wpAny_typeOf hTs ?_)
  rw [if_pos (by decide)]
  have sa : ∀ {Q : Int × Int × Nat → Shared → Prop}, Q ((items.size : Int) - 1, -1, items.size) s → wpAny (model prog w) A.in1 (Builtin.Slice.sliceApplied (.ref sl) (pure (items.size : Int))) Q (fun e s' => E e s') s := by
    intro Q hq
    unfold Builtin.Slice.sliceApplied Builtin.Slice.sliceFields
    refine wpAny_bind (wpAny_bind (wpAny_field hos hds (x := vl) rfl (wpAny_bind (wpAny_field hos hds (x := vu) rfl (wpAny_bind (wpAny_field hos hds (x := vs) rfl (wpAny_pure ?_)))))))
    refine wpAny_bind (slicePart_ ps ?_)
    show wpAny _ _ (if ((-1 : Int) == 0) = true then _ else _) _ _ s
    rw [if_neg (by decide)]
    refine wpAny_bind (slicePart_ pl (wpAny_bind (slicePart_ pu (wpAny_bind (wpAny_pure ?_)))))
    show wpAny _ _ (match Builtin.Slice.sliceAdjust none none (-1) (items.size : Int) with | (lo, hi) => pure (lo, (-1 : Int), Builtin.Slice.slicePlaces lo hi (-1))) _ _ s
    rw [adjust_rev]
    show wpAny _ _ (pure ((items.size : Int) - 1, (-1 : Int), Builtin.Slice.slicePlaces ((items.size : Int) - 1) (-1) (-1))) _ _ s
    rw [places_rev]
    exact wpAny_pure hq
  refine wpAny_bind (sa ?_)
  have hno : ¬ ((((items.size : Int) - 1) == 0 && (-1 : Int) == 1 && items.size == items.size) = true) := by
    intro q
    rw [Bool.and_eq_true, Bool.and_eq_true] at q
    exact absurd q.1.2 (by decide)
  show wpAny _ _ (if (((items.size : Int) - 1) == 0 && (-1 : Int) == 1 && items.size == items.size) = true then _ else _) _ _ s
  rw [if_neg hno, pick_rev]
  first
    | exact wpAny_bind (m := Builtin.Tuple.tupleExact _) (wpAny_newObj_type (wpAny_pure ⟨_, rfl, wpAny_pure h⟩) htake)
    | exact wpAny_bind (m := Builtin.Tuple.tupleExact _) (wpAny_newObj_type (wpAny_bind (wpAny_pure (wpAny_pure ⟨_, rfl, wpAny_pure h⟩))) htake)
    | exact wpAny_bind (wpAny_bind (m := Builtin.Tuple.tupleExact _) (wpAny_newObj_type (wpAny_pure (wpAny_pure ⟨_, rfl, wpAny_pure h⟩)) htake))
    | exact wpAny_bind (wpAny_bind (m := Builtin.Tuple.tupleExact _) (wpAny_newObj_type (wpAny_pure ⟨_, rfl, wpAny_pure h⟩) htake))
end
section
variable {X : Cx} {K : PySem.W.Frag} {mg : Str → Option Value}
def tRevT (K : PySem.W.Frag) (te : TE) : TE := fun σ H Q => te σ H fun x H1 => ∃ a xs, x = .ref a ∧ SqT K H1 a xs ∧ ∀ p, H1 p = none → Q (.ref p) (upd H1 p (.tup xs.reverse))
theorem pe_revT {e : Expr} {te : TE} {k : Nat} {p1 p2 p3 pos : Pos} (he : PE X e te) : PE X (.Subscript e (.Slice none none (some (.UnaryOp .USub (.Constant (.int 1) k p1) p2)) p3) pos) (tRevT X.K te) := by
  refine ⟨fun pins s σ H Q I h => ?_⟩
  refine Subscript_ (thn (he.run pins s σ H _ I h) fun v s1 ⟨x, H1, I1, r1, q1⟩ => ?_)
  obtain ⟨a, xs, ex, hx, q⟩ := q1
  subst ex
  cases r1
  have hst : PO X (some (.UnaryOp .USub (.Constant (.int 1) k p1) p2)) (tPart (tUn (rU fun i => .int (-i)) (tC (.int 1)))) := po_some (pe_un un_neg pe_int)
  refine wpAny_Slice (thn (po_none.run pins s1 σ H1 (fun o H2 => o = none ∧ H2 = H1) I1 ⟨rfl, rfl⟩) fun vl s2 ⟨l, H2, I2, pl, el, e2⟩ => ?_)
  subst el e2
  refine thn (po_none.run pins s2 σ H2 (fun o H3 => o = none ∧ H3 = H2) I2 ⟨rfl, rfl⟩) fun vu s3 ⟨u, H3, I3, pu, eu, e3⟩ => ?_
  subst eu e3
  refine thn (hst.run pins s3 σ H3 (fun o H4 => o = some (-1) ∧ H4 = H3) I3 ⟨1, rfl, -1, rfl, rfl, rfl⟩) fun vs s4 ⟨o, H4, I4, ps, eo, e4⟩ => ?_
  subst eo e4
  have I5 : Inv X pins σ H4 { s4 with heap := s4.heap.push { cls := .type "slice", data := .fields #[vl, vu, vs] } } := I4.kept (t' := s4.toks) fun b ob q => Heap.get?_push_of_some _ q
  obtain ⟨its, r, ht, hz⟩ := I5.tuple hx
  have hlen := r.length
  show wpAny (model X.prog X.w) X.A (subscriptTail e (.Slice none none (some (.UnaryOp .USub (.Constant (.int 1) k p1) p2)) p3) (.ref a) (.ref s4.heap.objs.size)) (EP X pins σ Q) X.xe { s4 with heap := s4.heap.push { cls := .type "slice", data := .fields #[vl, vu, vs] } }
  refine tail_any (ops := [.ref a, .ref s4.heap.objs.size]) ht.typeIs (PyProof.Rows.slot_tuple_getitem.lookup) ?_ (by with_unfolding_all rfl)
  refine getItem_tuple_rev ht (Heap.IsSliceOf.new _ vl vu vs) pl pu ps ?_ (by rw [List.size_toArray, ← hlen]; exact hz)
  refine ⟨.ref _, _, I5.laid (t' := s4.toks) (o := .tup xs.reverse) (fun b ob q => Heap.get?_push_of_some _ q) (Nat.le_refl _) ?_, rfl, q _ (I5.hok.fresh (Nat.le_refl _))⟩
  exact ⟨by rw [List.length_reverse]; exact hz, _, r.reverse, IsTup.new _ _⟩
theorem pe_either {e : Expr} {t t' : TE} (h : PE X e t) (h' : PE X e t') : PE X e (fun σ H Q => t σ H Q ∨ t' σ H Q) := ⟨fun pins s σ H Q I q => q.elim (h.run pins s σ H Q I) (h'.run pins s σ H Q I)⟩
def fRev : PyData → Res Sl
  | .list xs => .ok (.own xs.reverse)
  | .tuple xs => .ok (.val (.tuple xs.reverse))
  | _ => .no
def mUnN (f : PyData → Res Sl) (m : ME) : MN := fun δ => match m δ with
  | .ok (d, δ1) => (match f d with
    | .ok s => .ok (s, δ1)
    | .err c d => .err c d
    | .no => .no)
  | .err c d => .err c d
  | .no => .no
theorem sn_rev {t : TE} {m : ME} (h : SndE K mg t m) : SndN K mg (fun σ H Q => tRevL K t σ H Q ∨ tRevT K t σ H Q) (mUnN fRev m) := fun {ρ Fr F δ σ H s δ'} r e {Q} q => by
  unfold mUnN at e
  split at e
  · rename_i d δ1 e1
    split at e
    · rename_i s' e2
      cases e
      unfold fRev at e2
      split at e2
      · cases e2
        refine .inl (h r e1 fun F1 v H1 s1 r1 d1 => ?_)
        cases d1 with
        | lst hs da => exact ⟨_, _, rfl, sqL_mono r1.sub hs, fun p hp => q F1 _ _ s1 (r1.temp hp (dpa_rev da))⟩
      · cases e2
        refine .inr (h r e1 fun F1 v H1 s1 r1 d1 => ?_)
        cases d1 with
        | tup hs da => exact ⟨_, _, rfl, sqT_mono r1.sub hs, fun p hp => q _ _ _ (s1.trans (same_upd (r1.fF hp))) ((r1.frz hp).tval (.tup (SqT.of upd_same) ((dpa_rev da).up (same_upd (r1.fF hp)))))⟩
      · cases e2
    · cases e
    · cases e
  · cases e
  · cases e
theorem rn_rev {e : Expr} {t : TE} {m : ME} {k : Nat} {p1 p2 p3 pos : Pos} (h : RE X e t m) : RN X (.Subscript e (.Slice none none (some (.UnaryOp .USub (.Constant (.int 1) k p1) p2)) p3) pos) (fun σ H Q => tRevL X.K t σ H Q ∨ tRevT X.K t σ H Q) (mUnN fRev m) :=
  ⟨pe_either (pe_revL h.pe) (pe_revT h.pe), sn_rev h.sn⟩
end
end CW

namespace CW
open PySem PySem.Spec PyProof.Rows L2
/-! sorted(xs[, reverse=b]) of alike data -/
def tup1 : PyData → Bool
  | .tuple (_ :: _) => true
  | _ => false
def notTup : PyData → Bool
  | .none => false
  | .tuple _ => false
  | _ => true
def sortOk (xs : List PyData) : Bool := xs.all (fun d => xs.all fun d' => W.alike d d') && (xs.all tup1 || xs.all notTup) && xs.all (fun d => decide (d.depth ≤ 60))
theorem sortOk_alike {xs : List PyData} (h : sortOk xs = true) : W.AllAlike xs := fun d hd d' hd' => by
  unfold sortOk at h
  rw [Bool.and_eq_true, Bool.and_eq_true, List.all_eq_true] at h
  exact List.all_eq_true.mp (h.1.1 d hd) d' hd'
theorem sortOk_able {xs : List PyData} (h : sortOk xs = true) : W.Sortable xs := by
  unfold sortOk at h
  rw [Bool.and_eq_true, Bool.and_eq_true, Bool.or_eq_true, List.all_eq_true, List.all_eq_true, List.all_eq_true] at h
  rcases h.1.2 with h | h
  · refine .inl fun d hd => ?_
    have z := h d hd
    cases d with
    | tuple ys =>
      cases ys with
      | nil => cases z
      | cons x r => exact ⟨x, r, rfl⟩
    | _ => cases z
  · refine .inr fun d hd => ?_
    have z := h d hd
    cases d with
    | none => cases z
    | tuple ys => cases z
    | _ => exact ⟨fun e => (nomatch e), fun _ e => (nomatch e)⟩
mutual
theorem alike_noDict : ∀ d : PyData, W.alike d d = true → d.hasDict = false
  | .none, _ => rfl
  | .bool _, _ => rfl
  | .int _, _ => rfl
  | .str _, _ => rfl
  | .list xs, h => by simp only [PyData.hasDict]; exact alikeAll_noDict xs (by simpa [W.alike] using h)
  | .tuple xs, h => by simp only [PyData.hasDict]; exact alikeAll_noDict xs (by simpa [W.alike] using h)
  | .dict _, h => by simp [W.alike] at h
theorem alikeAll_noDict : ∀ ds : List PyData, W.alikeAll ds ds = true → PyData.hasDictAll ds = false
  | [], _ => rfl
  | d :: ds, h => by
    simp only [W.alikeAll, Bool.and_eq_true] at h
    simp only [PyData.hasDictAll, alike_noDict d h.1, alikeAll_noDict ds h.2, Bool.or_false]
end
theorem sortOk_noDict {xs : List PyData} (h : sortOk xs = true) : ∀ d ∈ xs, d.hasDict = false := fun d hd => alike_noDict d (sortOk_alike h d hd d hd)
theorem each_mem {α β : Type} {R : α → β → Prop} : ∀ {as : List α} {bs : List β}, W.EachIs R as bs → W.EachIs (fun a b => R a b ∧ b ∈ bs) as bs
  | _, _, .nil => .nil
  | _, _, .cons h t => .cons ⟨h, List.mem_cons_self ..⟩ ((each_mem t).mono fun _ _ q => ⟨q.1, List.mem_cons_of_mem _ q.2⟩)
theorem sortOk_depth {xs : List PyData} (h : sortOk xs = true) : ∀ d ∈ xs, d.depth ≤ 60 := fun d hd => by
  unfold sortOk at h
  rw [Bool.and_eq_true] at h
  exact of_decide_eq_true (List.all_eq_true.mp h.2 d hd)
section
variable {X : Cx}
theorem each_dp {K : PySem.W.Frag} {H : Hp} : ∀ {xs : List V} {us : List Value} {ds : List PyData}, Vals xs us → DpAll K H xs ds → W.EachIs (fun u d => ∃ x, RelV x u ∧ Dp K H x d) us ds
  | [], _, _, r, d => by cases r; cases d; exact .nil
  | x :: xs, _, _, r, d => by
    cases r with
    | cons r1 r2 => cases d with
      | cons d1 d2 => exact .cons ⟨x, r1, d1⟩ (each_dp r2 d2)
theorem dp_each {K : PySem.W.Frag} {H : Hp} : ∀ {us : List Value} {ds : List PyData}, W.EachIs (fun u d => ∃ x, RelV x u ∧ Dp K H x d) us ds → ∃ xs, Vals xs us ∧ DpAll K H xs ds
  | _, _, .nil => ⟨[], .nil, .nil⟩
  | _, _, .cons ⟨x, r, d⟩ t => by
    obtain ⟨xs, r2, d2⟩ := dp_each t
    exact ⟨x :: xs, .cons r r2, .cons d d2⟩
def rSortedD (K : PySem.W.Frag) : List V → Hp → VK → Prop := fun vs H Q => ∃ (F : Hp) (a : Addr) (xs : List V) (ds : List PyData), Same F H ∧ vs = [V.ref a] ∧ SqL K H a xs ∧ DpAll K F xs ds ∧ sortOk ds = true ∧
  ∀ (ys : List V) (p : Addr), DpAll K F ys (ds.mergeSort (W.dataLe false id)) → H p = none → Q (.ref p) (upd H p (.lst ys))
def rSortedRD (K : PySem.W.Frag) : List V → List V → Hp → VK → Prop := fun vs ws H Q => ∃ (F : Hp) (a : Addr) (xs : List V) (ds : List PyData) (b : Bool), Same F H ∧ vs = [V.ref a] ∧ ws = [V.bl b] ∧ SqL K H a xs ∧ DpAll K F xs ds ∧ sortOk ds = true ∧
  ∀ (ys : List V) (p : Addr), DpAll K F ys (ds.mergeSort (W.dataLe b id)) → H p = none → Q (.ref p) (upd H p (.lst ys))
theorem cr_sortedD (hu : X.A.units + 64 < cLine) : CallR X (.builtin "sorted") (rSortedD X.K) := by
  intro pins s σ H vs us Q I r h
  obtain ⟨F, a, xs, ds, sm, rfl, hs, da, ok, q⟩ := h
  obtain ⟨its, rv, hl, hz⟩ := I.list hs
  rw [Vals.ref1 r]
  have e := each_dp rv da
  have er : W.EachIs (fun v b => ∃ as, Reads s.heap v (id b) as) its ds := (each_mem e).mono fun v d ⟨⟨x, r1, d1⟩, hm⟩ => L2.Dp.reads I d x v (dp_old _ _ (d1.up sm) (sortOk_noDict ok d hm)) r1
  have lds : ds.length = its.length := e.length.symm
  refine W.sorted_data (bs := ds) (enc := id) hl.isList e er (by rw [List.map_id]; exact sortOk_alike ok) (by rw [List.map_id]; exact sortOk_able ok) (by rw [lds, ← rv.length]; exact hz) (fun d hd => by have := sortOk_depth ok d hd; show X.A.units + 2 + d.depth < cLine; omega) fun out ho eo => ?_
  obtain ⟨ys, r2, d2⟩ := dp_each eo
  obtain ⟨ep, he'⟩ := PyProof.Rows.sortedAll_at s.heap its out.toArray
  have hlen : ys.length ≤ sizeLine := by
    rw [r2.length, ho, lds, ← rv.length]; exact hz
  exact ⟨.ref _, upd H (s.heap.objs.size + 1) (.lst ys), I.laid (t' := s.toks) (fun _ _ => PyProof.Rows.sortedAll_old) (Nat.le_succ _) ⟨hlen, out, ep, r2, he'⟩, rfl, q _ _ d2 (I.hok.fresh (Nat.le_succ _))⟩
theorem cr_sortedRD (hu : X.A.units + 64 < cLine) : CallRK X (.builtin "sorted") [Str.ofString "reverse"] (rSortedRD X.K) := by
  intro pins s σ H vs ws us zs Q I r rw_ h
  obtain ⟨F, a, xs, ds, b, sm, rfl, rfl, hs, da, ok, q⟩ := h
  obtain ⟨its, rv, hl, hz⟩ := I.list hs
  rw [Vals.ref1 r]
  obtain ⟨u, rfl, rb⟩ := vals1 rw_
  cases rb
  have e := each_dp rv da
  have er : W.EachIs (fun v b => ∃ as, Reads s.heap v (id b) as) its ds := (each_mem e).mono fun v d ⟨⟨x, r1, d1⟩, hm⟩ => L2.Dp.reads I d x v (dp_old _ _ (d1.up sm) (sortOk_noDict ok d hm)) r1
  have lds : ds.length = its.length := e.length.symm
  refine W.sorted_rev_data (bs := ds) (enc := id) hl.isList e er (by rw [List.map_id]; exact sortOk_alike ok) (by rw [List.map_id]; exact sortOk_able ok) (by rw [lds, ← rv.length]; exact hz) (fun d hd => by have := sortOk_depth ok d hd; show X.A.units + 2 + d.depth < cLine; omega) fun out ho eo => ?_
  obtain ⟨ys, r2, d2⟩ := dp_each eo
  obtain ⟨ep, he'⟩ := PyProof.Rows.sortedAll_at s.heap its out.toArray
  have hlen : ys.length ≤ sizeLine := by
    rw [r2.length, ho, lds, ← rv.length]; exact hz
  exact ⟨.ref _, upd H (s.heap.objs.size + 1) (.lst ys), I.laid (t' := s.toks) (fun _ _ => PyProof.Rows.sortedAll_old) (Nat.le_succ _) ⟨hlen, out, ep, r2, he'⟩, rfl, q _ _ d2 (I.hok.fresh (Nat.le_succ _))⟩
end
end CW

namespace CW
open PySem PySem.Spec PyProof.Rows L2
section
variable {X : Cx} {K : PySem.W.Frag} {mg : Str → Option Value}
theorem callR_or {f : Value} {r r' : List V → Hp → VK → Prop} (h : CallR X f r) (h' : CallR X f r') : CallR X f (fun xs H Q => r xs H Q ∨ r' xs H Q) := fun pins s σ H xs us Q I rv q => q.elim (h pins s σ H xs us Q I rv) (h' pins s σ H xs us Q I rv)
def isSeq : PyData → Bool
  | .list _ => true
  | .tuple _ => true
  | _ => false
/-! len -/
def fLen : List PyData → Res Sl
  | [.list xs] => .ok (.val (.int (xs.length : Nat)))
  | [.tuple xs] => .ok (.val (.int (xs.length : Nat)))
  | [.str z] => if z.length ≤ sizeLine then .ok (.val (.int (z.length : Nat))) else .no
  | _ => .no
def rLenA (K : PySem.W.Frag) : List V → Hp → VK → Prop := fun xs H Q => (∃ p ys, xs = [.ref p] ∧ (SqL K H p ys ∨ SqT K H p ys) ∧ Q (.int ys.length) H) ∨ (∃ z, xs = [.str z] ∧ z.length ≤ sizeLine ∧ Q (.int z.length) H)
theorem call_lenA : CallR X (.builtin "len") (rLenA X.K) := callR_or call_len_seq call_len_str
theorem calln_len : CallN K mg (rLenA K) fLen := fun {ρ Fr F δ σ H vs ds s} r dv e {Q} q => by
  unfold fLen at e
  split at e
  · cases e
    cases dv with
    | cons d1 d2 =>
      cases d2
      cases d1 with
      | lst hs da => exact .inl ⟨_, _, rfl, .inl (sqL_mono r.sub hs), by rw [dpa_len da]; exact q F _ H (Same.refl _) (r.tval (.int _))⟩
  · cases e
    cases dv with
    | cons d1 d2 =>
      cases d2
      cases d1 with
      | tup hs da => exact .inl ⟨_, _, rfl, .inr (sqT_mono r.sub hs), by rw [dpa_len da]; exact q F _ H (Same.refl _) (r.tval (.int _))⟩
  · split at e
    · rename_i z hz
      cases e
      cases dv with
      | cons d1 d2 =>
        cases d2; cases d1
        exact .inr ⟨_, rfl, hz, q F _ H (Same.refl _) (r.tval (.int _))⟩
    · cases e
  · cases e
/-! list(..), tuple(..) of a list or a tuple -/
def fListOf : List PyData → Res Sl
  | [.list xs] => .ok (.own xs)
  | [.tuple xs] => .ok (.own xs)
  | _ => .no
def rListOf (K : PySem.W.Frag) : List V → Hp → VK → Prop := fun xs H Q => ∃ p ys, xs = [.ref p] ∧ (SqL K H p ys ∨ SqT K H p ys) ∧ ∀ l, H l = none → Q (.ref l) (upd H l (.lst ys))
theorem calln_list : CallN K mg (rListOf K) fListOf := fun {ρ Fr F δ σ H vs ds s} r dv e {Q} q => by
  unfold fListOf at e
  split at e
  · cases e
    cases dv with
    | cons d1 d2 =>
      cases d2
      cases d1 with
      | lst hs da => exact ⟨_, _, rfl, .inl (sqL_mono r.sub hs), fun l hl => q F _ _ (Same.refl _) (r.temp hl da)⟩
  · cases e
    cases dv with
    | cons d1 d2 =>
      cases d2
      cases d1 with
      | tup hs da => exact ⟨_, _, rfl, .inr (sqT_mono r.sub hs), fun l hl => q F _ _ (Same.refl _) (r.temp hl da)⟩
  · cases e
def fTupOf : List PyData → Res Sl
  | [.list xs] => .ok (.val (.tuple xs))
  | [.tuple xs] => .ok (.val (.tuple xs))
  | _ => .no
def rTupOf (K : PySem.W.Frag) : List V → Hp → VK → Prop := fun xs H Q => ∃ p ys, xs = [.ref p] ∧ ((SqL K H p ys ∧ ∀ l, H l = none → Q (.ref l) (upd H l (.tup ys))) ∨ (SqT K H p ys ∧ Q (.ref p) H))
theorem calln_tuple : CallN K mg (rTupOf K) fTupOf := fun {ρ Fr F δ σ H vs ds s} r dv e {Q} q => by
  unfold fTupOf at e
  split at e
  · cases e
    cases dv with
    | cons d1 d2 =>
      cases d2
      cases d1 with
      | lst hs da => exact ⟨_, _, rfl, .inl ⟨sqL_mono r.sub hs, fun l hl => q _ _ _ (same_upd (r.fF hl)) ((r.frz hl).tval (.tup (SqT.of upd_same) (da.up (same_upd (r.fF hl)))))⟩⟩
  · cases e
    cases dv with
    | cons d1 d2 =>
      cases d2
      cases d1 with
      | tup hs da => exact ⟨_, _, rfl, .inr ⟨sqT_mono r.sub hs, q F _ H (Same.refl _) (r.tval (.tup hs da))⟩⟩
  · cases e
/-! int(..) -/
def fInt : List PyData → Res Sl
  | [.int i] => .ok (.val (.int i))
  | [.bool b] => .ok (.val (.int (if b then 1 else 0)))
  | _ => .no
def rIntA : List V → Hp → VK → Prop := fun xs H Q => (∃ i, xs = [.int i] ∧ Q (.int i) H) ∨ ∃ k, xs = [.bl k] ∧ Q (.int (if k then 1 else 0)) H
theorem calln_int : CallN K mg rIntA fInt := fun {ρ Fr F δ σ H vs ds s} r dv e {Q} q => by
  unfold fInt at e
  split at e
  · cases e
    cases dv with
    | cons d1 d2 =>
      cases d2; cases d1
      exact .inl ⟨_, rfl, q F _ H (Same.refl _) (r.tval (.int _))⟩
  · cases e
    cases dv with
    | cons d1 d2 =>
      cases d2; cases d1
      exact .inr ⟨_, rfl, q F _ H (Same.refl _) (r.tval (.int _))⟩
  · cases e
/-! max, min of two ints; of a list of ints -/
def intsOf : List PyData → Option (List Int)
  | [] => some []
  | .int i :: ds => (intsOf ds).map (i :: ·)
  | _ :: _ => none
theorem intsOf_map : ∀ {ds : List PyData} {ns : List Int}, intsOf ds = some ns → ds = ns.map .int
  | [], ns, h => by cases h; rfl
  | d :: ds, ns, h => by
    cases d with
    | int i =>
      have h' : (intsOf ds).map (i :: ·) = some ns := h
      cases q : intsOf ds with
      | none => rw [q] at h'; cases h'
      | some ms =>
        rw [q] at h'
        cases h'
        rw [intsOf_map q]; rfl
    | _ => cases h
theorem intsOf_ints : ∀ ns : List Int, intsOf (ns.map .int) = some ns
  | [] => rfl
  | n :: ns => by
    show (intsOf (ns.map .int)).map (n :: ·) = _
    rw [intsOf_ints ns]; rfl
def fMax2 : List PyData → Res Sl
  | [.int i, .int j] => .ok (.val (.int (if j > i then j else i)))
  | _ => .no
def fMin2 : List PyData → Res Sl
  | [.int i, .int j] => .ok (.val (.int (if j < i then j else i)))
  | _ => .no
def rMaxP : List V → Hp → VK → Prop := fun xs H Q => ∃ i j, xs = [.int i, .int j] ∧ Q (.int (if j > i then j else i)) H
def rMinP : List V → Hp → VK → Prop := fun xs H Q => ∃ i j, xs = [.int i, .int j] ∧ Q (.int (if j < i then j else i)) H
theorem calln_max2 : CallN K mg rMaxP fMax2 := fun {ρ Fr F δ σ H vs ds s} r dv e {Q} q => by
  unfold fMax2 at e
  split at e
  · cases e
    cases dv with
    | cons d1 d2 =>
      cases d2 with
      | cons d3 d4 =>
        cases d4; cases d1; cases d3
        exact ⟨_, _, rfl, q F _ H (Same.refl _) (r.tval (.int _))⟩
  · cases e
theorem calln_min2 : CallN K mg rMinP fMin2 := fun {ρ Fr F δ σ H vs ds s} r dv e {Q} q => by
  unfold fMin2 at e
  split at e
  · cases e
    cases dv with
    | cons d1 d2 =>
      cases d2 with
      | cons d3 d4 =>
        cases d4; cases d1; cases d3
        exact ⟨_, _, rfl, q F _ H (Same.refl _) (r.tval (.int _))⟩
  · cases e
def maxL : List Int → Int
  | [] => 0
  | [n] => n
  | n :: ns => max n (maxL ns)
def minL : List Int → Int
  | [] => 0
  | [n] => n
  | n :: ns => min n (minL ns)
theorem maxL_le : ∀ {ns : List Int} {y : Int}, y ∈ ns → y ≤ maxL ns
  | [n], y, h => by simp at h; subst h; exact Int.le_refl _
  | n :: m :: ns, y, h => by
    show y ≤ max n (maxL (m :: ns))
    rcases List.mem_cons.mp h with h | h
    · subst h; exact Int.le_max_left ..
    · exact Int.le_trans (maxL_le h) (Int.le_max_right ..)
theorem minL_le : ∀ {ns : List Int} {y : Int}, y ∈ ns → minL ns ≤ y
  | [n], y, h => by simp at h; subst h; exact Int.le_refl _
  | n :: m :: ns, y, h => by
    show min n (minL (m :: ns)) ≤ y
    rcases List.mem_cons.mp h with h | h
    · subst h; exact Int.min_le_left ..
    · exact Int.le_trans (Int.min_le_right ..) (minL_le h)
theorem maxL_mem : ∀ {ns : List Int}, ns ≠ [] → maxL ns ∈ ns
  | [], h => absurd rfl h
  | [n], _ => by simp [maxL]
  | n :: m :: ns, _ => by
    show max n (maxL (m :: ns)) ∈ _
    have ih := maxL_mem (ns := m :: ns) (by simp)
    rcases Int.le_total n (maxL (m :: ns)) with h | h
    · rw [Int.max_eq_right h]; exact List.mem_cons_of_mem _ ih
    · rw [Int.max_eq_left h]; exact List.mem_cons_self ..
theorem minL_mem : ∀ {ns : List Int}, ns ≠ [] → minL ns ∈ ns
  | [], h => absurd rfl h
  | [n], _ => by simp [minL]
  | n :: m :: ns, _ => by
    show min n (minL (m :: ns)) ∈ _
    have ih := minL_mem (ns := m :: ns) (by simp)
    rcases Int.le_total n (minL (m :: ns)) with h | h
    · rw [Int.min_eq_left h]; exact List.mem_cons_self ..
    · rw [Int.min_eq_right h]; exact List.mem_cons_of_mem _ ih
def fMax1 : List PyData → Res Sl
  | [.list xs] => (match intsOf xs with
    | some ns => if ns.isEmpty then .no else .ok (.val (.int (maxL ns)))
    | none => .no)
  | _ => .no
def fMin1 : List PyData → Res Sl
  | [.list xs] => (match intsOf xs with
    | some ns => if ns.isEmpty then .no else .ok (.val (.int (minL ns)))
    | none => .no)
  | _ => .no
theorem dpa_intsOf {F : Hp} {vs : List V} {xs : List PyData} {ns : List Int} (h : DpAll K F vs xs) (e : intsOf xs = some ns) : vs = ns.map .int := by
  rw [intsOf_map e] at h
  exact dpa_ints h
theorem calln_max1 : CallN K mg (rMax K) fMax1 := fun {ρ Fr F δ σ H vs ds s} r dv e {Q} q => by
  unfold fMax1 at e
  split at e
  · split at e
    · rename_i xs ns e1
      split at e
      · cases e
      · rename_i hne
        cases e
        cases dv with
        | cons d1 d2 =>
          cases d2
          cases d1 with
          | lst hs da =>
            have hne' : ns ≠ [] := fun z => hne (by rw [z]; rfl)
            rw [dpa_intsOf da e1] at hs
            refine ⟨_, ns, rfl, sqL_mono r.sub hs, List.length_pos_iff.mpr hne', fun m h1 h2 => ?_⟩
            have em : m = maxL ns := Int.le_antisymm (maxL_le h1) (h2 _ (maxL_mem hne'))
            rw [em]
            exact q F _ H (Same.refl _) (r.tval (.int _))
    · cases e
  · cases e
theorem calln_min1 : CallN K mg (rMin K) fMin1 := fun {ρ Fr F δ σ H vs ds s} r dv e {Q} q => by
  unfold fMin1 at e
  split at e
  · split at e
    · rename_i xs ns e1
      split at e
      · cases e
      · rename_i hne
        cases e
        cases dv with
        | cons d1 d2 =>
          cases d2
          cases d1 with
          | lst hs da =>
            have hne' : ns ≠ [] := fun z => hne (by rw [z]; rfl)
            rw [dpa_intsOf da e1] at hs
            refine ⟨_, ns, rfl, sqL_mono r.sub hs, List.length_pos_iff.mpr hne', fun m h1 h2 => ?_⟩
            have em : m = minL ns := Int.le_antisymm (h2 _ (minL_mem hne')) (minL_le h1)
            rw [em]
            exact q F _ H (Same.refl _) (r.tval (.int _))
    · cases e
  · cases e
/-! sum, sorted of a list of ints -/
def fSum : List PyData → Res Sl
  | [.list xs] => (match intsOf xs with
    | some ns => .ok (.val (.int ns.sum))
    | none => .no)
  | [.tuple xs] => (match intsOf xs with
    | some ns => .ok (.val (.int ns.sum))
    | none => .no)
  | _ => .no
def rSumT (K : PySem.W.Frag) : List V → Hp → VK → Prop := fun vs H Q => ∃ (a : Addr) (ns : List Int), vs = [V.ref a] ∧ SqT K H a (ns.map V.int) ∧ Q (.int ns.sum) H
section
variable {prog : Program} {w : World} {A : Around} {E : Value → Shared → Prop} {s : Shared} {l : Addr} {its : List Value} {ns : List Int} {Q : Value → Shared → Prop}
theorem sum_rawT (hh : A.handled = none) (hl : s.heap.IsTuple l its.toArray) (hi : IntsAre its ns)
    (h : ∀ h' tk t', (∀ b o, s.heap.get? b = some o → h'.get? b = some o) → Q (.int ns.sum t') { s with heap := h', toks := tk }) : wpAny (model prog w) A (call (.builtin "sum") [.ref l]) Q E s := by
  obtain ⟨xs, e⟩ := hi.allInts.items
  have hn : numsOf (intItems xs).toList = ns := by rw [← e]; exact hi.numsOf
  rw [nums_intItems] at hn
  rw [e] at hl
  refine PySem.W.ktm_sumG hh hl fun h' tk t' hk => ?_
  have := h h' tk t' hk
  rw [preSum_eq, List.take_of_length_le (by simp), hn]; exact this
end
theorem cr_sumT (hc : X.calm = true) : CallR X (.builtin "sum") (rSumT X.K) := by
  intro pins s σ H vs us Q I r h
  obtain ⟨a, ns, rfl, hs, q⟩ := h
  obtain ⟨its, rv, pl, _⟩ := I.tuple hs
  rw [Vals.ref1 r]
  exact sum_rawT (I.ok.hd hc) pl rv.ints fun h' tk t' hk => ⟨.int _, H, I.kept hk, ⟨_, rfl⟩, q⟩
def rSumA (K : PySem.W.Frag) : List V → Hp → VK → Prop := fun xs H Q => rSum K xs H Q ∨ rSumT K xs H Q
theorem cr_sumA (hc : X.calm = true) : CallR X (.builtin "sum") (rSumA X.K) := callR_or (cr_sum hc) (cr_sumT hc)
theorem calln_sum : CallN K mg (rSumA K) fSum := fun {ρ Fr F δ σ H vs ds s} r dv e {Q} q => by
  unfold fSum at e
  split at e
  · split at e
    · rename_i xs ns e1
      cases e
      cases dv with
      | cons d1 d2 =>
        cases d2
        cases d1 with
        | lst hs da =>
          rw [dpa_intsOf da e1] at hs
          exact .inl ⟨_, ns, rfl, sqL_mono r.sub hs, q F _ H (Same.refl _) (r.tval (.int _))⟩
    · cases e
  · split at e
    · rename_i xs ns e1
      cases e
      cases dv with
      | cons d1 d2 =>
        cases d2
        cases d1 with
        | tup hs da =>
          rw [dpa_intsOf da e1] at hs
          exact .inr ⟨_, ns, rfl, sqT_mono r.sub hs, q F _ H (Same.refl _) (r.tval (.int _))⟩
    · cases e
  · cases e
def insI (n : Int) : List Int → List Int
  | [] => [n]
  | m :: ms => if n ≤ m then n :: m :: ms else m :: insI n ms
def srtI : List Int → List Int
  | [] => []
  | n :: ns => insI n (srtI ns)
theorem insI_perm (n : Int) : ∀ ms : List Int, (insI n ms).Perm (n :: ms)
  | [] => .refl _
  | m :: ms => by
    unfold insI
    split
    · exact .refl _
    · exact (List.Perm.cons m (insI_perm n ms)).trans (.swap ..)
theorem srtI_perm : ∀ ns : List Int, (srtI ns).Perm ns
  | [] => .refl _
  | n :: ns => (insI_perm n (srtI ns)).trans (List.Perm.cons n (srtI_perm ns))
theorem insI_sorted (n : Int) : ∀ {ms : List Int}, ms.Pairwise (· ≤ ·) → (insI n ms).Pairwise (· ≤ ·)
  | [], _ => by simp [insI]
  | m :: ms, h => by
    unfold insI
    rw [List.pairwise_cons] at h
    split
    · rename_i hn
      refine List.pairwise_cons.mpr ⟨fun y hy => ?_, List.pairwise_cons.mpr h⟩
      rcases List.mem_cons.mp hy with rfl | hy
      · exact hn
      · exact Int.le_trans hn (h.1 y hy)
    · rename_i hn
      refine List.pairwise_cons.mpr ⟨fun y hy => ?_, insI_sorted n h.2⟩
      rcases List.mem_cons.mp ((insI_perm n ms).mem_iff.mp hy) with rfl | hy
      · omega
      · exact h.1 y hy
theorem srtI_sorted : ∀ ns : List Int, (srtI ns).Pairwise (· ≤ ·)
  | [] => .nil
  | n :: ns => insI_sorted n (srtI_sorted ns)
theorem sorted_one {as bs : List Int} (p : as.Perm bs) (ha : as.Pairwise (· ≤ ·)) (hb : bs.Pairwise (· ≤ ·)) : as = bs :=
  p.eq_of_pairwise (fun a b _ _ h1 h2 => Int.le_antisymm h1 h2) ha hb
def fSorted : List PyData → Res Sl
  | [.list xs] => (match intsOf xs with
    | some ns => .ok (.own ((srtI ns).map .int))
    | none => if sortOk xs = true then .ok (.own (xs.mergeSort (W.dataLe false id))) else .no)
  | _ => .no
def rSortedA (K : PySem.W.Frag) : List V → Hp → VK → Prop := fun vs H Q => rSortedI K vs H Q ∨ rSortedD K vs H Q
theorem cr_sortedA (hu : X.A.units + 64 < cLine) : CallR X (.builtin "sorted") (rSortedA X.K) := callR_or cr_sortedI (cr_sortedD hu)
theorem calln_sorted : CallN K mg (rSortedA K) fSorted := fun {ρ Fr F δ σ H vs ds s} r dv e {Q} q => by
  unfold fSorted at e
  split at e
  · split at e
    · rename_i xs ns e1
      cases e
      cases dv with
      | cons d1 d2 =>
        cases d2
        cases d1 with
        | lst hs da =>
          rw [dpa_intsOf da e1] at hs
          refine .inl ⟨_, ns, rfl, sqL_mono r.sub hs, fun ns' p hp h1 h2 => ?_⟩
          have em : ns' = srtI ns := sorted_one (hp.trans (srtI_perm ns).symm) h1 (srtI_sorted ns)
          rw [em]
          exact q F _ _ (Same.refl _) (r.temp h2 (dpa_of_ints _))
    · split at e
      · rename_i xs ns ok
        cases e
        cases dv with
        | cons d1 d2 =>
          cases d2
          cases d1 with
          | lst hs da =>
            exact .inr ⟨F, _, _, _, r.sub, rfl, sqL_mono r.sub hs, da, ok, fun ys p h1 h2 => q F _ _ (Same.refl _) (r.temp h2 h1)⟩
      · cases e
  · cases e
/-! sorted(xs, reverse=b) -/
def mSortR (as ak : MA) : MN := fun δ => match as δ with
  | .ok (ds, δ1) => (match ak δ1 with
    | .ok (es, δ2) => (match ds, es with
      | [.list xs], [.bool b] => if sortOk xs = true then .ok (.own (xs.mergeSort (W.dataLe b id)), δ2) else .no
      | _, _ => .no)
    | .err c d => .err c d
    | .no => .no)
  | .err c d => .err c d
  | .no => .no
theorem sn_sortR {t tk : TA} {as ak : MA} (ha : SndA K mg t as) (hk : SndA K mg tk ak) : SndN K mg (tCKw (rSortedRD K) t tk) (mSortR as ak) := fun {ρ Fr F δ σ H d δ'} r e {Q} q => by
  unfold mSortR at e
  split at e
  · rename_i ds δ1 e1
    split at e
    · rename_i es δ2 e2
      split at e
      · rename_i xs b
        split at e
        · rename_i ok
          cases e
          refine ha r e1 fun F1 vs H1 s1 r1 d1 => hk r1 e2 fun F2 ws H2 s2 r2 d2 => ?_
          cases d1 with
          | cons d3 d4 =>
            cases d4
            cases d2 with
            | cons d5 d6 =>
              cases d6
              cases d5
              cases d3 with
              | lst hs da =>
                exact ⟨F2, _, _, _, _, r2.sub, rfl, rfl, sqL_mono (s2.trans r2.sub) hs, da.up s2, ok, fun ys p h1 h2 => q F2 _ _ (s1.trans s2) (r2.temp h2 h1)⟩
        · cases e
      · cases e
    · cases e
    · cases e
  · cases e
  · cases e
/-! divmod -/
def fDivmod : List PyData → Res Sl
  | [.int i, .int j] => if 0 < j ∧ Builtin.divisionGoesByPylong i j = false then .ok (.val (.tuple [.int (i / j), .int (i % j)])) else .no
  | _ => .no
def rDivmod : List V → Hp → VK → Prop := fun xs H Q => ∃ i j, xs = [.int i, .int j] ∧ CDivP i j ∧ ∀ p, H p = none → Q (.ref p) (upd H p (.tup [.int (i / j), .int (i % j)]))
theorem calln_divmod : CallN K mg rDivmod fDivmod := fun {ρ Fr F δ σ H vs ds s} r dv e {Q} q => by
  unfold fDivmod at e
  split at e
  · split at e
    · rename_i i j h
      cases e
      cases dv with
      | cons d1 d2 =>
        cases d2 with
        | cons d3 d4 =>
          cases d4; cases d1; cases d3
          exact ⟨i, j, rfl, h, fun p hp => q _ _ _ (same_upd (r.fF hp)) ((r.frz hp).tval (.tup (SqT.of upd_same) (.cons (.int _) (.cons (.int _) .nil))))⟩
    · cases e
  · cases e
/-! repr -/
def fRepr : List PyData → Res Sl
  | [.dict []] => .ok (.val (.str "{}"))
  | [d] => if d.showable = true ∧ d.hasDict = false ∧ d.depth ≤ 60 ∧ d.shown.length ≤ sizeLine then .ok (.val (.str d.shown)) else .no
  | _ => .no
theorem fRepr_go {d : PyData} (h1 : d.showable = true) (h0 : d.hasDict = false) (h2 : d.depth ≤ 60) (h3 : d.shown.length ≤ sizeLine) : fRepr [d] = .ok (.val (.str d.shown)) := by
  cases d with
  | dict kvs => simp [PyData.hasDict] at h0
  | none => simp only [fRepr]; rw [if_pos ⟨h1, h0, h2, h3⟩]
  | bool b => simp only [fRepr]; rw [if_pos ⟨h1, h0, h2, h3⟩]
  | int i => simp only [fRepr]; rw [if_pos ⟨h1, h0, h2, h3⟩]
  | str x => simp only [fRepr]; rw [if_pos ⟨h1, h0, h2, h3⟩]
  | list xs => simp only [fRepr]; rw [if_pos ⟨h1, h0, h2, h3⟩]
  | tuple xs => simp only [fRepr]; rw [if_pos ⟨h1, h0, h2, h3⟩]
def rReprD (K : PySem.W.Frag) : List V → Hp → VK → Prop := fun xs H Q => (∃ x d, xs = [x] ∧ L2.Dp K H x d ∧ d.showable = true ∧ d.depth ≤ 60 ∧ d.shown.length ≤ sizeLine ∧ d.hasDict = false ∧ Q (.str d.shown) H) ∨ ∃ a, xs = [.ref a] ∧ H a = some (.dK []) ∧ Q (.str "{}") H
theorem repr_dict0 {prog : Program} {w : World} {A : Around} {E : Value → Shared → Prop} {s : Shared} {Q : Value → Shared → Prop} {a : Addr} {o : Obj} {n : Nat} (h1 : s.heap.get? a = some o) (h2 : o.cls = .type "dict") (h3 : o.data = .dict #[] n) (hs : (a == sysModules) = false)
    (hg : A.guards = some []) (hu : A.units + 64 < cLine) (hQ : ∀ h' u tk, (∀ b o, s.heap.get? b = some o → h'.get? b = some o) → Q (.str "{}" u) { s with heap := h', toks := tk }) : wpAny (model prog w) A (call (.builtin "repr") [.ref a]) Q E s := by
  refine call_repr_slot (by omega) ⟨_, h1, h2⟩ F.slot_dict_repr ?_
  exact call_dict_reprK (as := []) (h₀ := s.heap) (d := 0) (ps := []) h1 h2 h3 hs (fun z => nomatch z) (ReprEntriesK.of_two [] [] [] .nil .nil) hg (fun b _ => Clear.nil b) (by show A.units + 1 + _ < cLine; omega) (fun _ _ e => e) (fun h' u tk hk' => ⟨_, _, rfl, hQ h' u tk hk'⟩) (by decide +kernel)
theorem call_reprD (hG : X.A.guards = some []) (hu : X.A.units + 64 < cLine) : CallR X (.builtin "repr") (rReprD X.K) := by
  intro pins s σ H xs us Q I rv h
  rcases h with ⟨x, d, rfl, dx, h1, h2, h3, nd, q⟩ | ⟨a, rfl, ha, q⟩
  · obtain ⟨u, rfl, rx⟩ := vals1 rv
    obtain ⟨as, rd⟩ := L2.Dp.reads I d x u dx rx
    exact call_repr_data rd h1 (fun z => by rw [nd] at z; cases z) h3 nd hG (by omega) (fun _ _ e => e) fun h' u tk hk => ⟨.str d.shown, H, I.kept hk, ⟨_, rfl⟩, q⟩
  · rw [Vals.ref1 rv]
    obtain ⟨z, hd, vs, rel, dd⟩ := dk_of I.hok ha
    cases rel
    obtain ⟨o, es, ep, ho, hx, hdat, _, pr, _⟩ := dd
    have e0 : es.toList = [] := by
      cases he : es.toList with
      | nil => rfl
      | cons y ys => rw [he] at pr; cases pr
    have e1 : es = #[] := Array.toList_eq_nil_iff.mp e0
    subst e1
    exact repr_dict0 ho hx.1 hdat hd hG hu fun h' u tk hk => ⟨.str "{}", H, I.kept hk, ⟨_, rfl⟩, q⟩
theorem calln_repr : CallN K mg (rReprD K) fRepr := fun {ρ Fr F δ σ H vs ds s} r dv e {Q} q => by
  unfold fRepr at e
  split at e
  · cases e
    cases dv with
    | cons d1 d2 =>
      cases d2
      cases d1 with
      | dct ha => exact .inr ⟨_, rfl, r.sub _ _ ha, q F _ H (Same.refl _) (r.tval (.str _))⟩
  · split at e
    · rename_i d _ h
      cases e
      cases dv with
      | cons d1 d2 =>
        cases d2
        exact .inl ⟨_, d, rfl, dp_old _ _ (d1.up r.sub) h.2.1, h.1, h.2.2.1, h.2.2.2, h.2.1, q F _ H (Same.refl _) (r.tval (.str _))⟩
    · cases e
  · cases e
/-! isinstance(x, T) -/
def isT (T : String) : PyData → Option Bool
  | .none => kitB "NoneType" T
  | .bool _ => kitB "bool" T
  | .int _ => kitB "int" T
  | .str _ => kitB "str" T
  | .list _ => kitB "list" T
  | .tuple _ => kitB "tuple" T
  | .dict _ => kitB "dict" T
def mIsi (T : String) (m : ME) : ME := fun δ => match m δ with
  | .ok (d, δ1) => (match isT T d with
    | some b => .ok (.bool b, δ1)
    | none => .no)
  | .err c d => .err c d
  | .no => .no
theorem tyx_list {H : Hp} {a : Addr} {xs : List V} (h : SqL K H a xs) : TyX K H (.ref a) (.type "list") := by
  rcases h with (h | ⟨o, h⟩) | ⟨o, its, n, h1, h2, _⟩
  · exact .base (.lst h)
  · exact .base (.frz h)
  · exact .kList h1 h2
theorem tyx_tuple {H : Hp} {a : Addr} {xs : List V} (h : SqT K H a xs) : TyX K H (.ref a) (.type "tuple") := by
  rcases h with (h | ⟨o, h⟩) | ⟨o, its, n, h1, h2, _⟩
  · exact .base (.tup h)
  · exact .fTuple h
  · exact .kTuple h1 h2
theorem sn_isi {T : String} {t : TE} {m : ME} (h : SndE K mg t m) : SndE K mg (tCB (rIsi K) (tCons t (tCons (tC (.ty T)) tNil))) (mIsi T m) := fun {ρ Fr F δ σ H d δ'} r e {Q} q => by
  unfold mIsi at e
  split at e
  · rename_i d' δ1 e1
    split at e
    · rename_i b e2
      cases e
      refine h r e1 fun F1 v H1 s1 r1 d1 => ?_
      have fin : ∀ {t : String}, TyX K H1 v (.type t) → kitB t T = some b → rIsi K [v, .ty T] H1 Q := fun {t} ty k => ⟨v, .ty T, .type t, .type T, b, rfl, .ty T, ty, kit_ty k, q F1 _ H1 s1 r1 (.bl b)⟩
      show rIsi K [v, .ty T] H1 Q
      cases d' with
      | none => cases d1; exact fin (.base .non) e2
      | bool x => cases d1; exact fin (.base (.bl x)) e2
      | int x => cases d1; exact fin (.base (.int x)) e2
      | str x => cases d1; exact fin (.base (.str x)) e2
      | list xs => cases d1 with | lst hs da => exact fin (tyx_list (sqL_mono r1.sub hs)) e2
      | tuple xs => cases d1 with | tup hs da => exact fin (tyx_tuple (sqT_mono r1.sub hs)) e2
      | dict xs => cases d1 with | dct ha => exact fin (.base (.dK (r1.sub _ _ ha))) e2
    · cases e
  · cases e
  · cases e
theorem re_isi (T : String) {y : Str} {a : Expr} {t : TE} {m : ME} {p p2 pos : Pos} (hg : Gl X "isinstance") (hm : X.mg "isinstance" = none) (hgT : Gl X y) (hmT : X.mg y = none) (hvT : bootBuiltins y = some (.type T)) (ha : RE X a t m)
    (h1 : y ≠ "__name__" := by decide) (h2 : (y == ("__debug__" : Str)) = false := by decide)
    (h3 : starEach [a, .Name y p2] X.env = (false, eval a X.env) :: starEach [.Name y p2] X.env := by rfl) (h4 : (backTo pos (starEach [.Name y p2] X.env)).any (·.1) = false := by rfl) (h5 : starEach [.Name y p2] X.env = (false, eval (.Name y p2) X.env) :: starEach [] X.env := by rfl) :
    RE X (.Call (.Name "isinstance" p) [a, .Name y p2] [] pos) (tCB (rIsi X.K) (tCons t (tCons (tC (.ty T)) tNil))) (mIsi T m) :=
  ⟨pe_callB call_isi hg hm PyProof.Rows.boot_isinstance (pa_cons ha.pe (pa_cons (pe_bltn hgT hmT hvT rfl h1 h2) pa_nil h5) h3) (by decide) (by decide) h3 h4, sn_isi ha.sn⟩
/-! i.bit_length() -/
def fBits : PyData → Res Sl
  | .int i => .ok (.val (.int (Builtin.Int.intBits i : Nat)))
  | _ => .no
theorem rn_bits {o : Expr} {t : TE} {m : ME} {apos pos : Pos} (h : RE X o t m) (hbase : attributeBase o "bit_length" X.env (eval o X.env) = eval o X.env := by rfl) (hline : (apos.endLine == pos.line) = true := by rfl) : RN X (.Call (.Attribute o "bit_length" apos) [] [] pos) (tBits t) (mUnN fBits m) :=
  ⟨pe_bits h.pe hbase hline, fun {ρ Fr F δ σ H d δ'} r e {Q} q => by
    unfold mUnN at e
    split at e
    · rename_i d' δ1 e1
      split at e
      · rename_i s e2
        cases e
        unfold fBits at e2
        split at e2
        · cases e2
          exact h.sn r e1 fun F1 v H1 s1 r1 d1 => by cases d1; exact ⟨_, rfl, q F1 _ H1 s1 (r1.tval (.int _))⟩
        · cases e2
      · cases e
      · cases e
    · cases e
    · cases e⟩
/-! list(range(..)) -/
def mLRg1 (m : ME) : MN := fun δ => match m δ with
  | .ok (.int n, δ1) => if -(2 ^ 62) ≤ n ∧ n ≤ 2 ^ 24 then .ok (.own (rngD 0 n.toNat), δ1) else .no
  | .err c d => .err c d
  | _ => .no
theorem dpa_rng {F : Hp} {a b : Int} : DpAll K F (rgV a b) (rngD a (b - a).toNat) := by
  unfold rgV rngD
  have z : ∀ l : List Nat, DpAll K F (l.map fun i => V.int (a + (i : Nat))) (l.map fun (i : Nat) => PyData.int (a + (i : Int))) := by
    intro l
    induction l with
    | nil => exact .nil
    | cons x l ih => exact .cons (.int _) ih
  exact z _
theorem rn_listRg1 {a : Expr} {t : TE} {m : ME} {p p2 pos pos2 : Pos} (hc : X.calm = true) (hg : Gl X "list") (hm : X.mg "list" = none) (hg2 : Gl X "range") (hm2 : X.mg "range" = none) (h : RE X a t m)
    (na : starEach [a] X.env = (false, eval a X.env) :: starEach [] X.env := by rfl) (nb : starEach [.Call (.Name "range" p2) [a] [] pos2] X.env = (false, eval (.Call (.Name "range" p2) [a] [] pos2) X.env) :: starEach [] X.env := by rfl) :
    RN X (.Call (.Name "list" p) [.Call (.Name "range" p2) [a] [] pos2] [] pos) (tLstRg (tRg1 t)) (mLRg1 m) :=
  ⟨pe_listRg hc hg hm (prg_1 hg2 hm2 h.pe na) nb, fun {ρ Fr F δ σ H d δ'} r e {Q} q => by
    unfold mLRg1 at e
    split at e
    · split at e
      · rename_i n δ1 e1 hn
        cases e
        refine h.sn r e1 fun F1 v H1 s1 r1 d1 => ?_
        cases d1
        refine ⟨n, rfl, ⟨by decide, by decide, by omega, by omega, by omega⟩, fun p hp => q F1 _ _ s1 (r1.temp hp ?_)⟩
        have z := dpa_rng (K := X.K) (F := F1) (a := 0) (b := n)
        rw [Int.sub_zero] at z
        exact z
      · cases e
    · cases e
    · cases e⟩
def mLRg2 (m m' : ME) : MN := fun δ => match m δ with
  | .ok (.int a, δ1) => (match m' δ1 with
    | .ok (.int b, δ2) => if -(2 ^ 24) ≤ a ∧ a ≤ 2 ^ 24 ∧ -(2 ^ 24) ≤ b ∧ b ≤ 2 ^ 24 ∧ (b - a).toNat ≤ 2 ^ 24 then .ok (.own (rngD a (b - a).toNat), δ2) else .no
    | .err c d => .err c d
    | _ => .no)
  | .err c d => .err c d
  | _ => .no
theorem rn_listRg2 {a b : Expr} {t t' : TE} {m m' : ME} {p p2 pos pos2 : Pos} (hc : X.calm = true) (hg : Gl X "list") (hm : X.mg "list" = none) (hg2 : Gl X "range") (hm2 : X.mg "range" = none) (h : RE X a t m) (h' : RE X b t' m') (hpl : (backTo pos2 (starEach [b] X.env)).any (·.1) = false := by rfl)
    (na : starEach [a, b] X.env = (false, eval a X.env) :: starEach [b] X.env := by rfl) (na2 : starEach [b] X.env = (false, eval b X.env) :: starEach [] X.env := by rfl) (nb : starEach [.Call (.Name "range" p2) [a, b] [] pos2] X.env = (false, eval (.Call (.Name "range" p2) [a, b] [] pos2) X.env) :: starEach [] X.env := by rfl) :
    RN X (.Call (.Name "list" p) [.Call (.Name "range" p2) [a, b] [] pos2] [] pos) (tLstRg (tRg2 t t')) (mLRg2 m m') :=
  ⟨pe_listRg hc hg hm (prg_2 hg2 hm2 h.pe h'.pe na na2 hpl) nb, fun {ρ Fr F δ σ H d δ'} r e {Q} q => by
    unfold mLRg2 at e
    split at e
    · rename_i a δ1 e1
      split at e
      · split at e
        · rename_i b δ2 e2 hn
          cases e
          refine h.sn r e1 fun F1 v H1 s1 r1 d1 => h'.sn r1 e2 fun F2 u H2 s2 r2 d2 => ?_
          cases d1; cases d2
          exact ⟨a, b, rfl, rfl, ⟨by omega, by omega, by omega, by omega, hn.2.2.2.2⟩, fun p hp => q F2 _ _ (s1.trans s2) (r2.temp hp dpa_rng)⟩
        · cases e
      · cases e
      · cases e
    · cases e
    · cases e⟩
end
end CW

namespace CW
open PySem PySem.Spec PyProof.Rows L2
/-! the caller's call of the law's def: what FnG promises, at the heap behind the module's text -/
section
variable {P : Program} {w : World} {K : PySem.W.Frag} {mg mb : Str → Option Value} {k : Nat} {fa a : Addr} {fd : FuncData} {x : Str} {sp : Sp} {t : Shared} {us : List Value} {ns : List Int}
abbrev Told (t : Shared) (r : Result) (t' : Shared) : Prop := r = .ok (.ret (.bool true)) ∧ OldK t.heap t'.heap ∧ t'.os = t.os ∧ AllBare t'.gens
/-- the abstract heap holds nothing, or the script alone -/
theorem lawG_core (hK : K.In t.heap) (hN : t.heap.Ns mainGlobals mg) (hB : t.heap.Ns builtinsNs mb) (hB' : ∀ y : Str, y ≠ "__name__" → mb y = bootBuiltins y) (hL : t.heap.NoLimit) (hG : t.gens = #[])
    (ha : t.heap.get? a = some { cls := .type "list", data := .seq us.toArray }) (hr : Room k callerA)
    (F : ∀ b : Heap, K.In b → b.Ns mainGlobals mg → FnG P w K mg b CX0 k fa fd [x] sp) (hbind : ∀ (s : Shared) (u : Value), BindsTo s fd ⟨[u], []⟩ [(x, u)])
    {H : Hp} (hO : Only H) (hS : sp [.ref a] H (fun v _ => v = .bl true) E0) (hok : HOk P w H t.heap) (hA : ∀ b, H b ≠ none → b = a) (hKa : H a ≠ none → K.lookup a = none) :
    codeAny (model P w) callerA (.call (.ref fa) ⟨[.ref a], []⟩) (Told t) t := by
  have isA : ∀ {b : Addr} {v : HO}, H b = some v → b = a := fun {b v} q => hA b (fun z => by rw [z] at q; cases q)
  have noD : ∀ {b : Addr} {o : Obj} {es : Array DictEntry} {ep : Nat}, t.heap.get? b = some o → o.data = .dict es ep → H b = none := by
    intro b o es ep e d
    rcases q : H b with _ | v
    · rfl
    · cases isA q
      rw [ha] at e
      cases e
      cases (show Data.seq us.toArray _ = Data.dict es ep from d)
  have ns' : ∀ {b : Addr} {m : Str → Option Value}, t.heap.Ns b m → (hidT t.heap H).Ns b m := by
    rintro b m ⟨o, es, ep, e, d, r⟩
    exact ⟨o, es, ep, hidT_get e (noD e d), d, r⟩
  have kin : K.In (hidT t.heap H) := by
    intro b o e
    refine hidT_get (hK b o e) ?_
    rcases q : H b with _ | v
    · rfl
    · cases isA q
      rw [hKa (by rw [q]; exact Option.some_ne_none v)] at e
      cases e
  have lim : (hidT t.heap H).NoLimit := by
    obtain ⟨mc, h1, h2⟩ := hL
    exact ⟨mc, ns' h1, h2⟩
  have e0 : Env0 P w K mg (hidT t.heap H) callerA [] t H :=
    ⟨rfl, ⟨kin, ns' hN, ⟨mb, ns' hB, hB'⟩, lim⟩, fun _ _ e => of_hidT e, Nat.le_of_eq (hidT_size _ _), trivial, fun b hb => (nomatch (show b ∈ ([] : List Addr) from hb)), hok, .of_eq hG⟩
  have go := (F _ kin (ns' hN)).run callerA [] t H ⟨[.ref a], []⟩ [.ref a] [.ref a] _ _ rfl hr e0 (hbind t (.ref a)) (.cons rfl .nil) hS
  refine codeAny_mono go fun r t' h => ?_
  rcases r with e | f
  · exact (show False from h).elim
  rcases f with _ | _ | _ | u <;> first | exact (show False from h).elim | skip
  obtain ⟨v, H', os, bare, un, hok', r', q⟩ := h
  cases (show v = .bl true from q)
  cases (show u = Value.bool true from r')
  refine ⟨rfl, OldK.of_keep fun b o e => ?_, os, bare⟩
  rcases q : H b with _ | v
  · exact un.keep b o e q (fun z => nomatch (show b ∈ ([] : List Addr) from z)) (fun z => nomatch z)
  · rcases hO b with z | ⟨ob, xs, z⟩
    · rw [q] at z
      cases z
    · obtain ⟨e1, _⟩ := hok b _ z
      obtain ⟨e2, _⟩ := hok' b _ (un.frzs b ob _ z)
      rw [e] at e1
      cases e1
      exact e2
theorem lawG_call (hK : K.In t.heap) (hN : t.heap.Ns mainGlobals mg) (hB : t.heap.Ns builtinsNs mb) (hB' : ∀ y : Str, y ≠ "__name__" → mb y = bootBuiltins y) (hL : t.heap.NoLimit) (hG : t.gens = #[])
    (ha : t.heap.get? a = some { cls := .type "list", data := .seq us.toArray }) (hi : IntsAre us ns) (hl : ns.length ≤ sizeLine) (hr : Room k callerA)
    (F : ∀ b : Heap, K.In b → b.Ns mainGlobals mg → FnG P w K mg b CX0 k fa fd [x] sp) (hbind : ∀ (s : Shared) (u : Value), BindsTo s fd ⟨[u], []⟩ [(x, u)])
    (hsp : ∀ H : Hp, Only H → SqL K H a (ns.map V.int) → sp [.ref a] H (fun v _ => v = .bl true) E0) : codeAny (model P w) callerA (.call (.ref fa) ⟨[.ref a], []⟩) (Told t) t := by
  have rv := vals_ints hi
  rcases hk : K.lookup a with _ | o
  · -- the script is new
    have hH : ∀ b, (fun b => if b = a then some (HO.frz { cls := .type "list", data := .seq us.toArray } (.lst (ns.map V.int))) else none : Hp) b ≠ none → b = a := by
      intro b z
      by_cases e : b = a
      · exact e
      · exact absurd (if_neg e) z
    have hO : Only (fun b => if b = a then some (HO.frz { cls := .type "list", data := .seq us.toArray } (.lst (ns.map V.int))) else none) := by
      intro b
      by_cases e : b = a
      · exact .inr ⟨_, _, if_pos e⟩
      · exact .inl (if_neg e)
    refine lawG_core hK hN hB hB' hL hG ha hr F hbind hO (hsp _ hO (.inl (.inr ⟨{ cls := .type "list", data := .seq us.toArray }, if_pos rfl⟩))) ?_ hH fun _ => hk
    intro b v z
    by_cases e : b = a
    · cases (if_pos e).symm.trans z
      cases e
      exact ⟨ha, by rw [List.length_map]; exact hl, us, _, rv, ha⟩
    · cases (if_neg e).symm.trans z
  · -- it is an object of the module's own
    have e := hK a o hk
    rw [ha] at e
    cases e
    have hS : SqL K (fun _ => none) a (ns.map V.int) := .inr ⟨_, us.toArray, _, hk, rfl, rfl, rfl, by rw [List.size_toArray, hi.length]; exact hl, by simpa using rv⟩
    exact lawG_core hK hN hB hB' hL hG ha hr F hbind (fun _ => .inl rfl) (hsp _ (fun _ => .inl rfl) hS) (fun b v z => nomatch (show (none : Option HO) = some v from z)) (fun b z => absurd rfl z) fun z => absurd rfl z
end
theorem walk_ofG {l : PySem.W.OpenLaw} {n k : Nat} {q : Program} {loose : List Str} {XP : (Str → Option Value) → Heap → Prop} {YP : World → Heap → Prop} {d : DefRec} {x : Str}
    (hn : l.most = some n) (hn2 : n ≤ sizeLine) (hdf : d.params.defaults = []) (hr : Room k callerA)
    (F : ∀ (w : World) (mg : Str → Option Value) (fa : Addr) (h : Heap), YP w h → h.Ns mainGlobals mg → mg d.name = some (.ref fa) →
      ∃ (K : PySem.W.Frag) (fd : FuncData) (sp : Sp), K.In h ∧ (∀ (s : Shared) (u : Value), BindsTo s fd ⟨[u], []⟩ [(x, u)]) ∧
        (∀ (H : Hp) (a : Addr) (ns : List Int), ns.length ≤ n → Only H → SqL K H a (ns.map V.int) → sp [.ref a] H (fun v _ => v = .bl true) E0) ∧
        ∀ b : Heap, K.In b → b.Ns mainGlobals mg → FnG l.prog w K mg b CX0 k fa fd [x] sp) :
    PySem.W.WalkO q loose XP YP l.row.toRowW d [] (fun f vs => PySem.call f vs) := by
  refine Att.attach_call hn hdf fun w s₀ t mg mb fa o pm cd doc a us ns G Y ho hd hcd hmg hobj hints hlen hg => ?_
  obtain ⟨K, fd, sp, KX, hb, hsp, hF⟩ := F w mg fa _ Y G.T.g hmg
  exact lawG_call KX G.T.g G.T.b G.T.builtins G.T.nolimit hg hobj hints (Nat.le_trans hlen hn2) hr hF hb fun H hO hS => hsp H a ns hlen hO hS
/-- the promise of the law's def, from what its mirror answers -/
theorem law_sp {K : PySem.W.Frag} {mg : Str → Option Value} {f : FM} {ns : List Int} {as' : Ev} (h : f [.val (.list (ns.map .int))] = .ok (.val (.bool true), as')) {H : Hp} {a : Addr} (hS : SqL K H a (ns.map V.int)) : spD K mg 1 f [.ref a] H (fun v _ => v = .bl true) E0 := by
  refine ⟨fun _ => 0, fun _ => none, H, [.val (.list (ns.map .int))], .val (.bool true), as', rfl, ⟨Same.refl _, fun b u e => (nomatch (show (none : Option HO) = some u from e)), fun b z => absurd rfl z, [], ⟨[], [], rfl, ⟨rfl, _, rfl, .lst hS (dpa_of_ints ns)⟩, rfl⟩, List.nodup_nil, fun _ z => nomatch z⟩, h, ?_⟩
  intro F' v H' s r
  obtain ⟨L, ⟨A, B, _, ⟨_, u, e, d⟩, _⟩, _⟩ := r.own
  cases e
  cases d
  rfl
/-- where nothing goes out of a body -/
theorem RB.nox {X : Cx} {b : List Stmt} {t : TS} {m : MS} (h : RB X.nox b t m) : RB X b t m := ⟨PSs.nox h.pss, h.sn⟩
end CW

namespace CW
open PySem PySem.Spec PyProof.Rows L2
theorem cb_len : bootBuiltins "len" = some (.builtin "len") := by decide +kernel
theorem cb_int : bootBuiltins "int" = some (.type "int") := by decide +kernel
theorem cb_bool : bootBuiltins "bool" = some (.type "bool") := by decide +kernel
theorem cb_str : bootBuiltins "str" = some (.type "str") := by decide +kernel
theorem cb_list : bootBuiltins "list" = some (.type "list") := by decide +kernel
theorem cb_tuple : bootBuiltins "tuple" = some (.type "tuple") := by decide +kernel
theorem cb_set : bootBuiltins "set" = some (.type "set") := by decide +kernel
theorem cb_max : bootBuiltins "max" = some (.builtin "max") := by decide +kernel
theorem cb_min : bootBuiltins "min" = some (.builtin "min") := by decide +kernel
theorem cb_sum : bootBuiltins "sum" = some (.builtin "sum") := by decide +kernel
theorem cb_sorted : bootBuiltins "sorted" = some (.builtin "sorted") := by decide +kernel
theorem cb_divmod : bootBuiltins "divmod" = some (.builtin "divmod") := by decide +kernel
theorem cb_repr : bootBuiltins "repr" = some (.builtin "repr") := by decide +kernel
section
variable {K : PySem.W.Frag} {x qual : Str} {params : Arguments} {body : List Stmt} {scope : Scope} {kws : List (Str × V)} {f : Addr} {fd : FuncData} {ps ks : List Str} {n : Nat} {ix : List Nat}
theorem unit5 {k : Nat} {A : Around} (r : Room k A) : A.units + 65 < cLine := by have := r.un; omega
theorem kwTo_of (D : FunD K x qual params body scope [] kws f fd)
    (h : ∀ (kV doc pm : Value) (an : Option Addr) (cdv ct : Value) (us ws : List Value), us.length = n → ws.length = ks.length → bindArgs (PySem.W.fnOf x qual params body scope .none kV doc pm an cdv ct) ⟨us, ks.zip ws⟩ = pure (ps.zip (inOrder ix (us ++ ws)))) : KwTo K fd ps n ks ix := by
  obtain ⟨oc, od, dV, kV, doc, pm, an, cdv, ct, osl, rfl, lk, hcd, hD, hK⟩ := D.ex
  rcases hD with ⟨_, rfl⟩ | ⟨e, _⟩
  · exact fun s us ws _ h1 h2 => .of_eq (h kV doc pm an cdv ct us ws h1 h2)
  · exact absurd rfl e
end
section
variable {X : Cx} {K : PySem.W.Frag} {mg : Str → Option Value}
/-! a < b < c -/
section
variable {op op' : CmpOp} {r r' : R2} {f g : PyData → PyData → Res PyData} {a b c : Expr} {ta tb tc : TE} {ma mb mc : ME} {pos : Pos}
theorem re_chain (ho : OpR X (compareOp op) r) (ho' : OpR X (compareOp op') r') (hv : OpV X.K X.mg r f) (hv' : OpV X.K X.mg r' g) (ha : RE X a ta ma) (hb : RE X b tb mb) (hc : RE X c tc mc)
    (hm : lastMarks [op, op'] [b, c] = false := by with_unfolding_all rfl) : RE X (.Compare a [op, op'] [b, c] pos) (tChain r r' ta tb tc) (mChain f g ma mb mc) := ⟨pe_chain ho ho' ha.pe hb.pe hc.pe hm, sn_chain hv hv' ha.sn hb.sn hc.sn⟩
theorem rt_chain (ho : OpR X (compareOp op) r) (ho' : OpR X (compareOp op') r') (hv : OpV X.K X.mg r f) (hv' : OpV X.K X.mg r' g) (ha : RE X a ta ma) (hb : RE X b tb mb) (hc : RE X c tc mc)
    (hm : lastMarks [op, op'] [b, c] = false := by with_unfolding_all rfl) : RT X (.Compare a [op, op'] [b, c] pos) (tTest (tChain r r' ta tb tc)) (mT (mChain f g ma mb mc)) := ⟨pt_chain ho ho' ha.pe hb.pe hc.pe hm, sn_test (sn_chain hv hv' ha.sn hb.sn hc.sn)⟩
end
/-! x in a list of any data; in a tuple of flat ones -/
def fInD (neg : Bool) : PyData → PyData → Res PyData
  | x, .list xs => if SeqAt.shaped x = true ∧ SeqAt.shaped (.list xs) = true then .ok (.bool (if neg then !xs.any fun z => PyData.eqv z x else xs.any fun z => PyData.eqv z x)) else .no
  | x, .tuple xs => if flatD x = true ∧ xs.all flatD = true then .ok (.bool (if neg then !inD x xs else inD x xs)) else .no
  | _, _ => .no
def rInA (K : PySem.W.Frag) (neg : Bool) : R2 := fun x y H Q => (if neg then rNotInD K x y H Q else rInD K x y H Q) ∨ rIn K neg x y H Q
theorem op_inA (hu : X.A.units + 65 < cLine) : OpR X (compareOp .In) (rInA X.K false) := (op_inD hu).or op_in_seq
theorem op_notinA (hu : X.A.units + 65 < cLine) : OpR X (compareOp .NotIn) (rInA X.K true) := (op_notInD hu).or op_notIn_seq
theorem opv_inA (neg : Bool) : OpV K mg (rInA K neg) (fInD neg) := fun {ρ Fr F δ σ H x y a b c} r dx dy e {Q} q => by
  unfold fInD at e
  split at e
  · split at e
    · rename_i xs hs
      cases e
      refine .inl ?_
      cases neg with
      | false => exact ⟨a, xs, dp_old _ _ (dx.up r.sub) (shaped_noDict hs.1), dp_old _ _ (dy.up r.sub) (shaped_noDict hs.2), hs.1, hs.2, q F _ H (Same.refl _) r (.bl _)⟩
      | true => exact ⟨a, xs, dp_old _ _ (dx.up r.sub) (shaped_noDict hs.1), dp_old _ _ (dy.up r.sub) (shaped_noDict hs.2), hs.1, hs.2, q F _ H (Same.refl _) r (.bl _)⟩
    · cases e
  · split at e
    · rename_i xs hf
      cases e
      cases dy with
      | tup h1 d1 =>
        refine .inr ⟨_, _, rfl, .inr (sqT_mono r.sub h1), flat_of dx hf.1, flats_of d1 hf.2, ?_⟩
        rw [inV_of dx hf.1 d1 hf.2]
        exact q F _ H (Same.refl _) r (.bl _)
    · cases e
  · cases e
/-! xs.index(x) -/
def idxD (d : PyData) : List PyData → Option Nat
  | [] => none
  | z :: zs => if PyData.eqv z d = true then some 0 else (idxD d zs).map (· + 1)
theorem idxD_at {d : PyData} : ∀ {ds : List PyData} {j : Nat}, idxD d ds = some j → ∃ z, ds[j]? = some z ∧ PyData.eqv z d = true ∧ ∀ (m : Nat) (z' : PyData), m < j → ds[m]? = some z' → PyData.eqv z' d = false
  | [], _, h => by cases h
  | z :: zs, j, h => by
    unfold idxD at h
    split at h
    · rename_i hz
      cases h
      exact ⟨z, rfl, hz, fun m _ hm => absurd hm (Nat.not_lt_zero m)⟩
    · rename_i hz
      cases q : idxD d zs with
      | none => rw [q] at h; cases h
      | some i =>
        rw [q] at h
        cases h
        obtain ⟨y, e1, e2, e3⟩ := idxD_at q
        refine ⟨y, by simpa using e1, e2, fun m z' hm hz' => ?_⟩
        cases m with
        | zero =>
          simp at hz'
          subst hz'
          simpa using hz
        | succ m => exact e3 m z' (Nat.lt_of_succ_lt_succ hm) (by simpa using hz')
def mIdx (ma mb : ME) : ME := fun δ => match ma δ with
  | .ok (.list xs, δ1) => (match mb δ1 with
    | .ok (d, δ2) => if SeqAt.shaped (.list xs) = true ∧ SeqAt.shaped d = true then (match idxD d xs with
      | some j => .ok (.int (j : Nat), δ2)
      | none => .no) else .no
    | .err c d => .err c d
    | .no => .no)
  | .err c d => .err c d
  | _ => .no
theorem sn_idx {ta tb : TE} {ma mb : ME} (ha : SndE K mg ta ma) (hb : SndE K mg tb mb) : SndE K mg (tBM K "list" (rIndexD K) ta (tCons tb tNil)) (mIdx ma mb) := fun {ρ Fr F δ σ H d δ'} r e {Q} q => by
  unfold mIdx at e
  split at e
  · rename_i xs δ1 e1
    split at e
    · rename_i d' δ2 e2
      split at e
      · rename_i hs
        split at e
        · rename_i j e3
          cases e
          refine ha r e1 fun F1 v H1 s1 r1 d1 => ?_
          cases d1 with
          | lst h1 da =>
            refine ⟨Or.inl ⟨rfl, _, sqL_mono r1.sub h1⟩, hb r1 e2 fun F2 u H2 s2 r2 d2 => ?_⟩
            obtain ⟨z, k1, k2, k3⟩ := idxD_at e3
            exact ⟨_, u, d', xs, j, z, rfl, rfl, dp_old _ _ ((Dp.lst h1 da).up (s2.trans r2.sub)) (shaped_noDict hs.1), dp_old _ _ (d2.up r2.sub) (shaped_noDict hs.2), hs.1, hs.2, k1, k2, k3, q F2 _ H2 (s1.trans s2) r2 (.int _)⟩
        · cases e
      · cases e
    · cases e
    · cases e
  · cases e
  · cases e
theorem re_idx {o a : Expr} {t t' : TE} {m m' : ME} {apos cpos : Pos} (hu : X.A.units + 65 < cLine) (ho : RE X o t m) (ha : RE X a t' m')
    (hbase : attributeBase o "index" X.env (eval o X.env) = eval o X.env := by rfl)
    (hfew : ((backTo cpos (starEach [a] X.env)).all (fun x => !x.1) && (backToKw cpos (keywordEach [] X.env)).all (fun x => x.1.isSome)
      && decide (([a] : List Expr).length + ([] : List Keyword).length + (if ([] : List Keyword).isEmpty then 0 else 1) < 30)) = true := by rfl)
    (hline : (apos.endLine == cpos.line) = true := by rfl) (hs : starEach [a] X.env = (false, eval a X.env) :: starEach [] X.env := by rfl) (hplain : (backTo cpos (starEach [] X.env)).any (·.1) = false := by rfl) :
    RE X (.Call (.Attribute o "index" apos) [a] [] cpos) (tBM X.K "list" (rIndexD X.K) t (tCons t' tNil)) (mIdx m m') :=
  ⟨pe_bm PySem.F.plainAttrs_list PySem.F.slot_list_index PySem.F.type_list_index (mt_indexD hu) ho.pe (pa_cons ha.pe pa_nil hs) hbase hfew hline hs hplain, sn_idx ho.sn ha.sn⟩
/-! f(e, ..) with e a new list, which f may change -/
def mCallT (n : Nat) (f : FM) (a : MN) (as : MA) : MN := fun δ => match a δ with
  | .ok (.own xs0, δ0) => (match as δ0 with
    | .ok (ds, δ1) => if ds.length + 1 = n then (match f (.io 0 xs0 :: ds.map .val) with
      | .ok (r, .io 0 _ :: _) => (match resV r with
        | some r' => .ok (r', δ1)
        | none => .no)
      | .err c d => .err c d
      | _ => .no) else .no
    | .err c d => .err c d
    | .no => .no)
  | .err c d => .err c d
  | _ => .no
theorem sn_callT {n : Nat} {f : FM} {te : TE} {t : TA} {a : MN} {as : MA} {E : XK} (h : SndN K mg te a) (ha : SndA K mg t as) : SndN K mg (tCall (spD K mg n f) [] E (tCons te t)) (mCallT n f a as) := fun {ρ Fr F δ σ H s δ'} r e {Q} q => by
  unfold mCallT at e
  split at e
  · rename_i xs0 δ0 e0
    split at e
    · rename_i ds δ1 e1
      split at e
      · rename_i hn
        split at e
        · rename_i r' ys rest e4
          split at e
          · rename_i r2 e5
            cases e
            refine h r e0 fun F0 v0 H0 s0 r0 => ?_
            obtain ⟨p, vs0, k0, k1, k2, k3, k4, k5⟩ := r0.stash
            cases k0
            refine ha k5 e1 fun F1 vs H1 s1 r1 d1 => ?_
            show spD K mg n f ((V.ref p :: vs) ++ []) H1 Q E
            rw [List.append_nil]
            have r2' := r1.unstash k2 (k4.up s1)
            obtain ⟨Fr', h1, h2, h3⟩ := Rel.hideJ (ss := [.own xs0]) (os := [some (.ref p)]) rfl r2'
            have h4 : Rel K mg (fun _ => p) Fr' F1 [.io 0 xs0] [some (.ref p)] H1 := h1.reRho fun L h => by
              obtain ⟨A, B, rfl, ⟨pp, ws, b1, b2, b3, b4⟩, a2⟩ := h
              cases b1
              exact ⟨A, B, rfl, ⟨rfl, b2, ws, b3, b4⟩, a2⟩
            have h5 : Rel K mg (fun _ => p) Fr' F1 (.io 0 xs0 :: ds.map .val) (some (.ref p) :: vs.map some) H1 := by
              have z := h4.vals d1
              obtain ⟨L, z1, z2, z3⟩ := z.own
              obtain ⟨L1, L2, rfl, z4, z5⟩ := slotsR_split (by simp [dpa_len d1]) z1
              obtain ⟨A, B, rfl, z6, z7⟩ := z5
              have eB : B = [] := z7
              subst eB
              have pm : (L1 ++ (A ++ [])).Perm (A ++ L1) := by
                rw [List.append_nil]
                exact List.perm_append_comm
              exact ⟨z.sub, z.fr, z.dis, A ++ L1, ⟨A, L1, rfl, z6, z4⟩, pm.nodup_iff.mp z2, fun a ha => z3 a (pm.mem_iff.mpr ha)⟩
            refine ⟨fun _ => p, Fr', F1, _, r', _, by simpa [dpa_len d1] using hn, h5, e4, fun F' v H' s2 r4 => q F' v H' ((s0.trans s1).trans s2) ?_⟩
            obtain ⟨L, ⟨A, B, rfl, a1, a2⟩, nd, av⟩ := r4.own
            have c1 : SlotR K mg ρ F' H' s (some v) A := resV_slot e5 a1
            have z : Rel K mg ρ Fr' F' [s] [some v] H' := ⟨r4.sub, r4.fr, r4.dis, A, ⟨A, [], by simp, c1, rfl⟩, (List.nodup_append.mp nd).1, fun a ha => av a (List.mem_append_left _ ha)⟩
            exact h3 s2 z
          · cases e
        · cases e
        · cases e
      · cases e
    · cases e
    · cases e
  · cases e
  · cases e
section
variable {k : Nat} {f : Addr} {fd : FuncData} {ps : List Str} {n : Nat} {fm : FM} {x : Str} {p pos : Pos} {e : Expr} {es : List Expr} {te : TE} {t : TA} {a : MN} {as : MA}
theorem rn_callT (F : FnG X.prog X.w X.K X.mg X.base CX0 k f fd ps (spD X.K X.mg n fm)) (hG : X.A.guards = some []) (hr : Room k X.A) (hg : Gl X x) (hm : X.mg x = some (.ref f)) (hk : PySem.W.keepIn X.K (.ref f) = true) (hb : Binds X.K fd ps [])
    (h : RN X e te a) (ha : RA X es t as) (hdb : (x == ("__debug__" : Str)) = false := by decide) (he : starEach (e :: es) X.env = (false, eval e X.env) :: starEach es X.env := by rfl) (hpl : (backTo pos (starEach es X.env)).any (·.1) = false := by rfl) :
    RN X (.Call (.Name x p) (e :: es) [] pos) (tCall (spD X.K X.mg n fm) [] E0 (tCons te t)) (mCallT n fm a as) := ⟨pe_callG F hG hr hg hm hk hb pass0 (pa_cons h.pe ha.pa he) hdb he hpl, sn_callT h.sn ha.sn⟩
end
end
end CW

namespace CW
open PySem PySem.Spec PyProof.Rows L2
/-! loops of mirrors -/
theorem forL_inv {g : PyData → Ev → Res Ev} {b : MS} (R : Nat → Ev → Prop) : ∀ {ds : List PyData} {δ : Ev} (k : Nat), R k δ →
    (∀ i d δ, ds[i]? = some d → R (k + i) δ → ∃ δ1 δ2, g d δ = .ok δ1 ∧ b δ1 = .ok (.nx, δ2) ∧ R (k + i + 1) δ2) → ∃ δ', forL g b ds δ = .ok (.nx, δ') ∧ R (k + ds.length) δ'
  | [], δ, k, h, _ => ⟨δ, rfl, h⟩
  | d :: ds, δ, k, h, st => by
    obtain ⟨δ1, δ2, e1, e2, h2⟩ := st 0 d δ rfl h
    obtain ⟨δ', e3, h3⟩ := forL_inv R (ds := ds) (k + 1) h2 fun i d δ hd hr => by
      have z := st (i + 1) d δ (by simpa using hd) (by rwa [show k + (i + 1) = k + 1 + i by omega])
      rwa [show k + (i + 1) + 1 = k + 1 + i + 1 by omega] at z
    refine ⟨δ', ?_, by rw [List.length_cons, show k + (ds.length + 1) = k + 1 + ds.length by omega]; exact h3⟩
    unfold forL
    rw [e1]
    show (match b δ1 with
      | .ok (.nx, δ2) => forL g b ds δ2
      | .ok (.ct, δ2) => forL g b ds δ2
      | .ok (.bk, δ2) => .ok (.nx, δ2)
      | .ok (.rt s, δ2) => .ok (.rt s, δ2)
      | .err c d => .err c d
      | .no => .no) = _
    rw [e2]
    exact e3
theorem forL_go {g : PyData → Ev → Res Ev} {b : MS} (R : Nat → Ev → Prop) {ds : List PyData} {δ : Ev} (h0 : R 0 δ)
    (h : ∀ i d δ, ds[i]? = some d → R i δ → ∃ δ1 δ2, g d δ = .ok δ1 ∧ b δ1 = .ok (.nx, δ2) ∧ R (i + 1) δ2) : ∃ δ', forL g b ds δ = .ok (.nx, δ') ∧ R ds.length δ' := by
  have z := forL_inv R (ds := ds) 0 h0 fun i d δ hd hr => by
    rw [Nat.zero_add] at hr ⊢
    exact h i d δ hd hr
  rwa [Nat.zero_add] at z
theorem forL_cons {g : PyData → Ev → Res Ev} {b : MS} {d : PyData} {ds : List PyData} {δ δ1 δ2 : Ev} (e1 : g d δ = .ok δ1) (e2 : b δ1 = .ok (.nx, δ2)) : forL g b (d :: ds) δ = forL g b ds δ2 := by
  rw [forL]
  rw [e1]; simp only []
  rw [e2]
/-- a fold -/
theorem forL_fold {α σ : Type} {g : PyData → Ev → Res Ev} {b : MS} (enc : α → PyData) (R : σ → Ev → Prop) (step : σ → α → σ) : ∀ (xs : List α) {s : σ} {δ : Ev}, R s δ →
    (∀ s a δ, a ∈ xs → R s δ → ∃ δ1 δ2, g (enc a) δ = .ok δ1 ∧ b δ1 = .ok (.nx, δ2) ∧ R (step s a) δ2) → ∃ δ', forL g b (xs.map enc) δ = .ok (.nx, δ') ∧ R (xs.foldl step s) δ'
  | [], s, δ, h, _ => ⟨δ, rfl, h⟩
  | a :: xs, s, δ, h, st => by
    obtain ⟨δ1, δ2, e1, e2, h2⟩ := st s a δ (List.mem_cons_self ..) h
    obtain ⟨δ', e3, h3⟩ := forL_fold enc R step xs h2 fun s b δ hb => st s b δ (List.mem_cons_of_mem _ hb)
    refine ⟨δ', ?_, h3⟩
    rw [List.map_cons]
    unfold forL
    rw [e1]
    show (match b δ1 with
      | .ok (.nx, δ2) => forL g b (xs.map enc) δ2
      | .ok (.ct, δ2) => forL g b (xs.map enc) δ2
      | .ok (.bk, δ2) => .ok (.nx, δ2)
      | .ok (.rt s, δ2) => .ok (.rt s, δ2)
      | .err c d => .err c d
      | .no => .no) = _
    rw [e2]
    exact e3
/-- a comprehension that leaves all slots as they are -/
theorem lcL_pure {α : Type} {g : PyData → Ev → Res Ev} {tt : MT} {te : ME} {vs : List Nat} (enc : α → PyData) (p : α → Bool) (f : α → PyData) (δ : Ev) : ∀ (xs : List α) (acc : List PyData), acc.length + xs.length ≤ sizeLine →
    (∀ a ∈ xs, ∃ δ1, g (enc a) δ = .ok δ1 ∧ tt δ1 = .ok (p a, δ1) ∧ (p a = true → te δ1 = .ok (f a, δ1)) ∧ clr δ1 vs = δ) → lcL g tt te vs (xs.map enc) acc δ = .ok (acc ++ (xs.filter p).map f, δ)
  | [], acc, _, _ => by simp [lcL]
  | a :: xs, acc, hl, h => by
    obtain ⟨δ1, e1, e2, e3, e4⟩ := h a (List.mem_cons_self ..)
    rw [List.map_cons]
    unfold lcL
    rw [List.length_cons] at hl
    cases hp : p a with
    | true =>
      rw [hp] at e2
      simp only [e1, e2, e3 hp, e4]
      rw [if_pos (by omega), lcL_pure enc p f δ xs (acc ++ [f a]) (by rw [List.length_append]; simp; omega) fun b hb => h b (List.mem_cons_of_mem _ hb)]
      simp [hp]
    | false =>
      rw [hp] at e2
      simp only [e1, e2, e4]
      rw [lcL_pure enc p f δ xs acc (by omega) fun b hb => h b (List.mem_cons_of_mem _ hb)]
      simp [hp]
/-- a comprehension that draws: any answers within Y -/
theorem lcL_inv {g : PyData → Ev → Res Ev} {tt : MT} {te : ME} {vs : List Nat} (R : Nat → List PyData → Ev → Prop) : ∀ {ds : List PyData} {acc : List PyData} {δ : Ev} (k : Nat), acc.length + ds.length ≤ sizeLine → R k acc δ →
    (∀ i d acc δ, ds[i]? = some d → R (k + i) acc δ → ∃ δ1 δ2 c, g d δ = .ok δ1 ∧ tt δ1 = .ok (c, δ2) ∧ (c = true → ∃ y δ3, te δ2 = .ok (y, δ3) ∧ R (k + i + 1) (acc ++ [y]) (clr δ3 vs)) ∧ (c = false → R (k + i + 1) acc (clr δ2 vs))) →
    ∃ ys δ', lcL g tt te vs ds acc δ = .ok (ys, δ') ∧ R (k + ds.length) ys δ'
  | [], acc, δ, k, _, h, _ => ⟨acc, δ, rfl, h⟩
  | d :: ds, acc, δ, k, hl, h, st => by
    obtain ⟨δ1, δ2, c, e1, e2, e3, e4⟩ := st 0 d acc δ rfl h
    rw [List.length_cons] at hl
    have nxt : ∀ i d acc δ, ds[i]? = some d → R (k + 1 + i) acc δ → ∃ δ1 δ2 c, g d δ = .ok δ1 ∧ tt δ1 = .ok (c, δ2) ∧ (c = true → ∃ y δ3, te δ2 = .ok (y, δ3) ∧ R (k + 1 + i + 1) (acc ++ [y]) (clr δ3 vs)) ∧ (c = false → R (k + 1 + i + 1) acc (clr δ2 vs)) := fun i d acc δ hd hr => by
      have z := st (i + 1) d acc δ (by simpa using hd) (by rwa [show k + (i + 1) = k + 1 + i by omega])
      rwa [show k + (i + 1) + 1 = k + 1 + i + 1 by omega] at z
    rw [List.length_cons, show k + (ds.length + 1) = k + 1 + ds.length by omega]
    unfold lcL
    cases c with
    | true =>
      obtain ⟨y, δ3, e5, h5⟩ := e3 rfl
      obtain ⟨ys, δ', e6, h6⟩ := lcL_inv R (ds := ds) (k + 1) (by rw [List.length_append]; simp; omega) h5 nxt
      refine ⟨ys, δ', ?_, h6⟩
      simp only [e1, e2, e5]
      rw [if_pos (by omega), e6]
    | false =>
      obtain ⟨ys, δ', e6, h6⟩ := lcL_inv R (ds := ds) (k + 1) (by omega) (e4 rfl) nxt
      refine ⟨ys, δ', ?_, h6⟩
      simp only [e1, e2]
      rw [e6]
/-! data -/
abbrev iD (i : Int) : PyData := .int i
abbrev iV (i : Int) : Sl := .val (.int i)
abbrev tI (ns : List Int) : PyData := .tuple (ns.map .int)
abbrev lI (ns : List Int) : PyData := .list (ns.map .int)
theorem eqv_refl : ∀ d : PyData, d.hasDict = false → PyData.eqv d d = true := by
  intro d
  exact PyData.rec (motive_1 := fun d => d.hasDict = false → PyData.eqv d d = true) (motive_2 := fun ds => PyData.hasDictAll ds = false → PyData.eqvAll ds ds = true) (motive_3 := fun _ => True) (motive_4 := fun _ => True)
    (fun _ => rfl) (fun b _ => by simp [PyData.eqv]) (fun i _ => by simp [PyData.eqv]) (fun x _ => by simp [PyData.eqv])
    (fun xs ih h => by simpa [PyData.eqv] using ih (by simpa [PyData.hasDict] using h))
    (fun xs ih h => by simpa [PyData.eqv] using ih (by simpa [PyData.hasDict] using h))
    (fun _ _ h => by simp [PyData.hasDict] at h) (fun _ => rfl)
    (fun d ds i1 i2 h => by
      simp only [PyData.hasDictAll, Bool.or_eq_false_iff] at h
      simp [PyData.eqvAll, i1 h.1, i2 h.2])
    trivial (fun _ _ _ _ => trivial) (fun _ _ _ _ => trivial) d
end CW
namespace CW
open PySem PySem.Spec PyProof.Rows L2
theorem fMulI_ok {i j : Int} (h : (-18446744073709551616 < i ∧ i < 18446744073709551616) ∨ (-18446744073709551616 < j ∧ j < 18446744073709551616)) : fMulI (.int i) (.int j) = .ok (.int (i * j)) := if_pos h
theorem fMod_ok {i j : Int} (h : 0 < j) : fMod (.int i) (.int j) = .ok (.int (i % j)) := if_pos (decide_eq_true h)
theorem fDiv_ok {i j : Int} (h : 0 < j) (h2 : j.natAbs.log2 < 9000) : fDiv (.int i) (.int j) = .ok (.int (i / j)) := if_pos (decide_eq_true ⟨h, h2⟩)
theorem log_lt {j : Int} {n : Nat} (h0 : 0 ≤ j) (h : j < ((2 ^ n : Nat) : Int)) (hn : 0 < n) : j.natAbs.log2 < n := by
  by_cases z : j.natAbs = 0
  · rw [z]; simpa using hn
  · exact (Nat.log2_lt z).mpr (by omega)
theorem fDiv_s {i j : Int} (h : 0 < j) (h2 : j < 1152921504606846976) : fDiv (.int i) (.int j) = .ok (.int (i / j)) :=
  fDiv_ok h (Nat.lt_trans (log_lt (j := j) (n := 60) (by omega) (by simpa using h2) (by omega)) (by omega))
theorem fAdd_i {i j : Int} : fAdd (.int i) (.int j) = .ok (.int (i + j)) := rfl
theorem fSub_i {i j : Int} : fSub (.int i) (.int j) = .ok (.int (i - j)) := rfl
theorem fLtI_i {i j : Int} : fLtI (.int i) (.int j) = .ok (.bool (decide (i < j))) := rfl
theorem fLeI_i {i j : Int} : fLeI (.int i) (.int j) = .ok (.bool (decide (i ≤ j))) := rfl
theorem fGtI_i {i j : Int} : fGtI (.int i) (.int j) = .ok (.bool (decide (j < i))) := rfl
theorem fGeI_i {i j : Int} : fGeI (.int i) (.int j) = .ok (.bool (decide (j ≤ i))) := rfl
theorem fEq_i {i j : Int} : fEq (.int i) (.int j) = .ok (.bool (i == j)) := rfl
theorem fNe_i {i j : Int} : fNe (.int i) (.int j) = .ok (.bool (!(i == j))) := rfl
/-- ints as intsOf -/
theorem intsOf_nil : intsOf [] = some [] := rfl
theorem cut_take {α : Type} (xs : List α) (k : Nat) : cutD xs none (some (k : Int)) = xs.take k := by
  unfold cutD
  rw [HT.sIx_nat, HT.sIx_none, List.drop_zero, Nat.sub_zero]
  exact List.take_eq_take_min.symm
theorem cut_drop {α : Type} (xs : List α) (k : Nat) : cutD xs (some (k : Int)) none = xs.drop k := by
  unfold cutD
  rw [HT.sIx_nat, HT.sIx_none]
  by_cases h : k ≤ xs.length
  · rw [Nat.min_eq_left h, List.take_of_length_le (by rw [List.length_drop]; omega)]
  · rw [Nat.min_eq_right (by omega), Nat.sub_self, List.take_zero, List.drop_eq_nil_of_le (by omega)]
theorem fSum_ints (ns : List Int) : fSum [.list (ns.map .int)] = .ok (.val (.int ns.sum)) := by
  show (match intsOf (ns.map .int) with | some ns => Res.ok (Sl.val (.int ns.sum)) | none => .no) = _
  rw [intsOf_ints]
theorem atI_map {α : Type} (f : α → PyData) (xs : List α) (i : Nat) (h : i < xs.length) : atI (xs.map f) (i : Int) = some (f xs[i]) := by
  unfold atI ixN
  rw [List.length_map, if_pos (by omega), if_pos (by omega)]
  show (xs.map f)[(i : Int).toNat]? = _
  rw [Int.toNat_natCast, List.getElem?_map, List.getElem?_eq_getElem h]
  rfl
theorem lay_ints : ∀ ns : List Int, PyData.canLayAll0 (ns.map .int) = true
  | [] => by simp [PyData.canLayAll0]
  | n :: ns => by simp [PyData.canLayAll0, PyData.canLay0, lay_ints ns]
theorem depth_ints : ∀ ns : List Int, PyData.depthAll (ns.map .int) = 0
  | [] => by simp [PyData.depthAll]
  | n :: ns => by simp [PyData.depthAll, PyData.depth, depth_ints ns]
theorem shaped_tI (ns : List Int) : SeqAt.shaped (tI ns) = true := by
  show ((tI ns).canLay0 && decide ((tI ns).depth ≤ 64)) = true
  simp [PyData.canLay0, PyData.depth, lay_ints, depth_ints]
theorem shaped_lI (ns : List Int) : SeqAt.shaped (lI ns) = true := by
  show ((lI ns).canLay0 && decide ((lI ns).depth ≤ 64)) = true
  simp [PyData.canLay0, PyData.depth, lay_ints, depth_ints]
theorem fDivmod_ok {i j : Int} (h : 0 < j) (h2 : j < 1152921504606846976) : fDivmod [.int i, .int j] = .ok (.val (.tuple [.int (i / j), .int (i % j)])) :=
  if_pos ⟨h, PyProof.noPylong_of_log2 (Nat.lt_trans (log_lt (j := j) (n := 60) (by omega) (by simpa using h2) (by omega)) (by omega))⟩
theorem fAdd_t {xs ys : List PyData} (h : xs.length + ys.length ≤ 16777216) : fAdd (.tuple xs) (.tuple ys) = .ok (.tuple (xs ++ ys)) := if_pos h
theorem fAdd_l {xs ys : List PyData} (h : xs.length + ys.length ≤ 16777216) : fAdd (.list xs) (.list ys) = .ok (.list (xs ++ ys)) := if_pos h
theorem rngD_map (lo : Int) (n : Nat) : rngD lo n = ((List.range n).map fun (i : Nat) => lo + (i : Int)).map PyData.int := by
  unfold rngD
  rw [List.map_map]; rfl
theorem rngD_nat (n : Nat) : rngD 0 n = (List.range n).map fun (i : Nat) => PyData.int (i : Int) := by
  unfold rngD
  simp
/-! repr of data with small ints -/
mutual
def smI : PyData → Bool
  | .none => true
  | .bool _ => true
  | .int i => decide (i.natAbs < 1000000000000000000)
  | .str x => x.cps.toList.all fun c => decide (c < 16 ^ 8)
  | .list xs => smA xs
  | .tuple xs => smA xs
  | .dict _ => false
def smA : List PyData → Bool
  | [] => true
  | x :: xs => smI x && smA xs
end
theorem smI_both (d : PyData) : smI d = true → d.leavesShort 20 = true ∧ d.showable = true :=
  PyData.rec (motive_1 := fun d => smI d = true → d.leavesShort 20 = true ∧ d.showable = true) (motive_2 := fun ds => smA ds = true → PyData.leavesShortAll 20 ds = true ∧ PyData.showableAll ds = true) (motive_3 := fun _ => True) (motive_4 := fun _ => True)
    (fun _ => ⟨rfl, rfl⟩) (fun _ _ => ⟨rfl, rfl⟩)
    (fun i h => by
      have h' : i.natAbs < 1000000000000000000 := of_decide_eq_true (by simpa [smI] using h)
      have e := int_text_length_le10 (a := i) (k := 18) (by decide) h'
      have e2 : (PyData.shown (.int i)).length = (toString i).length := by simp only [PyData.shown]; exact PySem.ofString_length _
      have lg : i.natAbs.log2 < 1920 := by
        by_cases z : i.natAbs = 0
        · rw [z]; decide
        · exact Nat.lt_trans (show i.natAbs.log2 < 60 from (Nat.log2_lt z).mpr (Nat.lt_of_lt_of_le h' (by decide))) (by decide)
      exact ⟨by simp only [PyData.leavesShort]; exact decide_eq_true (by omega), by simp only [PyData.showable]; exact decide_eq_true lg⟩)
    (fun x h => ⟨by simpa [smI, PyData.leavesShort] using h, rfl⟩)
    (fun xs ih h => by
      have z := ih (by simpa [smI] using h)
      exact ⟨by simpa [PyData.leavesShort] using z.1, by simpa [PyData.showable] using z.2⟩)
    (fun xs ih h => by
      have z := ih (by simpa [smI] using h)
      exact ⟨by simpa [PyData.leavesShort] using z.1, by simpa [PyData.showable] using z.2⟩)
    (fun _ _ h => by simp [smI] at h) (fun _ => ⟨rfl, rfl⟩)
    (fun d ds i1 i2 h => by
      simp only [smA, Bool.and_eq_true] at h
      have a := i1 h.1
      have b := i2 h.2
      exact ⟨by simp [PyData.leavesShortAll, a.1, b.1], by simp [PyData.showableAll, a.2, b.2]⟩)
    trivial (fun _ _ _ _ => trivial) (fun _ _ _ _ => trivial) d
mutual
theorem smI_noDict : ∀ d : PyData, smI d = true → d.hasDict = false
  | .none, _ => rfl
  | .bool _, _ => rfl
  | .int _, _ => rfl
  | .str _, _ => rfl
  | .list xs, h => by simp only [PyData.hasDict]; exact smA_noDict xs (by simpa [smI] using h)
  | .tuple xs, h => by simp only [PyData.hasDict]; exact smA_noDict xs (by simpa [smI] using h)
  | .dict _, h => by simp [smI] at h
theorem smA_noDict : ∀ ds : List PyData, smA ds = true → PyData.hasDictAll ds = false
  | [], _ => rfl
  | d :: ds, h => by
    simp only [smA, Bool.and_eq_true] at h
    simp only [PyData.hasDictAll, smI_noDict d h.1, smA_noDict ds h.2, Bool.or_false]
end
theorem fRepr_ok {d : PyData} (h1 : smI d = true) (h2 : d.depth ≤ 60) (h3 : d.bulk ≤ 500000) : fRepr [d] = .ok (.val (.str d.shown)) := by
  obtain ⟨a, b⟩ := smI_both d h1
  have z := PyData.shown_le_bulk 20 (by decide) d a
  exact fRepr_go b (smI_noDict d h1) h2 (by rw [sizeLine_eq]; omega)
theorem smA_ints {ns : List Int} (h : ∀ n ∈ ns, n.natAbs < 1000000000000000000) : smA (ns.map .int) = true := by
  induction ns with
  | nil => simp [smA]
  | cons n ns ih =>
    have h1 := h n (List.mem_cons_self ..)
    have h2 := ih fun m hm => h m (List.mem_cons_of_mem _ hm)
    simp [smA, smI, h1, h2]
theorem bulk_ints (ns : List Int) : PyData.bulkAll (ns.map .int) = ns.length := by
  induction ns with
  | nil => simp [PyData.bulkAll]
  | cons n ns ih => simp [PyData.bulkAll, PyData.bulk, ih]; omega
theorem fRepr_lI {ns : List Int} (h : ∀ n ∈ ns, n.natAbs < 1000000000000000000) (hl : ns.length ≤ 400000) : fRepr [lI ns] = .ok (.val (.str (lI ns).shown)) :=
  fRepr_ok (by simp [smI, smA_ints h]) (by simp [PyData.depth, depth_ints]) (by simp [PyData.bulk, bulk_ints]; omega)
theorem fNe_str {x : Str} : fNe (.str x) (.str x) = .ok (.bool false) := by
  show Res.ok (PyData.bool (!decide (x = x))) = _
  rw [decide_eq_true rfl]; rfl
theorem fEq_str {x : Str} : fEq (.str x) (.str x) = .ok (.bool true) := by
  show Res.ok (PyData.bool (decide (x = x))) = _
  rw [decide_eq_true rfl]
theorem noDict_ints : ∀ ns : List Int, PyData.hasDictAll (ns.map .int) = false
  | [] => by simp [PyData.hasDictAll]
  | n :: ns => by simp [PyData.hasDictAll, PyData.hasDict, noDict_ints ns]
theorem noDict_lI (ns : List Int) : (lI ns).hasDict = false := by simp [PyData.hasDict, noDict_ints]
theorem noDict_tI (ns : List Int) : (tI ns).hasDict = false := by simp [PyData.hasDict, noDict_ints]
end CW

namespace CW
open PySem PySem.Spec PyProof.Rows L2
/-! what mirrors answer, step by step -/
section
variable {δ δ0 δ1 δ2 δ3 : Ev} {d x y z : PyData} {s : Sl} {i j n nl : Nat} {m ma mb mc : ME} {mn : MN} {a b c : MS} {as : MA} {ds es : List PyData} {t u : MT} {p q : Bool} {r : Res (Ctl × Ev)} {re : Res (PyData × Ev)} {rb : Res (Bool × Ev)} {f : PyData → PyData → Res PyData} {ff : List PyData → Res Sl} {xs ys : List PyData}
theorem ev_var (h : δ[i]? = some (.val d)) : mVar i δ = .ok (d, δ) := by
  unfold mVar
  rw [h]
theorem ev_c : mC d δ = .ok (d, δ) := rfl
theorem ev_fz (h : δ[i]? = some (.own xs)) (h2 : δ.set i (.val (.list xs)) = δ1) : mFz i δ = .ok (.list xs, δ1) := by
  unfold mFz
  rw [h, ← h2]
theorem ev_fzv (h : δ[i]? = some (.val d)) : mFz i δ = .ok (d, δ) := by
  unfold mFz
  rw [h]
theorem ev_mv (h : δ[i]? = some (.own xs)) (h2 : δ.set i .emp = δ1) : mMv i δ = .ok (.own xs, δ1) := by
  unfold mMv
  rw [h, ← h2]
theorem ev_mvv (h : δ[i]? = some (.val d)) : mMv i δ = .ok (.val d, δ) := by
  unfold mMv
  rw [h]
theorem ev_op (h1 : ma δ = .ok (x, δ1)) (h2 : mb δ1 = .ok (y, δ2)) (h3 : f x y = .ok z) : mOp f ma mb δ = .ok (z, δ2) := by
  unfold mOp
  rw [h1]; simp only []
  rw [h2]; simp only []
  rw [h3]
theorem ev_val (h : m δ = .ok (d, δ1)) : mVal m δ = .ok (.val d, δ1) := by
  unfold mVal
  rw [h]
theorem ev_frz (h : mn δ = .ok (s, δ1)) (h2 : s.frz = .ok d) : mFrz mn δ = .ok (d, δ1) := by
  unfold mFrz
  rw [h]; simp only []
  rw [h2]
theorem ev_neg {k : Int} (h : m δ = .ok (.int k, δ1)) : mNeg m δ = .ok (.int (-k), δ1) := by
  unfold mNeg
  rw [h]
theorem ev_nil : mNil δ = .ok ([], δ) := rfl
theorem ev_cons (h : m δ = .ok (d, δ1)) (h2 : as δ1 = .ok (ds, δ2)) : mCons m as δ = .ok (d :: ds, δ2) := by
  unfold mCons
  rw [h]; simp only []
  rw [h2]
theorem ev_tup (h : as δ = .ok (ds, δ1)) (h2 : ds.length ≤ 100000) : mTup as δ = .ok (.tuple ds, δ1) := by
  unfold mTup
  rw [h]; simp only []
  rw [if_pos h2]
theorem ev_lst (h : as δ = .ok (ds, δ1)) (h2 : ds.length ≤ 100000) : mLst as δ = .ok (.own ds, δ1) := by
  unfold mLst
  rw [h]; simp only []
  rw [if_pos h2]
theorem ev_call (h : as δ = .ok (ds, δ1)) (h2 : ff ds = .ok s) : mCall ff as δ = .ok (s, δ1) := by
  unfold mCall
  rw [h]; simp only []
  rw [h2]
theorem ev_unN {g : PyData → Res Sl} (h : m δ = .ok (d, δ1)) (h2 : g d = .ok s) : mUnN g m δ = .ok (s, δ1) := by
  unfold mUnN
  rw [h]; simp only []
  rw [h2]
theorem ev_isi {T : String} (h : m δ = .ok (d, δ1)) (h2 : isT T d = some p) : mIsi T m δ = .ok (.bool p, δ1) := by
  unfold mIsi
  rw [h]; simp only []
  rw [h2]
/-! tests -/
theorem ev_T (h : m δ = .ok (.bool p, δ1)) : mT m δ = .ok (p, δ1) := by
  unfold mT
  rw [h]
theorem ev_andT (h : t δ = .ok (p, δ1)) (hp : p = true) (h2 : u δ1 = rb) : mAndT t u δ = rb := by
  subst hp
  unfold mAndT
  rw [h]; exact h2
theorem ev_andF (h : t δ = .ok (p, δ1)) (hp : p = false) : mAndT t u δ = .ok (false, δ1) := by
  subst hp
  unfold mAndT
  rw [h]
theorem ev_orT (h : t δ = .ok (p, δ1)) (hp : p = true) : mOrT t u δ = .ok (true, δ1) := by
  subst hp
  unfold mOrT
  rw [h]
theorem ev_orF (h : t δ = .ok (p, δ1)) (hp : p = false) (h2 : u δ1 = rb) : mOrT t u δ = rb := by
  subst hp
  unfold mOrT
  rw [h]; exact h2
theorem ev_notT (h : t δ = .ok (p, δ1)) (hq : (!p) = q) : mNotT t δ = .ok (q, δ1) := by
  unfold mNotT
  rw [h, ← hq]
theorem ev_andVT (h : ma δ = .ok (.bool p, δ1)) (hp : p = true) (h2 : mb δ1 = re) : mAndV ma mb δ = re := by
  subst hp
  unfold mAndV
  rw [h]; exact h2
theorem ev_andVF (h : ma δ = .ok (.bool p, δ1)) (hp : p = false) : mAndV ma mb δ = .ok (.bool false, δ1) := by
  subst hp
  unfold mAndV
  rw [h]
theorem ev_orVT (h : ma δ = .ok (.bool p, δ1)) (hp : p = true) : mOrV ma mb δ = .ok (.bool true, δ1) := by
  subst hp
  unfold mOrV
  rw [h]
theorem ev_orVF (h : ma δ = .ok (.bool p, δ1)) (hp : p = false) (h2 : mb δ1 = re) : mOrV ma mb δ = re := by
  subst hp
  unfold mOrV
  rw [h]; exact h2
/-- both ways at once, where the state stays -/
theorem ev_andV (h : ma δ = .ok (.bool p, δ)) (h2 : p = true → mb δ = .ok (.bool q, δ)) : mAndV ma mb δ = .ok (.bool (p && q), δ) := by
  unfold mAndV
  rw [h]
  cases p with
  | true => exact h2 rfl
  | false => rfl
theorem ev_orV (h : ma δ = .ok (.bool p, δ)) (h2 : p = false → mb δ = .ok (.bool q, δ)) : mOrV ma mb δ = .ok (.bool (p || q), δ) := by
  unfold mOrV
  rw [h]
  cases p with
  | true => rfl
  | false => exact h2 rfl
theorem ev_notV (h : ma δ = .ok (.bool p, δ1)) (hq : (!p) = q) : mNotV ma δ = .ok (.bool q, δ1) := by
  unfold mNotV
  rw [h, ← hq]
theorem ev_ifeT (h : t δ = .ok (p, δ1)) (hp : p = true) (h2 : ma δ1 = re) : mIf t ma mb δ = re := by
  subst hp
  unfold mIf
  rw [h]; exact h2
theorem ev_ifeF (h : t δ = .ok (p, δ1)) (hp : p = false) (h2 : mb δ1 = re) : mIf t ma mb δ = re := by
  subst hp
  unfold mIf
  rw [h]; exact h2
theorem ev_chainT {g : PyData → PyData → Res PyData} (h1 : ma δ = .ok (x, δ1)) (h2 : mb δ1 = .ok (y, δ2)) (h3 : f x y = .ok (.bool p)) (hp : p = true) (h4 : mc δ2 = .ok (z, δ3)) (h5 : g y z = .ok d) : mChain f g ma mb mc δ = .ok (d, δ3) := by
  subst hp
  unfold mChain
  rw [h1]; simp only []
  rw [h2]; simp only []
  rw [h3]; simp only []
  rw [h4]; simp only []
  rw [h5]
theorem ev_chainF {g : PyData → PyData → Res PyData} (h1 : ma δ = .ok (x, δ1)) (h2 : mb δ1 = .ok (y, δ2)) (h3 : f x y = .ok (.bool p)) (hp : p = false) : mChain f g ma mb mc δ = .ok (.bool false, δ2) := by
  subst hp
  unfold mChain
  rw [h1]; simp only []
  rw [h2]; simp only []
  rw [h3]
/-! statements -/
theorem ev_seq (h : a δ = .ok (.nx, δ1)) (h2 : b δ1 = r) : mSeq a b δ = r := by
  unfold mSeq
  rw [h]; exact h2
theorem ev_seqR (h : a δ = .ok (.rt s, δ1)) : mSeq a b δ = .ok (.rt s, δ1) := by
  unfold mSeq
  rw [h]
theorem ev_next : mNext δ = .ok (.nx, δ) := rfl
theorem ev_ret (h : mn δ = .ok (s, δ1)) : mRet mn δ = .ok (.rt s, δ1) := by
  unfold mRet
  rw [h]
theorem ev_drop (h : mn δ = .ok (s, δ1)) : mDrop mn δ = .ok (.nx, δ1) := by
  unfold mDrop
  rw [h]
theorem ev_ifT (h : t δ = .ok (p, δ1)) (hp : p = true) (h2 : a δ1 = r) : mIfS t a b δ = r := by
  subst hp
  unfold mIfS
  rw [h]; exact h2
theorem ev_ifF (h : t δ = .ok (p, δ1)) (hp : p = false) (h2 : b δ1 = r) : mIfS t a b δ = r := by
  subst hp
  unfold mIfS
  rw [h]; exact h2
theorem ev_set (h : mn δ = .ok (s, δ1)) (hi : i < δ1.length) (h2 : δ1.set i s = δ2) : mSet i mn δ = .ok (.nx, δ2) := by
  unfold mSet
  rw [h]; simp only []
  rw [if_pos hi, h2]
theorem ev_asg {g : PyData → Ev → Res Ev} (h : m δ = .ok (d, δ1)) (h2 : g d δ1 = .ok δ2) : mAsg m g δ = .ok (.nx, δ2) := by
  unfold mAsg
  rw [h]; simp only []
  rw [h2]
theorem ev_par (h : as δ = .ok ([x, y], δ1)) (hi : i < δ1.length ∧ j < δ1.length) (h2 : (δ1.set i (.val x)).set j (.val y) = δ2) : mPar i j as δ = .ok (.nx, δ2) := by
  unfold mPar
  rw [h]; simp only []
  rw [if_pos hi, h2]
theorem ev_par3 (h : as δ = .ok ([x, y, z], δ1)) (hi : i < δ1.length ∧ j < δ1.length ∧ n < δ1.length) (h2 : ((δ1.set i (.val x)).set j (.val y)).set n (.val z) = δ2) : mPar3 i j n as δ = .ok (.nx, δ2) := by
  unfold mPar3
  rw [h]; simp only []
  rw [if_pos hi, h2]
theorem ev_for {mi : MA} {g : PyData → Ev → Res Ev} (h : mi δ = .ok (ds, δ1)) (h2 : forL g b ds δ1 = r) : mFor mi g b δ = r := by
  unfold mFor
  rw [h]; exact h2
/-! targets -/
theorem ev_gset (hi : i < δ.length) (h2 : δ.set i (.val d) = δ1) : gSet i d δ = .ok δ1 := by
  unfold gSet
  rw [if_pos hi, h2]
theorem ev_gsnil : gsNil [] δ = .ok δ := rfl
theorem ev_gscons {g : PyData → Ev → Res Ev} {gs : List PyData → Ev → Res Ev} (h : g d δ = .ok δ1) (h2 : gs ds δ1 = .ok δ2) : gsCons g gs (d :: ds) δ = .ok δ2 := by
  show (match g d δ with | .ok δ1 => gs ds δ1 | .err c d => .err c d | .no => .no) = _
  rw [h]; exact h2
theorem ev_gtup {gs : List PyData → Ev → Res Ev} (hl : ds.length = n) (h : gs ds δ = .ok δ1) : gsTup n gs (.tuple ds) δ = .ok δ1 := by
  show (if ds.length = n then gs ds δ else .no) = _
  rw [if_pos hl, h]
theorem ev_gtupL {gs : List PyData → Ev → Res Ev} (hl : ds.length = n) (h : gs ds δ = .ok δ1) : gsTup n gs (.list ds) δ = .ok δ1 := by
  show (if ds.length = n then gs ds δ else .no) = _
  rw [if_pos hl, h]
theorem ev_gix {k : Int} (hw : wasOwn i δ = true) (h : m δ = .ok (.int k, δ1)) (h1 : δ1[i]? = some s) (h2 : s.isOwn = some xs) (h3 : ixN xs.length k = some j) (h4 : δ1.set i (s.put (xs.set j d)) = δ2) : gsIx i m d δ = .ok δ2 := by
  unfold gsIx
  rw [if_pos hw, h]; simp only []
  rw [h1]; simp only []
  rw [h2]; simp only []
  rw [h3]; simp only []
  rw [h4]
/-! items -/
theorem ev_items (h : m δ = .ok (d, δ1)) (h2 : itemsD d = .ok ds) : mItems m δ = .ok (ds, δ1) := by
  unfold mItems
  rw [h]; simp only []
  rw [h2]
theorem ev_rng1 {k : Int} (h : as δ = .ok ([.int k], δ1)) (h2 : rOk k = true) : mRng1 as δ = .ok (rngD 0 k.toNat, δ1) := by
  unfold mRng1
  rw [h]; simp only []
  rw [if_pos h2]
theorem ev_rng2 {k l : Int} (h : as δ = .ok ([.int k, .int l], δ1)) (h2 : (rOk k && rOk l) = true) : mRng2 as δ = .ok (rngD k (l - k).toNat, δ1) := by
  unfold mRng2
  rw [h]; simp only []
  rw [if_pos h2]
theorem ev_en (h : as δ = .ok ([d], δ1)) (h2 : seqD d = .ok ds) : mEn as δ = .ok (enD ds, δ1) := by
  unfold mEn
  rw [h]; simp only []
  rw [h2]
theorem ev_zp {st : Bool} (h : as δ = .ok ([x, y], δ1)) (h2 : seqD x = .ok ds) (h3 : seqD y = .ok es) (h4 : (!st || ds.length == es.length) = true) : mZp st as δ = .ok (zpD ds es, δ1) := by
  unfold mZp
  rw [h]; simp only []
  rw [h2]; simp only []
  rw [h3]; simp only []
  rw [if_pos h4]
theorem ev_ixv (h1 : δ[i]? = some (.val x)) (h2 : m δ = .ok (y, δ1)) (h3 : δ1[i]? = some (.val z)) (h4 : fIx x y = .ok d) : mIxV i m δ = .ok (d, δ1) := by
  unfold mIxV
  rw [h1]; simp only []
  rw [h2]; simp only []
  rw [h3]
  show (match fIx x y with | .ok d => Res.ok (d, δ1) | .err c d => .err c d | .no => .no) = _
  rw [h4]
theorem ev_ixo {k : Int} {s1 : Sl} (h1 : δ[i]? = some s) (h2 : s.isOwn = some ys) (h3 : m δ = .ok (.int k, δ1)) (h4 : δ1[i]? = some s1) (h5 : s1.isOwn = some xs) (h6 : atI xs k = some d) : mIxV i m δ = .ok (d, δ1) := by
  unfold mIxV
  rw [h1]; simp only []
  rw [h3]; simp only []
  rw [h4]; simp only []
  rw [h2, h5]
  show (match (match atI xs k with | some d => Res.ok d | none => .no) with | .ok d => Res.ok (d, δ1) | .err c d => .err c d | .no => .no) = _
  rw [h6]
theorem ev_ownM {g : List PyData → List PyData → Res (PyData × List PyData)} (hw : wasOwn i δ = true) (h : as δ = .ok (ds, δ1)) (h1 : δ1[i]? = some s) (h2 : s.isOwn = some xs) (h3 : g xs ds = .ok (d, ys)) (h4 : δ1.set i (s.put ys) = δ2) : mOwnM i g as δ = .ok (d, δ2) := by
  unfold mOwnM
  rw [if_pos hw, h]; simp only []
  rw [h1]; simp only []
  rw [h2]; simp only []
  rw [h3]; simp only []
  rw [h4]
theorem ev_nopart : mNoPart δ = .ok (none, δ) := rfl
theorem ev_part {k : Int} (h : m δ = .ok (.int k, δ1)) : mPart m δ = .ok (some k, δ1) := by
  unfold mPart
  rw [h]
theorem ev_slice {ml mh : MO} {lo hi : Option Int} (h : m δ = .ok (x, δ1)) (h1 : ml δ1 = .ok (lo, δ2)) (h2 : mh δ2 = .ok (hi, δ3)) (h3 : fSl x lo hi = .ok s) : mSlice m ml mh δ = .ok (s, δ3) := by
  unfold mSlice
  rw [h]; simp only []
  rw [h1]; simp only []
  rw [h2]; simp only []
  rw [h3]
theorem ev_lrg1 {k : Int} (h : m δ = .ok (.int k, δ1)) (h2 : -4611686018427387904 ≤ k ∧ k ≤ 16777216) : mLRg1 m δ = .ok (.own (rngD 0 k.toNat), δ1) := by
  unfold mLRg1
  rw [h]
  exact if_pos h2
theorem ev_idx (h : ma δ = .ok (.list xs, δ1)) (h2 : mb δ1 = .ok (d, δ2)) (h3 : SeqAt.shaped (.list xs) = true ∧ SeqAt.shaped d = true) (h4 : idxD d xs = some j) : mIdx ma mb δ = .ok (.int (j : Nat), δ2) := by
  unfold mIdx
  rw [h]; simp only []
  rw [h2]; simp only []
  rw [if_pos h3, h4]
/-! a look at owned lists -/
theorem ev_bor (hs : δ.map Sl.see = δ0) (h : m δ0 = .ok (d, δ1)) (h2 : scD d = true) : mBor m δ = .ok (d, δ) := by
  subst hs
  unfold mBor
  rw [h]
  exact if_pos h2
/-! calls -/
theorem ev_fn (h : a (δ ++ List.replicate nl .emp) = .ok (.rt s, δ1)) (h2 : outA δ δ1 = .ok δ2) : fnM nl a δ = .ok (s, δ2) := by
  unfold fnM
  rw [h]; simp only []
  rw [h2]
theorem ev_fnN (h : a (δ ++ List.replicate nl .emp) = .ok (.nx, δ1)) (h2 : outA δ δ1 = .ok δ2) : fnM nl a δ = .ok (.val .none, δ2) := by
  unfold fnM
  rw [h]; simp only []
  rw [h2]
variable {fm : FM} {s2 : Sl} {rest vs : Ev}
theorem ev_callV (h : as δ = .ok (ds, δ1)) (hn : ds.length = n) (hv : ds.map .val = vs) (h2 : fm vs = .ok (s, δ2)) (h3 : resV s = some s2) : mCallV n fm as δ = .ok (s2, δ1) := by
  subst hv
  unfold mCallV
  rw [h]; simp only []
  rw [if_pos hn, h2]; simp only []
  rw [h3]
theorem ev_callO {ix : List Nat} {k l : Nat} {ak : MA} (h : as δ = .ok (ds, δ1)) (h1 : ak δ1 = .ok (es, δ2)) (hn : ds.length = n ∧ es.length = k ∧ (inOrder ix (ds ++ es)).length = l) (hv : (inOrder ix (ds ++ es)).map .val = vs) (h2 : fm vs = .ok (s, δ3)) (h3 : resV s = some s2) : mCallO ix n k l fm as ak δ = .ok (s2, δ2) := by
  subst hv
  unfold mCallO
  rw [h]; simp only []
  rw [h1]; simp only []
  rw [if_pos hn, h2]; simp only []
  rw [h3]
theorem ev_callI {s0 : Sl} (hw : wasOwn i δ = true) (h : as δ = .ok (ds, δ1)) (h1 : δ1[i]? = some s0) (h2 : s0.isOwn = some xs) (hn : ds.length + 1 = n) (hv : ds.map .val = vs) (h3 : fm (.io 0 xs :: vs) = .ok (s, .io 0 ys :: rest)) (h4 : resV s = some s2) (h5 : δ1.set i (s0.put ys) = δ2) : mCallI i n fm as δ = .ok (s2, δ2) := by
  subst hv
  unfold mCallI
  rw [if_pos hw, h]; simp only []
  rw [h1]; simp only []
  rw [h2]; simp only []
  rw [if_pos hn, h3]; simp only []
  rw [h4]; simp only []
  rw [h5]
theorem ev_callT (h0 : mn δ = .ok (.own xs, δ1)) (h : as δ1 = .ok (ds, δ2)) (hn : ds.length + 1 = n) (hv : ds.map .val = vs) (h3 : fm (.io 0 xs :: vs) = .ok (s, .io 0 ys :: rest)) (h4 : resV s = some s2) : mCallT n fm mn as δ = .ok (s2, δ2) := by
  subst hv
  unfold mCallT
  rw [h0]; simp only []
  rw [h]; simp only []
  rw [if_pos hn, h3]; simp only []
  rw [h4]
theorem ev_lc {mi : MA} {g : PyData → Ev → Res Ev} {vs : List Nat} (h : mi δ = .ok (ds, δ1)) (h1 : calmAt δ1 vs = true) (hc : clr δ1 vs = δ0) (h2 : lcL g t m vs ds [] δ0 = .ok (ys, δ2)) (h3 : bck δ1 vs δ2 = δ3) : mLc mi g t m vs δ = .ok (.own ys, δ3) := by
  subst hc
  unfold mLc
  rw [h]; simp only []
  rw [if_pos h1, h2]; simp only []
  rw [h3]
theorem clr_nil : clr δ [] = δ := rfl
theorem clr_cons {v : Nat} {vs : List Nat} : clr δ (v :: vs) = (clr δ vs).set v .emp := rfl
theorem bck_nil : bck δ0 [] δ = δ := rfl
theorem bck_cons {v : Nat} {vs : List Nat} : bck δ0 (v :: vs) δ = (match δ0[v]? with | some s => (bck δ0 vs δ).set v s | none => bck δ0 vs δ) := rfl
theorem ev_yes : mYes δ = .ok (true, δ) := rfl
end
end CW

namespace CW
open PySem PySem.Spec PyProof.Rows L2
section
variable {X : Cx} {K : PySem.W.Frag} {mg : Str → Option Value}
section
variable {ρ : Nat → Addr} {Fr F F' H H' : Hp} {δ δ' : Ev} {σ σ' : L2.St} {s : Sl} {o : Option V}
theorem Rel.toEnd (r : Rel K mg ρ Fr F (s :: δ) (o :: σ) H) : Rel K mg ρ Fr F (δ ++ [s]) (σ ++ [o]) H := by
  obtain ⟨L, ⟨A, B, rfl, a1, a2⟩, h2, h3⟩ := r.own
  have e : SlotsR K mg ρ F H [s] [o] A := ⟨A, [], by simp, a1, rfl⟩
  have p : (A ++ B).Perm (B ++ A) := List.perm_append_comm
  exact ⟨r.sub, r.fr, r.dis, B ++ A, slotsR_join a2 e, p.nodup_iff.mp h2, fun x hx => h3 x (p.mem_iff.mpr hx)⟩
theorem Rel.ofEnd (hl : δ.length = σ.length) (r : Rel K mg ρ Fr F (δ ++ [s]) (σ ++ [o]) H) : Rel K mg ρ Fr F (s :: δ) (o :: σ) H := by
  obtain ⟨L, h1, h2, h3⟩ := r.own
  obtain ⟨B, A, rfl, a1, a2⟩ := slotsR_split hl h1
  obtain ⟨A1, A2, rfl, b1, b2⟩ := a2
  have e : A2 = [] := b2
  subst e
  have p : (B ++ (A1 ++ [])).Perm (A1 ++ B) := by
    rw [List.append_nil]
    exact List.perm_append_comm
  exact ⟨r.sub, r.fr, r.dis, A1 ++ B, ⟨A1, B, rfl, b1, a1⟩, p.nodup_iff.mp h2, fun x hx => h3 x (p.mem_iff.mpr hx)⟩
/-- the first slot waits in the frame -/
theorem Rel.hide1 (r : Rel K mg ρ Fr F (s :: δ) (o :: σ) H) : ∃ Fr', Rel K mg ρ Fr' F δ σ H ∧ ∀ {F' H' : Hp} {ts : Ev} {us : L2.St}, Same F F' → Rel K mg ρ Fr' F' ts us H' → Rel K mg ρ Fr F' (s :: ts) (o :: us) H' := by
  have hl : δ.length = σ.length := by simpa using r.len
  obtain ⟨Fr', h1, _, h3⟩ := Rel.hideJ hl r.toEnd
  exact ⟨Fr', h1, fun e r' => (h3 e r').ofEnd r'.len⟩
end
/-! a, b = .., .. where new lists go into names of their own -/
def mParN (i j : Nat) (m1 m2 : MN) : MS := fun δ => match m1 δ with
  | .ok (s1, δ1) => (match m2 δ1 with
    | .ok (s2, δ2) => if i < δ2.length ∧ j < δ2.length ∧ i ≠ j then .ok (.nx, (δ2.set i s1).set j s2) else .no
    | .err c d => .err c d
    | .no => .no)
  | .err c d => .err c d
  | .no => .no
theorem sn_parN {i j : Nat} {t1 t2 : TE} {m1 m2 : MN} (h1 : SndN K mg t1 m1) (h2 : SndN K mg t2 m2) : SndS K mg (tPar i j (tCons t1 (tCons t2 tNil))) (mParN i j m1 m2) := fun {ρ Fr F δ σ H c δ'} r e {D} q => by
  unfold mParN at e
  split at e
  · rename_i s1 δ1 e1
    split at e
    · rename_i s2 δ2 e2
      split at e
      · rename_i hi
        cases e
        refine h1 r e1 fun F1 v H1 t1 r1 => ?_
        obtain ⟨Fr', k1, k2⟩ := r1.hide1
        refine h2 k1 e2 fun F2 w H2 t2 r2 => ?_
        have r3 := (k2 t2 r2).swap2
        have r4 : Rel K mg ρ Fr F2 ((s1 :: δ2).set (j + 1) s2) ((some v :: σ).set (j + 1) (some w)) H2 := Rel.set (δ := s1 :: δ2) (σ := some v :: σ) (i := j + 1) r3 (by simp; omega)
        rw [List.set_cons_succ, List.set_cons_succ] at r4
        have r5 := r4.set (i := i) (by rw [List.length_set]; exact hi.1)
        rw [List.set_comm _ _ (Ne.symm hi.2.2), List.set_comm _ _ (Ne.symm hi.2.2)] at r5
        exact ⟨v, w, rfl, q F2 _ H2 (t1.trans t2) r5⟩
      · cases e
    · cases e
    · cases e
  · cases e
  · cases e
theorem rs_parN (i j : Nat) {x y : Str} {a b : Expr} {t1 t2 : TE} {m1 m2 : MN} {px py pt pos : Pos} {kt k2 pt2} (hc : X.calm = true) (hN : X.N.Nodup) (ha : RN X a t1 m1) (hb : RN X b t2 m2) (hi : X.N[i]? = some x := by rfl) (hj : X.N[j]? = some y := by rfl) (hij : i ≠ j := by decide)
    (hx : X.env.scope.names.lookup x = some .local := by rfl) (hy : X.env.scope.names.lookup y = some .local := by rfl)
    (hw : swappedStores [.Tuple [.Name x px, .Name y py] kt pt] (.Tuple [a, b] k2 pt2) X.env = pure (some [x, y]) := by rfl)
    (hs : swapsWithSole [.Tuple [.Name x px, .Name y py] kt pt] (.Tuple [a, b] k2 pt2) pos.line X.env = pure false := by rfl)
    (hq : starEach [a, b] X.env = (false, eval a X.env) :: starEach [b] X.env := by rfl) (hq2 : starEach [b] X.env = (false, eval b X.env) :: starEach [] X.env := by rfl) :
    RS X (.Assign [.Tuple [.Name x px, .Name y py] kt pt] (.Tuple [a, b] k2 pt2) pos) (tPar i j (tCons t1 (tCons t2 tNil))) (mParN i j m1 m2) := ⟨ps_par hc hN hi hj hij hx hy (pa_cons ha.pe (pa_cons hb.pe pa_nil hq2) hq) hw hs, sn_parN ha.sn hb.sn⟩
theorem ev_parN {i j : Nat} {m1 m2 : MN} {δ δ1 δ2 δ3 : Ev} {s1 s2 : Sl} (h1 : m1 δ = .ok (s1, δ1)) (h2 : m2 δ1 = .ok (s2, δ2)) (hi : i < δ2.length ∧ j < δ2.length ∧ i ≠ j) (h3 : (δ2.set i s1).set j s2 = δ3) : mParN i j m1 m2 δ = .ok (.nx, δ3) := by
  unfold mParN
  rw [h1]; simp only []
  rw [h2]; simp only []
  rw [if_pos hi, h3]
/-! a test that looks at lists that stay owned -/
def mBorT (m : MT) : MT := fun δ => match m (δ.map Sl.see) with
  | .ok (b, _) => .ok (b, δ)
  | .err c d => .err c d
  | .no => .no
theorem sn_borT {t : TT} {m : MT} (h : SndT K mg t m) : SndT K mg t (mBorT m) := fun {ρ Fr F δ σ H d δ'} r e {Q} q => by
  unfold mBorT at e
  split at e
  · rename_i d' δ1 e1
    cases e
    obtain ⟨F1, s1, r1, back⟩ := r.bor
    refine h r1 e1 fun F2 H2 s2 r2 => ?_
    obtain ⟨L, hL, s3, mk⟩ := back (ss := []) (os := []) s2 r2 rfl
    exact q _ H2 s3 (mk [] fun Ls z => z)
  · cases e
  · cases e
theorem RT.bor {e : Expr} {t : TT} {m : MT} (h : RT X e t m) : RT X e t (mBorT m) := ⟨h.pt, sn_borT h.sn⟩
theorem ev_borT {m : MT} {δ δ0 δ1 : Ev} {p : Bool} (hs : δ.map Sl.see = δ0) (h : m δ0 = .ok (p, δ1)) : mBorT m δ = .ok (p, δ) := by
  subst hs
  unfold mBorT
  rw [h]
end
end CW

namespace CW
open PySem PySem.Spec PyProof.Rows L2
section
variable {X : Cx} {K : PySem.W.Frag} {mg : Str → Option Value}
/-! operators whose answer is a new list -/
def OpN (K : PySem.W.Frag) (mg : Str → Option Value) (r : R2) (f : PyData → PyData → Res Sl) : Prop := ∀ {ρ : Nat → Addr} {Fr F : Hp} {δ : Ev} {σ : L2.St} {H : Hp} {x y : V} {a b : PyData} {s : Sl}, Rel K mg ρ Fr F δ σ H → Dp K F x a → Dp K F y b → f a b = .ok s →
  ∀ {Q : VK}, (∀ F' v H', Same F F' → Rel K mg ρ Fr F' (s :: δ) (some v :: σ) H' → Q v H') → r x y H Q
def mOpN (f : PyData → PyData → Res Sl) (ma mb : ME) : MN := fun δ => match ma δ with
  | .ok (x, δ1) => (match mb δ1 with
    | .ok (y, δ2) => (match f x y with
      | .ok s => .ok (s, δ2)
      | .err c d => .err c d
      | .no => .no)
    | .err c d => .err c d
    | .no => .no)
  | .err c d => .err c d
  | .no => .no
theorem sn_opN {r : R2} {f} {ta tb : TE} {ma mb : ME} (ho : OpN K mg r f) (ha : SndE K mg ta ma) (hb : SndE K mg tb mb) : SndN K mg (tOp r ta tb) (mOpN f ma mb) := fun {ρ Fr F δ σ H s δ'} r e {Q} q => by
  unfold mOpN at e
  split at e
  · rename_i x δ1 e1
    split at e
    · rename_i y δ2 e2
      split at e
      · rename_i z e3
        cases e
        exact ha r e1 fun F1 v H1 s1 r1 d1 => hb r1 e2 fun F2 u H2 s2 r2 d2 => ho r2 (d1.up s2) d2 e3 fun F3 z H3 s3 r3 => q F3 z H3 ((s1.trans s2).trans s3) r3
      · cases e
      · cases e
    · cases e
    · cases e
  · cases e
  · cases e
def fAddN : PyData → PyData → Res Sl
  | .list xs, .list ys => if xs.length + ys.length ≤ sizeLine then .ok (.own (xs ++ ys)) else .no
  | _, _ => .no
theorem opn_add : OpN K mg (rCatS K) fAddN := fun {ρ Fr F δ σ H x y a b s} r dx dy e {Q} q => by
  unfold fAddN at e
  split at e
  · split at e
    · rename_i xs ys hz
      cases e
      cases dx with
      | lst h1 d1 =>
        cases dy with
        | lst h2 d2 => exact ⟨_, _, _, _, rfl, rfl, sqL_mono r.sub h1, sqL_mono r.sub h2, by rw [dpa_len d1, dpa_len d2]; exact hz, fun p hp => q F _ _ (Same.refl _) (r.temp hp (dpa_app d1 d2))⟩
    · cases e
  · cases e
theorem rn_addL {a b : Expr} {ta tb : TE} {ma mb : ME} {pos : Pos} (ha : RE X a ta ma) (hb : RE X b tb mb) : RN X (.BinOp a .Add b pos) (tOp (rCatS X.K) ta tb) (mOpN fAddN ma mb) := ⟨pe_op op_catS ha.pe hb.pe, sn_opN opn_add ha.sn hb.sn⟩
/-- xs * k of any list -/
def rRepS (K : PySem.W.Frag) : R2 := fun x y H Q => ∃ l k xs, x = .ref l ∧ y = .int k ∧ SqL K H l xs ∧ -(2 ^ 63) ≤ k ∧ k < 2 ^ 63 ∧ xs.length * k.toNat ≤ sizeLine ∧ ∀ p, H p = none → Q (.ref p) (upd H p (.lst (List.replicate k.toNat xs).flatten))
theorem op_repS : OpR X (binaryOp .Mult) (rRepS X.K) := by
  intro pins s σ H x y v u Q I rx ry h
  obtain ⟨l, k, xs, rfl, rfl, hs, h1, h2, hz, q⟩ := h
  cases rx
  obtain ⟨t, rfl⟩ := ry
  obtain ⟨its, rv, ⟨⟨cls, dd, data, sl⟩, n, ho, hc, hdn, hd⟩, hlen⟩ := I.list hs
  simp only at hc hd
  subst hc hd
  have hl := rv.length
  have hz' : its.toArray.size * k.toNat ≤ sizeLine := by rw [List.size_toArray, ← hl]; exact hz
  have cap : (sizeLine : Nat) ≤ (2 ^ 63 - 1) / 8 := by decide
  refine wpAny_binaryOp_repeat_ref (T := "list") (U := "int") (by decide) ⟨_, ho, rfl⟩ (fun s' => typeIs_int s' k t) noFill_list_mul PySem.F.fills_int_mul PySem.F.slot_int_rmul repeat_list PySem.F.slot_int_index.lookup
    (call_meets PySem.F.slot_int_rmul (typeIs_int s k t) PySem.F.entry_int_rmul (PySem.F.args_int_rmul_2 _ _) (lm_int_rmul_list_any k t l its.toArray n dd sl)
      ⟨ho, rfl, ⟨_, ho, rfl⟩, call_meets PySem.F.slot_list_mul ⟨_, ho, rfl⟩ PySem.F.entry_list_mul (PySem.F.args_list_mul_2 _ _)
        (lm_list_mul_any l its.toArray n dd sl k t (by rw [fitsIndex_both h1 h2]; exact Bool.false_ne_true) (by omega) (by rw [notLongL hz']; exact Bool.false_ne_true)) ⟨ho, ?_⟩⟩)
  rw [listMul_foldl_if]
  exact ⟨.ref _, _, I.lnew (t' := s.toks) (rv.rep k.toNat) (by rw [PyProof.Rows.lm_len_rep_flat, Nat.mul_comm]; exact hz), rfl, q _ I.fresh⟩
def fRepN : PyData → PyData → Res Sl
  | .list xs, .int k => if -(2 ^ 63) ≤ k ∧ k < 2 ^ 63 ∧ xs.length * k.toNat ≤ sizeLine then .ok (.own (List.replicate k.toNat xs).flatten) else .no
  | _, _ => .no
theorem dpa_rep {F : Hp} {vs : List V} {xs : List PyData} (h : DpAll K F vs xs) : ∀ n : Nat, DpAll K F (List.replicate n vs).flatten (List.replicate n xs).flatten
  | 0 => .nil
  | n + 1 => by
    rw [List.replicate_succ, List.replicate_succ, List.flatten_cons, List.flatten_cons]
    exact dpa_app h (dpa_rep h n)
theorem opn_rep : OpN K mg (rRepS K) fRepN := fun {ρ Fr F δ σ H x y a b s} r dx dy e {Q} q => by
  unfold fRepN at e
  split at e
  · split at e
    · rename_i xs k hz
      cases e
      cases dx with
      | lst h1 d1 =>
        cases dy
        exact ⟨_, _, _, rfl, rfl, sqL_mono r.sub h1, hz.1, hz.2.1, by rw [dpa_len d1]; exact hz.2.2, fun p hp => q F _ _ (Same.refl _) (r.temp hp (dpa_rep d1 _))⟩
    · cases e
  · cases e
theorem rn_repL {a b : Expr} {ta tb : TE} {ma mb : ME} {pos : Pos} (ha : RE X a ta ma) (hb : RE X b tb mb) : RN X (.BinOp a .Mult b pos) (tOp (rRepS X.K) ta tb) (mOpN fRepN ma mb) := ⟨pe_op op_repS ha.pe hb.pe, sn_opN opn_rep ha.sn hb.sn⟩
theorem ev_opN {f : PyData → PyData → Res Sl} {ma mb : ME} {δ δ1 δ2 : Ev} {x y : PyData} {s : Sl} (h1 : ma δ = .ok (x, δ1)) (h2 : mb δ1 = .ok (y, δ2)) (h3 : f x y = .ok s) : mOpN f ma mb δ = .ok (s, δ2) := by
  unfold mOpN
  rw [h1]; simp only []
  rw [h2]; simp only []
  rw [h3]
end
end CW

namespace CW
open PySem PySem.Spec PyProof.Rows L2
section
variable {X : Cx}
variable {elt tg iter : Expr} {ifs : List Expr} {scope : Scope} {own : List (Str × Nat)} {pos : Pos} {wi : TI} {mi : MA} {f : PyData → Ev → Res Ev} {mt : MT} {me : ME}
/-- name = [..] where nobody changes the new list: it is frozen at once -/
theorem rs_setLcF (own : List (Str × Nat)) (i : Nat) {y : Str} {py spos : Pos} (hc : X.calm = true) (hN : X.N.Nodup) (hi : RI X tg iter wi mi) (hg : ∀ s H C cl fp, ∃ g js, RG (BX X scope s H C cl fp) tg g f js ∧ ∀ k ∈ js, k ∈ own.map (·.2)) (ht : ∀ s H C cl fp, ∃ tt, RTs (BX X scope s H C cl fp) ifs tt mt)
    (he : ∀ s H C cl fp, ∃ te, RE (BX X scope s H C cl fp) elt te me) (ok : BlkOk X.N X.env.scope scope own := by exact blkOk_by rfl) (hs : ∀ x, foldedSetIterable iter X.env x = pure x := by intro _; rfl)
    (hy : X.N[i]? = some y := by rfl) (hyl : X.env.scope.names.lookup y = some .local := by rfl) (hsw : swapsWith (.ListComp elt [⟨tg, iter, ifs, 0⟩] scope pos) (some (.Name y py)) spos.line X.env = pure true := by rfl) :
    RS X (.Assign [.Name y py] (.ListComp elt [⟨tg, iter, ifs, 0⟩] scope pos) spos) (tAsg (tLc wi (cG X.K X.mg f (own.map (·.2))) (cT X.K X.mg mt) (cE X.K X.mg me) (own.map (·.2))) (gName i)) (mSet i (mVal (mFrz (mLc mi f mt me (own.map (·.2)))))) :=
  ⟨ps_setLc hc hN hy hyl hsw hi.pi ok (fun s H C cl fp => let ⟨_, _, r, j⟩ := hg s H C cl fp; r.canon j) (fun s H C cl fp => let ⟨_, r⟩ := ht s H C cl fp; r.canon) (fun s H C cl fp => let ⟨_, r⟩ := he s H C cl fp; r.canon) hs,
    sn_set i (sn_val (sn_frz (sn_lc hi.sn sn_cG sn_cT sn_cE fun _ h => h)))⟩
/-- the same while it looks at lists that stay owned -/
theorem rs_setLcB (own : List (Str × Nat)) (i : Nat) {y : Str} {py spos : Pos} (hc : X.calm = true) (hN : X.N.Nodup) (hi : RI X tg iter wi mi) (hg : ∀ s H C cl fp, ∃ g js, RG (BX X scope s H C cl fp) tg g f js ∧ ∀ k ∈ js, k ∈ own.map (·.2)) (ht : ∀ s H C cl fp, ∃ tt, RTs (BX X scope s H C cl fp) ifs tt mt)
    (he : ∀ s H C cl fp, ∃ te, RE (BX X scope s H C cl fp) elt te me) (ok : BlkOk X.N X.env.scope scope own := by exact blkOk_by rfl) (hs : ∀ x, foldedSetIterable iter X.env x = pure x := by intro _; rfl)
    (hy : X.N[i]? = some y := by rfl) (hyl : X.env.scope.names.lookup y = some .local := by rfl) (hsw : swapsWith (.ListComp elt [⟨tg, iter, ifs, 0⟩] scope pos) (some (.Name y py)) spos.line X.env = pure true := by rfl) :
    RS X (.Assign [.Name y py] (.ListComp elt [⟨tg, iter, ifs, 0⟩] scope pos) spos) (tAsg (tLc wi (cG X.K X.mg f (own.map (·.2))) (cT X.K X.mg mt) (cE X.K X.mg me) (own.map (·.2))) (gName i)) (mSet i (mBorN (mLc mi f mt me (own.map (·.2))))) :=
  ⟨ps_setLc hc hN hy hyl hsw hi.pi ok (fun s H C cl fp => let ⟨_, _, r, j⟩ := hg s H C cl fp; r.canon j) (fun s H C cl fp => let ⟨_, r⟩ := ht s H C cl fp; r.canon) (fun s H C cl fp => let ⟨_, r⟩ := he s H C cl fp; r.canon) hs,
    sn_set i (sn_borN (sn_lc hi.sn sn_cG sn_cT sn_cE fun _ h => h))⟩
theorem rs_setLcBF (own : List (Str × Nat)) (i : Nat) {y : Str} {py spos : Pos} (hc : X.calm = true) (hN : X.N.Nodup) (hi : RI X tg iter wi mi) (hg : ∀ s H C cl fp, ∃ g js, RG (BX X scope s H C cl fp) tg g f js ∧ ∀ k ∈ js, k ∈ own.map (·.2)) (ht : ∀ s H C cl fp, ∃ tt, RTs (BX X scope s H C cl fp) ifs tt mt)
    (he : ∀ s H C cl fp, ∃ te, RE (BX X scope s H C cl fp) elt te me) (ok : BlkOk X.N X.env.scope scope own := by exact blkOk_by rfl) (hs : ∀ x, foldedSetIterable iter X.env x = pure x := by intro _; rfl)
    (hy : X.N[i]? = some y := by rfl) (hyl : X.env.scope.names.lookup y = some .local := by rfl) (hsw : swapsWith (.ListComp elt [⟨tg, iter, ifs, 0⟩] scope pos) (some (.Name y py)) spos.line X.env = pure true := by rfl) :
    RS X (.Assign [.Name y py] (.ListComp elt [⟨tg, iter, ifs, 0⟩] scope pos) spos) (tAsg (tLc wi (cG X.K X.mg f (own.map (·.2))) (cT X.K X.mg mt) (cE X.K X.mg me) (own.map (·.2))) (gName i)) (mSet i (mVal (mFrz (mBorN (mLc mi f mt me (own.map (·.2))))))) :=
  ⟨ps_setLc hc hN hy hyl hsw hi.pi ok (fun s H C cl fp => let ⟨_, _, r, j⟩ := hg s H C cl fp; r.canon j) (fun s H C cl fp => let ⟨_, r⟩ := ht s H C cl fp; r.canon) (fun s H C cl fp => let ⟨_, r⟩ := he s H C cl fp; r.canon) hs,
    sn_set i (sn_val (sn_frz (sn_borN (sn_lc hi.sn sn_cG sn_cT sn_cE fun _ h => h))))⟩
end
end CW

namespace CW
open PySem PySem.Spec PyProof.Rows L2
section
variable {X : Cx} {K : PySem.W.Frag} {mg : Str → Option Value}
/-! the module's own data -/
theorem sn_glo {v : V} {d : PyData} (h : ∀ F, Dp K F v d) : SndE K mg (tC v) (mC d) := fun {ρ Fr F δ σ H d' δ'} r e {Q} q => by
  cases e
  exact q F v H (Same.refl _) r (h F)
theorem re_glo {x : Str} {d : PyData} {a : Addr} {pos : Pos} (hg : Gl X x) (hm : X.mg x = some (.ref a)) (h : ∀ F, Dp X.K F (.ref a) d) (hd : (x == ("__debug__" : Str)) = false := by decide) : RE X (.Name x pos) (tC (.ref a)) (mC d) :=
  ⟨pe_glob hg hm rfl hd, sn_glo h⟩
theorem re_gloI {x : Str} {i : Int} {pos : Pos} (hg : Gl X x) (hm : ∃ t, X.mg x = some (.int i t)) (hd : (x == ("__debug__" : Str)) = false := by decide) : RE X (.Name x pos) (tC (.int i)) (mC (.int i)) :=
  ⟨pe_glob hg hm.choose_spec ⟨_, rfl⟩ hd, sn_glo fun _ => .int i⟩
/-- a list of texts and ints that stands at the top -/
def dvD : PyData → Option He.Dv
  | .none => some .non
  | .bool b => some (.bl b)
  | .int i => some (.int i)
  | .str x => some (.str x)
  | _ => none
theorem dvD_dp {K : PySem.W.Frag} {F : Hp} {d : PyData} {v : He.Dv} (h : dvD d = some v) : Dp K F (v.v K) d := by
  cases d <;> cases h <;> constructor
theorem glo_lst {K : PySem.W.Frag} {x : Str} {vs : List He.Dv} {ds : List PyData} (h : He.lstB K x vs = true) (e : ds.map dvD = vs.map some) (F : Hp) : Dp K F (.ref (He.ga K x)) (.list ds) := by
  refine .lst (He.lstB_ok h F) ?_
  clear h
  induction ds generalizing vs with
  | nil => cases vs with
    | nil => exact .nil
    | cons => cases e
  | cons d ds ih => cases vs with
    | nil => cases e
    | cons v vs =>
      rw [List.map_cons, List.map_cons] at e
      injection e with e1 e2
      exact .cons (dvD_dp e1) (ih e2)
/-! xs.count(k) of ints -/
def mCnt (ma mb : ME) : ME := fun δ => match ma δ with
  | .ok (.list xs, δ1) => (match mb δ1 with
    | .ok (.int k, δ2) => (match intsOf xs with
      | some ns => .ok (.int (ns.count k : Nat), δ2)
      | none => .no)
    | .err c d => .err c d
    | _ => .no)
  | .err c d => .err c d
  | _ => .no
theorem sn_cnt {ta tb : TE} {ma mb : ME} (ha : SndE K mg ta ma) (hb : SndE K mg tb mb) : SndE K mg (tBM K "list" (rCntI K) ta (tCons tb tNil)) (mCnt ma mb) := fun {ρ Fr F δ σ H d δ'} r e {Q} q => by
  unfold mCnt at e
  split at e
  · rename_i xs δ1 e1
    split at e
    · rename_i k δ2 e2
      split at e
      · rename_i ns e3
        cases e
        refine ha r e1 fun F1 v H1 s1 r1 d1 => ?_
        cases d1 with
        | lst h1 da =>
          refine ⟨Or.inl ⟨rfl, _, sqL_mono r1.sub h1⟩, hb r1 e2 fun F2 u H2 s2 r2 d2 => ?_⟩
          cases d2
          have ev := dpa_intsOf da e3
          subst ev
          exact ⟨_, ns, k, rfl, rfl, sqL_mono (s2.trans r2.sub) h1, q F2 _ H2 (s1.trans s2) r2 (.int _)⟩
      · cases e
    · cases e
    · cases e
  · cases e
  · cases e
theorem re_cnt {o a : Expr} {t t' : TE} {m m' : ME} {apos cpos : Pos} (ho : RE X o t m) (ha : RE X a t' m')
    (hbase : attributeBase o "count" X.env (eval o X.env) = eval o X.env := by rfl)
    (hfew : ((backTo cpos (starEach [a] X.env)).all (fun x => !x.1) && (backToKw cpos (keywordEach [] X.env)).all (fun x => x.1.isSome)
      && decide (([a] : List Expr).length + ([] : List Keyword).length + (if ([] : List Keyword).isEmpty then 0 else 1) < 30)) = true := by rfl)
    (hline : (apos.endLine == cpos.line) = true := by rfl) (hs : starEach [a] X.env = (false, eval a X.env) :: starEach [] X.env := by rfl) (hplain : (backTo cpos (starEach [] X.env)).any (·.1) = false := by rfl) :
    RE X (.Call (.Attribute o "count" apos) [a] [] cpos) (tBM X.K "list" (rCntI X.K) t (tCons t' tNil)) (mCnt m m') :=
  ⟨pe_bm PySem.F.plainAttrs_list PySem.F.slot_list_count PySem.F.type_list_count mt_lcount ho.pe (pa_cons ha.pe pa_nil hs) hbase hfew hline hs hplain, sn_cnt ho.sn ha.sn⟩
theorem ev_cnt {ma mb : ME} {δ δ1 δ2 : Ev} {xs : List PyData} {ns : List Int} {k : Int} (h : ma δ = .ok (.list xs, δ1)) (h2 : mb δ1 = .ok (.int k, δ2)) (h3 : intsOf xs = some ns) : mCnt ma mb δ = .ok (.int (ns.count k : Nat), δ2) := by
  unfold mCnt
  rw [h]; simp only []
  rw [h2]; simp only []
  rw [h3]
/-! a, b, .. = x, y, .. by way of a tuple, new lists into names of their own -/
abbrev MNs := Ev → Res (List Sl × Ev)
structure RNs (X : Cx) (es : List Expr) (t : TA) (m : MNs) : Prop where
  pa : PA X es t
  sn : ∀ {ρ : Nat → Addr} {Fr F : Hp} {δ : Ev} {σ : L2.St} {H : Hp} {ss : List Sl} {δ' : Ev}, Rel X.K X.mg ρ Fr F δ σ H → m δ = .ok (ss, δ') →
    ∀ {Q : List V → Hp → Prop}, (∀ F' vs H', Same F F' → Rel X.K X.mg ρ Fr F' (ss ++ δ') (vs.map some ++ σ) H' → vs.length = ss.length → Q vs H') → t σ H Q
def mNsNil : MNs := fun δ => .ok ([], δ)
def mNsCons (m : MN) (ms : MNs) : MNs := fun δ => match m δ with
  | .ok (s, δ1) => (match ms δ1 with
    | .ok (ss, δ2) => .ok (s :: ss, δ2)
    | .err c d => .err c d
    | .no => .no)
  | .err c d => .err c d
  | .no => .no
theorem rns_nil : RNs X [] tNil mNsNil := ⟨pa_nil, fun {ρ Fr F δ σ H ss δ'} r e {Q} q => by
  cases e
  exact q F [] H (Same.refl _) r rfl⟩
theorem rns_cons {e : Expr} {es : List Expr} {t : TE} {u : TA} {m : MN} {ms : MNs} (ha : RN X e t m) (hs : RNs X es u ms) (hq : starEach (e :: es) X.env = (false, eval e X.env) :: starEach es X.env := by rfl) : RNs X (e :: es) (tCons t u) (mNsCons m ms) :=
  ⟨pa_cons ha.pe hs.pa hq, fun {ρ Fr F δ σ H ss δ'} r e {Q} q => by
    unfold mNsCons at e
    split at e
    · rename_i s1 δ1 e1
      split at e
      · rename_i ss2 δ2 e2
        cases e
        refine ha.sn r e1 fun F1 v H1 t1 r1 => ?_
        obtain ⟨Fr', k1, k2⟩ := r1.hide1
        refine hs.sn k1 e2 fun F2 ws H2 t2 r2 l2 => ?_
        exact q F2 (v :: ws) H2 (t1.trans t2) (k2 t2 r2) (by simp [l2])
      · cases e
      · cases e
    · cases e
    · cases e⟩
def putA : List Nat → List Sl → Ev → Option Ev
  | [], [], δ => some δ
  | i :: is, s :: ss, δ => if i < δ.length then putA is ss (δ.set i s) else none
  | _, _, _ => none
structure RNg (X : Cx) (es : List Expr) (t : TGs) (is : List Nat) : Prop where
  pg : PGs X es t
  sn : ∀ {ρ : Nat → Addr} {Fr F : Hp} {δ : Ev} {σ : L2.St} {H : Hp} {ss : List Sl} {vs : List V} {δ' : Ev}, Rel X.K X.mg ρ Fr F (ss ++ δ) (vs.map some ++ σ) H → vs.length = ss.length → putA is ss δ = some δ' →
    ∀ {Q : L2.St → Hp → Prop}, (∀ σ', Rel X.K X.mg ρ Fr F δ' σ' H → Q σ' H) → t vs σ H Q
theorem rng_nil : RNg X [] gNil [] := ⟨pgs_nil, fun {ρ Fr F δ σ H ss vs δ'} r hl e {Q} q => by
  cases ss with
  | nil =>
    cases vs with
    | nil =>
      cases e
      exact ⟨rfl, q σ r⟩
    | cons => simp at hl
  | cons => cases e⟩
theorem set_over {α : Type} (xs ys : List α) (i : Nat) (a : α) : (xs ++ ys).set (i + xs.length) a = xs ++ ys.set i a := by
  induction xs with
  | nil => rfl
  | cons x xs ih =>
    show x :: (xs ++ ys).set (i + xs.length) a = _
    rw [ih]; rfl
theorem rng_cons (i : Nat) {x : Str} {es : List Expr} {t : TGs} {is : List Nat} {pos : Pos} (hN : X.N.Nodup) (hs : RNg X es t is) (hi : X.N[i]? = some x := by rfl) (hx : Loc X.env.scope x := by first | exact .inl rfl | exact .inr rfl) (hf : X.fn x = true ∨ X.env.scope.names.lookup x = some .local := by first | exact .inl rfl | exact .inr rfl)
    : RNg X (.Name x pos :: es) (gCons (gName i) t) (i :: is) :=
  ⟨pgs_cons (pg_name hN hi hx hf) hs.pg, fun {ρ Fr F δ σ H ss vs δ'} r hl e {Q} q => by
    cases ss with
    | nil => cases e
    | cons s ss =>
      cases vs with
      | nil => simp at hl
      | cons v vs =>
        have l2 : vs.length = ss.length := by simpa using hl
        unfold putA at e
        split at e
        · rename_i hlt
          have r2 : Rel X.K X.mg ρ Fr F ((ss ++ δ).set (i + ss.length) s) ((vs.map some ++ σ).set (i + ss.length) (some v)) H := Rel.set (δ := ss ++ δ) (σ := vs.map some ++ σ) (i := i + ss.length) r (by simp; omega)
          rw [set_over] at r2
          have e3 : (vs.map some ++ σ).set (i + ss.length) (some v) = vs.map some ++ σ.set i (some v) := by
            have z := set_over (vs.map some) σ i (some v)
            rwa [List.length_map, l2] at z
          rw [e3] at r2
          exact ⟨v, vs, rfl, hs.sn r2 l2 e q⟩
        · cases e⟩
def mTupN (is : List Nat) (ms : MNs) : MS := fun δ => match ms δ with
  | .ok (ss, δ1) => if ss.length ≤ 100 then (match putA is ss δ1 with
    | some δ2 => .ok (.nx, δ2)
    | none => .no) else .no
  | .err c d => .err c d
  | .no => .no
theorem rs_tupN {is : List Nat} {n : Nat} {ts es : List Expr} {k1 k2} {t : TA} {g : TGs} {ms : MNs} {pt pt2 pos : Pos} (hc : X.calm = true) (ha : RNs X es t ms) (hg : RNg X ts g is) (hl : is.length = n := by rfl)
    (hn : (assignEach ts X.env).length = n := by rfl) (hst : (assignEach ts X.env).findIdx? (·.1) = none := by rfl)
    (hs : swapsWithSole [.Tuple ts k1 pt] (.Tuple es k2 pt2) pos.line X.env = pure false := by rfl) (hw : swappedStores [.Tuple ts k1 pt] (.Tuple es k2 pt2) X.env = pure none := by rfl)
    (h1 : (assignEach [.Tuple ts k1 pt] X.env).map (·.2) = [assign (.Tuple ts k1 pt) X.env] := by rfl) :
    RS X (.Assign [.Tuple ts k1 pt] (.Tuple es k2 pt2) pos) (tAsg (tTup t) (gTup X.K n g)) (mTupN is ms) :=
  ⟨ps_asg (pe_tup ha.pa) (pg_tup hc hg.pg hn hst) hs hw h1, fun {ρ Fr F δ σ H c δ'} r e {D} q => by
    unfold mTupN at e
    split at e
    · rename_i ss δ1 e1
      split at e
      · rename_i hz
        split at e
        · rename_i δ2 e2
          cases e
          refine ha.sn r e1 fun F1 vs H1 t1 r1 lv => ⟨by rw [sizeLine_eq]; omega, fun p hp => ?_⟩
          have r2 := r1.new (o := .tup vs) hp
          have ln : ∀ (is : List Nat) (ss : List Sl) (δ1 δ2 : Ev), putA is ss δ1 = some δ2 → is.length = ss.length := by
            intro is
            induction is with
            | nil => intro ss δ1 δ2 h; cases ss with
              | nil => rfl
              | cons => cases h
            | cons i is ih => intro ss δ1 δ2 h; cases ss with
              | nil => cases h
              | cons s ss =>
                unfold putA at h
                split at h
                · simp [ih _ _ _ h]
                · cases h
          refine ⟨p, vs, rfl, .inl (.inl upd_same), by rw [lv, ← ln _ _ _ _ e2, hl], ?_⟩
          exact hg.sn r2 lv e2 fun σ' r3 => q F1 _ _ t1 r3
        · cases e
      · cases e
    · cases e
    · cases e⟩
theorem ev_nsnil {δ : Ev} : mNsNil δ = .ok ([], δ) := rfl
theorem ev_nscons {m : MN} {ms : MNs} {δ δ1 δ2 : Ev} {s : Sl} {ss : List Sl} (h : m δ = .ok (s, δ1)) (h2 : ms δ1 = .ok (ss, δ2)) : mNsCons m ms δ = .ok (s :: ss, δ2) := by
  unfold mNsCons
  rw [h]; simp only []
  rw [h2]
theorem ev_tupN {is : List Nat} {ms : MNs} {δ δ1 δ2 : Ev} {ss : List Sl} (h : ms δ = .ok (ss, δ1)) (h2 : ss.length ≤ 100) (h3 : putA is ss δ1 = some δ2) : mTupN is ms δ = .ok (.nx, δ2) := by
  unfold mTupN
  rw [h]; simp only []
  rw [if_pos h2, h3]
end
theorem putA_nil {δ : Ev} : putA [] [] δ = some δ := rfl
theorem putA_cons {i : Nat} {is : List Nat} {s : Sl} {ss : List Sl} {δ δ1 : Ev} {r : Option Ev} (hi : i < δ.length) (h : δ.set i s = δ1) (h2 : putA is ss δ1 = r) : putA (i :: is) (s :: ss) δ = r := by
  unfold putA
  rw [if_pos hi, h, h2]
/-! the hook with one more look at the part of the heap -/
def hookG (n : Nat) (fa : List He.Fa) (fn : List He.DefD) (ex : PySem.W.Frag → Bool) : PySem.W.Hook where
  α := He.AlD × Bool
  obs := fun s => (He.obsDG n fa fn s.heap.get?, ex (He.frG s.heap.get? (He.asD s.heap.get? n)))
  val := fun _ => (He.valD fn, true)
  says := fun _ h => ∃ K : PySem.W.Frag, K.In h ∧ He.SaysD fa fn K ∧ ex K = true
  of := fun _ _ e => ⟨_, He.frG_in, congrArg (fun z : He.AlD × Bool => z.1) e, congrArg (fun z : He.AlD × Bool => z.2) e⟩
  keeps := fun _ _ _ ⟨K, hK, c⟩ k => ⟨K, PySem.W.Frag.In.keeps hK k, c⟩
def obsGG (n : Nat) (fa : List He.Fa) (fn : List He.DefD) (ex : PySem.W.Frag → Bool) (g : Addr → Option Obj) : He.AlD × Bool := (He.obsDG n fa fn g, ex (He.frG g (He.asD g n)))
theorem obsGG_eq {n : Nat} {fa : List He.Fa} {fn : List He.DefD} {ex : PySem.W.Frag → Bool} {g : Addr → Option Obj} {s : Shared} (h : ∀ a, g a = s.heap.get? a) : obsGG n fa fn ex g = (hookG n fa fn ex).obs s := by
  have e : g = s.heap.get? := funext h
  rw [e] <;> rfl
end CW

namespace CW
open PySem PySem.Spec PyProof.Rows L2
/-! tables from texts to ints: a dict of the top, a dict display -/
abbrev Tb := List (Str × Int)
def KTab (K : PySem.W.Frag) (w : World) (a : Addr) (tb : Tb) : Prop := (∃ es n, KDict K w a es n) ∧ ∀ z i, tb.lookup z = some i → ∃ u, PySem.W.nsIn K a z = some (some u) ∧ RelV (.int i) u
def mKd (tb : Tb) (m : ME) : ME := fun δ => match m δ with
  | .ok (.str z, δ1) => (match tb.lookup z with
    | some i => .ok (.int i, δ1)
    | none => .no)
  | .err c d => .err c d
  | _ => .no
/-- whether a key is there: only keys that are -/
def mKdIn (neg : Bool) (tb : Tb) (m : ME) : ME := fun δ => match m δ with
  | .ok (.str z, δ1) => (match tb.lookup z with
    | some _ => .ok (.bool (!neg), δ1)
    | none => .no)
  | .err c d => .err c d
  | _ => .no
section
variable {X : Cx} {K : PySem.W.Frag} {mg : Str → Option Value}
theorem sn_kd {w : World} {a : Addr} {tb : Tb} {t : TE} {m : ME} (hk : KTab K w a tb) (h : SndE K mg t m) : SndE K mg (tOp (rIxD K w) (tC (.ref a)) t) (mKd tb m) := fun {ρ Fr F δ σ H d δ'} r e {Q} q => by
  unfold mKd at e
  split at e
  · rename_i z δ1 e1
    split at e
    · rename_i i e2
      cases e
      refine h r e1 fun F1 v H1 s1 r1 d1 => ?_
      cases d1
      obtain ⟨⟨es, n, D⟩, hv⟩ := hk
      obtain ⟨u, k1, k2⟩ := hv _ _ e2
      exact ⟨a, _, .int i, rfl, rfl, ⟨es, n, u, D.at_, D.lit, k1, k2⟩, q F1 _ H1 s1 r1 (.int i)⟩
    · cases e
  · cases e
  · cases e
theorem re_kd {x : Str} {a : Addr} {tb : Tb} {e : Expr} {t : TE} {m : ME} {p pos : Pos} (hg : Gl X x) (hm : X.mg x = some (.ref a)) (hk : KTab X.K X.w a tb) (h : RE X e t m) (hs : PlainIx e := by exact fun _ _ => rfl) (hd : (x == ("__debug__" : Str)) = false := by decide) :
    RE X (.Subscript (.Name x p) e pos) (tOp (rIxD X.K X.w) (tC (.ref a)) t) (mKd tb m) := ⟨pe_ix ix_kdict (pe_glob hg hm rfl hd) h.pe hs, sn_kd hk h.sn⟩
def rKdIn (K : PySem.W.Frag) (a : Addr) (neg : Bool) : R2 := fun x y H Q => ∃ (z : Str) (r : Option Value), x = .str z ∧ y = .ref a ∧ PySem.W.nsIn K a z = some r ∧ Q (.bl (if neg = true then !r.isSome else r.isSome)) H
theorem sn_kdIn {w : World} {a : Addr} {tb : Tb} {t : TE} {m : ME} {neg : Bool} (hk : KTab K w a tb) (h : SndE K mg t m) : SndE K mg (tOp (rKdIn K a neg) t (tC (.ref a))) (mKdIn neg tb m) := fun {ρ Fr F δ σ H d δ'} r e {Q} q => by
  unfold mKdIn at e
  split at e
  · rename_i z δ1 e1
    split at e
    · rename_i i e2
      cases e
      refine h r e1 fun F1 v H1 s1 r1 d1 => ?_
      cases d1
      obtain ⟨_, hv⟩ := hk
      obtain ⟨u, k1, k2⟩ := hv _ _ e2
      refine ⟨_, some u, rfl, rfl, k1, ?_⟩
      have q1 := q F1 (.bl (!neg)) H1 s1 r1 (.bl _)
      cases neg <;> exact q1
    · cases e
  · cases e
  · cases e
theorem op_kdIn {a : Addr} {es : Array DictEntry} {n : Nat} (D : KDict X.K X.w a es n) : OpR X (compareOp .In) (rKdIn X.K a false) := fun pins s σ H x y v u Q I rx ry h => by
  obtain ⟨z, r, h1, h2, h3, h4⟩ := h
  exact op_in_kd D pins s σ H x y v u Q I rx ry ⟨z, r, h1, h2, h3, h4⟩
theorem op_kdNotIn {a : Addr} {es : Array DictEntry} {n : Nat} (D : KDict X.K X.w a es n) : OpR X (compareOp .NotIn) (rKdIn X.K a true) := fun pins s σ H x y v u Q I rx ry h => by
  obtain ⟨z, r, h1, h2, h3, h4⟩ := h
  exact op_notIn_kd D pins s σ H x y v u Q I rx ry ⟨z, r, h1, h2, h3, h4⟩
theorem re_kdIn {x : Str} {a : Addr} {tb : Tb} {e : Expr} {t : TE} {m : ME} {p pos : Pos} (hg : Gl X x) (hm : X.mg x = some (.ref a)) (hk : KTab X.K X.w a tb) (h : RE X e t m) (hb : behindInMarks .In (.Name x p) = false := by rfl) (hd : (x == ("__debug__" : Str)) = false := by decide) :
    RE X (.Compare e [.In] [.Name x p] pos) (tOp (rKdIn X.K a false) t (tC (.ref a))) (mKdIn false tb m) :=
  ⟨pe_cmpR (op_kdIn hk.1.choose_spec.choose_spec) h.pe (pe_glob hg hm rfl hd) hb, sn_kdIn hk h.sn⟩
theorem re_kdNotIn {x : Str} {a : Addr} {tb : Tb} {e : Expr} {t : TE} {m : ME} {p pos : Pos} (hg : Gl X x) (hm : X.mg x = some (.ref a)) (hk : KTab X.K X.w a tb) (h : RE X e t m) (hb : behindInMarks .NotIn (.Name x p) = false := by rfl) (hd : (x == ("__debug__" : Str)) = false := by decide) :
    RE X (.Compare e [.NotIn] [.Name x p] pos) (tOp (rKdIn X.K a true) t (tC (.ref a))) (mKdIn true tb m) :=
  ⟨pe_cmpR (op_kdNotIn hk.1.choose_spec.choose_spec) h.pe (pe_glob hg hm rfl hd) hb, sn_kdIn hk h.sn⟩
theorem rt_kdNotIn {x : Str} {a : Addr} {tb : Tb} {e : Expr} {t : TE} {m : ME} {p pos : Pos} (hg : Gl X x) (hm : X.mg x = some (.ref a)) (hk : KTab X.K X.w a tb) (h : RE X e t m) (hb : behindInMarks .NotIn (.Name x p) = false := by rfl) (hd : (x == ("__debug__" : Str)) = false := by decide) :
    RT X (.Compare e [.NotIn] [.Name x p] pos) (tTest (tOp (rKdIn X.K a true) t (tC (.ref a)))) (mT (mKdIn true tb m)) :=
  ⟨pt_cmpR (op_kdNotIn hk.1.choose_spec.choose_spec) h.pe (pe_glob hg hm rfl hd) hb, sn_test (sn_kdIn hk h.sn)⟩
theorem rt_kdIn {x : Str} {a : Addr} {tb : Tb} {e : Expr} {t : TE} {m : ME} {p pos : Pos} (hg : Gl X x) (hm : X.mg x = some (.ref a)) (hk : KTab X.K X.w a tb) (h : RE X e t m) (hb : behindInMarks .In (.Name x p) = false := by rfl) (hd : (x == ("__debug__" : Str)) = false := by decide) :
    RT X (.Compare e [.In] [.Name x p] pos) (tTest (tOp (rKdIn X.K a false) t (tC (.ref a)))) (mT (mKdIn false tb m)) :=
  ⟨pt_cmpR (op_kdIn hk.1.choose_spec.choose_spec) h.pe (pe_glob hg hm rfl hd) hb, sn_test (sn_kdIn hk h.sn)⟩
/-- {k: i, ..}[e] -/
def dTr (tb : Tb) : List (TE × TE) := tb.map fun kv => (tC (.str kv.1), tC (.int kv.2))
def dKv (tb : Tb) : List (Key × V) := tb.map fun kv => (.inr kv.1, .int kv.2)
theorem tPairs_const {σ : L2.St} {H : Hp} {Q : List (V × V) → Hp → Prop} : ∀ tb : Tb, tPairs (dTr tb) σ H Q = Q (tb.map fun kv => (.str kv.1, .int kv.2)) H
  | [] => rfl
  | kv :: tb => by
    show tPairs (dTr tb) σ H (fun ps H3 => Q ((.str kv.1, .int kv.2) :: ps) H3) = _
    rw [tPairs_const tb]; rfl
def dOk (tb : Tb) : Bool := decide (tb.length ≤ 15) && tb.all fun kv => match valV (mergeK [] (dKv tb)) (.inr kv.1) with
  | some (.int j) => decide (j = kv.2)
  | _ => false
theorem dOk_val {tb : Tb} (h : dOk tb = true) {z : Str} {i : Int} (e : tb.lookup z = some i) : valV (mergeK [] (dKv tb)) (.inr z) = some (.int i) := by
  unfold dOk at h
  rw [Bool.and_eq_true] at h
  have hm : (z, i) ∈ tb := by
    clear h
    induction tb with
    | nil => cases e
    | cons kv tb ih =>
      rw [List.lookup_cons] at e
      split at e
      · rename_i hz
        cases e
        have z' : z = kv.1 := by simpa using hz
        rw [z']
        exact List.mem_cons_self ..
      · exact List.mem_cons_of_mem _ (ih e)
  have z := List.all_eq_true.mp h.2 _ hm
  simp only at z
  split at z
  · rename_i j hv
    rw [hv, of_decide_eq_true z]
  · cases z
theorem sn_disp {tb : Tb} {t : TE} {m : ME} (hk : dOk tb = true) (h : SndE K mg t m) : SndE K mg (tDGet (tDisp (dTr tb)) t) (mKd tb m) := fun {ρ Fr F δ σ H d δ'} r e {Q} q => by
  unfold mKd at e
  split at e
  · rename_i z δ1 e1
    split at e
    · rename_i i e2
      cases e
      intro p hp
      rw [tPairs_const]
      have hl : (dKv tb).length ≤ 15 := by
        unfold dOk at hk
        rw [Bool.and_eq_true] at hk
        unfold dKv
        rw [List.length_map]
        exact of_decide_eq_true hk.1
      refine ⟨upd_same, dKv tb, ?_, hl, ?_⟩
      · unfold dKv
        rw [List.map_map]; rfl
      · have eu : upd (upd H p (.dK [])) p (.dK (mergeK [] (dKv tb))) = upd H p (.dK (mergeK [] (dKv tb))) := by
          funext a
          by_cases ha : a = p
          · subst ha
            rw [upd_same, upd_same]
          · rw [upd_ne ha, upd_ne ha, upd_ne ha]
        rw [eu]
        have r2 := r.frz (o := .dK (mergeK [] (dKv tb))) hp
        refine h r2 e1 fun F1 v H1 s1 r1 d1 => ?_
        cases d1
        have hF : F1 p = some (.dK (mergeK [] (dKv tb))) := s1 p _ upd_same
        have hH := r1.sub p _ hF
        exact ⟨p, .int i, rfl, .inl ⟨_, .inr z, .inl hH, rfl, (dOk_val hk e2).symm⟩, q F1 _ H1 ((same_upd (r.fF hp)).trans s1) r1 (.int i)⟩
    · cases e
  · cases e
  · cases e
theorem re_disp {keys : List (Option Expr)} {values : List Expr} {tb : Tb} {e : Expr} {t : TE} {m : ME} {p pos : Pos} (hu : X.A.units + 65 < cLine) (hp : PPs X p keys values (dTr tb)) (h : RE X e t m) (hk : dOk tb = true := by kernel_rfl)
    (hall : keys.all (·.isSome) = true := by rfl) (hl : keys.length = values.length := by rfl) (h0 : keys ≠ [] := by exact fun h => nomatch h) (h15 : keys.length ≤ 15 := by decide) (hs : NoSl e := by exact fun _ _ => rfl) :
    RE X (.Subscript (.Dict keys values p) e pos) (tDGet (tDisp (dTr tb)) t) (mKd tb m) := ⟨pe_dget (by omega) (pe_disp hp hall hl h0 h15) h.pe hs, sn_disp hk h.sn⟩
theorem ev_kd {tb : Tb} {m : ME} {δ δ1 : Ev} {z : Str} {i : Int} (h : m δ = .ok (.str z, δ1)) (h2 : tb.lookup z = some i) : mKd tb m δ = .ok (.int i, δ1) := by
  unfold mKd
  rw [h]; simp only []
  rw [h2]
theorem ev_kdIn {tb : Tb} {m : ME} {neg : Bool} {δ δ1 : Ev} {z : Str} {i : Int} (h : m δ = .ok (.str z, δ1)) (h2 : tb.lookup z = some i) : mKdIn neg tb m δ = .ok (.bool (!neg), δ1) := by
  unfold mKdIn
  rw [h]; simp only []
  rw [h2]
end
/-- what the hook looks at -/
def dvKv (tb : Tb) : List (Str × He.Dv) := tb.map fun kv => (kv.1, .int kv.2)
theorem ktab_of {K : PySem.W.Frag} {w : World} {a : Addr} {tb : Tb} (h : He.dicW K a = some (He.keysIn w.params (tb.map (·.1)))) (hv : He.valsB K a (dvKv tb) = true) : KTab K w a tb := by
  refine ⟨He.dicW_ok h, fun z i e => ?_⟩
  have hm : (z, i) ∈ tb := by
    clear h hv
    induction tb with
    | nil => cases e
    | cons kv tb ih =>
      rw [List.lookup_cons] at e
      split at e
      · rename_i hz
        cases e
        have z' : z = kv.1 := by simpa using hz
        rw [z']
        exact List.mem_cons_self ..
      · exact List.mem_cons_of_mem _ (ih e)
  exact He.valsB_ok hv (q := (z, .int i)) (List.mem_map.mpr ⟨(z, i), hm, rfl⟩)
abbrev AlH : Type := (He.AlD × Bool) × List (Option (List (Option (Str × Int))))
def hookH (n : Nat) (fa : List He.Fa) (fn : List He.DefD) (ex : PySem.W.Frag → Bool) (ts : List He.Tab) : PySem.W.Hook where
  α := AlH
  obs := fun s => ((He.obsDG n fa fn s.heap.get?, ex (He.frG s.heap.get? (He.asD s.heap.get? n))), ts.map fun t => He.dicW (He.frG s.heap.get? (He.asD s.heap.get? n)) (t.1 (He.frG s.heap.get? (He.asD s.heap.get? n))))
  val := fun w => ((He.valD fn, true), ts.map fun t => some (He.keysIn w.params t.2))
  says := fun w h => ∃ K : PySem.W.Frag, K.In h ∧ He.SaysD fa fn K ∧ ex K = true ∧ ts.map (fun t => He.dicW K (t.1 K)) = ts.map fun t => some (He.keysIn w.params t.2)
  of := fun _ _ e => ⟨_, He.frG_in, congrArg (fun z : AlH => z.1.1) e, congrArg (fun z : AlH => z.1.2) e, congrArg (fun z : AlH => z.2) e⟩
  keeps := fun _ _ _ ⟨K, hK, c⟩ k => ⟨K, PySem.W.Frag.In.keeps hK k, c⟩
def obsHG (n : Nat) (fa : List He.Fa) (fn : List He.DefD) (ex : PySem.W.Frag → Bool) (ts : List He.Tab) (g : Addr → Option Obj) : AlH := ((He.obsDG n fa fn g, ex (He.frG g (He.asD g n))), ts.map fun t => He.dicW (He.frG g (He.asD g n)) (t.1 (He.frG g (He.asD g n))))
theorem obsHG_eq {n : Nat} {fa : List He.Fa} {fn : List He.DefD} {ex : PySem.W.Frag → Bool} {ts : List He.Tab} {g : Addr → Option Obj} {s : Shared} (h : ∀ a, g a = s.heap.get? a) : obsHG n fa fn ex ts g = (hookH n fa fn ex ts).obs s := by
  have e : g = s.heap.get? := funext h
  rw [e] <;> rfl
theorem tab_at {w : World} {K : PySem.W.Frag} {ts : List He.Tab} (c : ts.map (fun t => He.dicW K (t.1 K)) = ts.map fun t => some (He.keysIn w.params t.2)) (i : Nat) {t : He.Tab} (h : ts[i]? = some t := by rfl) : He.dicW K (t.1 K) = some (He.keysIn w.params t.2) := by
  have e2 : (ts.map fun t => He.dicW K (t.1 K))[i]? = (ts.map fun t => some (He.keysIn w.params t.2))[i]? := by rw [c]
  rw [List.getElem?_map, List.getElem?_map, h] at e2
  exact Option.some.inj e2
end CW

namespace CW
open PySem PySem.Spec PyProof.Rows L2
section
variable {X : Cx} {x : Str} {p pos : Pos} {e : Expr} {es : List Expr} {kws : List Keyword} {t tk : TA} {as ak : MA}
theorem rn_sortR (hu : X.A.units + 64 < cLine) (hg : Gl X x) (hm : X.mg x = none) (hv : bootBuiltins x = some (.builtin "sorted")) (ha : RA X (e :: es) t as) (hkw : RK X kws tk ak) (h1 : x ≠ "__name__" := by decide) (h2 : (x == ("__debug__" : Str)) = false := by decide)
    (he : backTo pos (starEach (e :: es) X.env) = (false, eval e X.env) :: backTo pos (starEach es X.env) := by rfl) (hpl : (backTo pos (starEach (e :: es) X.env)).any (·.1) = false := by rfl)
    (hall : (backToKw pos (keywordEach kws X.env)).all (·.1.isSome) = true := by rfl) (hnone : (backToKw pos (keywordEach kws X.env)).any (·.1.isNone) = false := by rfl) (hks : (backToKw pos (keywordEach kws X.env)).filterMap (·.1) = [Str.ofString "reverse"] := by rfl) :
    RN X (.Call (.Name x p) (e :: es) kws pos) (tCKw (rSortedRD X.K) t tk) (mSortR as ak) := ⟨pe_callBK (cr_sortedRD hu) hg hm hv ha.pa hkw.pk h1 h2 he hpl hall hnone hks, sn_sortR ha.sn hkw.sn⟩
end
/-! len(set(xs)), xs a list of ints -/
/-- unlike ones, in the order in which they come -/
def unlike (ns : List Int) : List Int := firstMet (fun i => ns.getD i 0) ns.length
theorem range_getD (ns : List Int) : (List.range ns.length).map (fun i => ns.getD i 0) = ns := by
  apply List.ext_getElem
  · simp
  · intro i h1 h2
    simp [List.getD_eq_getElem?_getD, h2]
theorem unlike_eq (ns : List Int) : unlike ns = ns.foldl step_dedup [] := by
  unfold unlike firstMet
  rw [range_getD]
theorem dedup_nodup : ∀ (ns acc : List Int), (acc ++ ns).Nodup → ns.foldl step_dedup acc = acc ++ ns
  | [], acc, _ => by simp
  | n :: ns, acc, h => by
    have h1 : n ∉ acc := fun z => (List.nodup_append.mp h).2.2 n z n (List.mem_cons_self ..) rfl
    have e : step_dedup acc n = acc ++ [n] := by
      unfold step_dedup
      rw [if_neg]
      intro z
      obtain ⟨x, hx, hq⟩ := List.any_eq_true.mp z
      exact h1 (beq_iff_eq.mp hq ▸ hx)
    rw [List.foldl_cons, e, dedup_nodup ns (acc ++ [n]) (by simpa using h)]
    simp
theorem unlike_nodup {ns : List Int} (h : ns.Nodup) : unlike ns = ns := by
  rw [unlike_eq, dedup_nodup ns [] (by simpa using h)]
  rfl
theorem unlike_same {x : Int} : ∀ {ns : List Int}, ns ≠ [] → (∀ n ∈ ns, n = x) → unlike ns = [x] := by
  have key : ∀ ns : List Int, (∀ n ∈ ns, n = x) → ns.foldl step_dedup [x] = [x] := by
    intro ns
    induction ns with
    | nil => intro _; rfl
    | cons n ns ih =>
      intro h
      have hn := h n (List.mem_cons_self ..)
      subst hn
      have e : step_dedup [n] n = [n] := by unfold step_dedup; simp
      rw [List.foldl_cons, e]
      exact ih fun m hm => h m (List.mem_cons_of_mem _ hm)
  intro ns hne h
  rw [unlike_eq]
  cases ns with
  | nil => exact absurd rfl hne
  | cons n ns =>
    have hn := h n (List.mem_cons_self ..)
    subst hn
    exact key ns fun m hm => h m (List.mem_cons_of_mem _ hm)
def tLenSet (K : PySem.W.Frag) (t : TE) : TE := fun σ H Q => t σ H fun x H1 => ∃ (a : Addr) (ns : List Int), x = V.ref a ∧ SqL K H1 a (ns.map V.int) ∧ ns.length ≤ 4000 ∧ Q (.int (unlike ns).length) H1
def mLenSet (m : ME) : ME := fun δ => match m δ with
  | .ok (.list xs, δ1) => (match intsOf xs with
    | some ns => if ns.length ≤ 4000 then .ok (.int ((unlike ns).length : Nat), δ1) else .no
    | none => .no)
  | .ok _ => .no
  | .err c d => .err c d
  | .no => .no
theorem unlike_le (ns : List Int) : (unlike ns).length ≤ ns.length := firstMet_length_le _ _
theorem re_lenSet {a : Expr} {t : TE} {m : ME} {p1 p2 q1 q2 : Pos} (hc : X.calm = true) (g1 : Gl X "len") (m1 : X.mg "len" = none) (g2 : Gl X "set") (m2 : X.mg "set" = none) (ha : RE X a t m)
    (na : starEach [a] X.env = (false, eval a X.env) :: starEach [] X.env := by rfl) : RE X (.Call (.Name "len" p1) [.Call (.Name "set" p2) [a] [] q2] [] q1) (tLenSet X.K t) (mLenSet m) := by
  refine ⟨⟨fun pins s σ H Q I h => ?_⟩, fun {ρ Fr F δ σ H d δ'} r e {Q} q => ?_⟩
  · refine Call_ (ld_blt I g1 m1 PySem.boot_len (PyProof.Rows.callWith_builtin1 (PyProof.Rows.args_cons ?_ rfl) rfl rfl))
    refine Call_ (ld_blt I g2 m2 PyProof.Rows.boot_set (PyProof.Rows.callWith_type1 (PyProof.Rows.args_cons (thn (ha.pe.run pins s σ H _ I h) fun v s1 ⟨x, H1, I1, r1, q1⟩ => PyProof.Rows.args_nil ?_) na) na rfl))
    obtain ⟨l, ns, rfl, hq, hl, q1⟩ := q1
    cases r1
    obtain ⟨its, rv, pl, hz⟩ := I1.list hq
    have sz : its.toArray.size = ns.length := by rw [List.size_toArray, ← rv.length, List.length_map]
    have ub : (unlike ns).length ≤ 4000 := Nat.le_trans (unlike_le ns) hl
    refine call_set_list (I1.ok.hd hc) pl.isList (by simpa using rv.ints) (by rw [sz]; unfold scanBound; omega) fun h' tk hS hk => PyProof.Rows.args_nil ?_
    rw [sz] at hS
    obtain ⟨o, es, ep, t', ho, ex, hd, _, _, _, hf, hn⟩ := hS
    have hn' : es.size = (unlike ns).length := hn
    have I2 : Inv X pins σ H1 { s1 with heap := h', toks := tk } := I1.kept fun b o e => hk b o (Heap.lt_size e) e
    exact call_len_set ho ex hd hf (by rw [hn']; omega) ⟨.int (unlike ns).length, H1, I2.tok _, ⟨_, by rw [hn']⟩, q1⟩
  · unfold mLenSet at e
    split at e
    · split at e
      · rename_i xs δ1 e1 _ ns e2
        split at e
        · rename_i hl
          cases e
          refine ha.sn r e1 fun F1 v H1 s1 r1 d1 => ?_
          cases d1 with
          | lst hs da =>
            rw [dpa_intsOf da e2] at hs
            exact ⟨_, ns, rfl, sqL_mono r1.sub hs, hl, q F1 _ H1 s1 r1 (.int _)⟩
        · cases e
      · cases e
    · cases e
    · cases e
    · cases e
theorem ev_lenSet {m : ME} {δ δ1 : Ev} {ns : List Int} {k : Int} (h : m δ = .ok (lI ns, δ1)) (hl : ns.length ≤ 4000) (hk : ((unlike ns).length : Int) = k) : mLenSet m δ = .ok (.int k, δ1) := by
  unfold mLenSet
  rw [h]
  show (match intsOf (ns.map .int) with
    | some ns => if ns.length ≤ 4000 then Res.ok (PyData.int ((unlike ns).length : Nat), δ1) else .no
    | none => .no) = _
  rw [intsOf_ints]
  show (if ns.length ≤ 4000 then Res.ok (PyData.int ((unlike ns).length : Nat), δ1) else .no) = _
  rw [if_pos hl, hk]
theorem fSorted_ints (ns : List Int) : fSorted [lI ns] = .ok (.own ((srtI ns).map .int)) := by
  show (match intsOf (ns.map .int) with | some ns => Res.ok (Sl.own ((srtI ns).map .int)) | none => if sortOk (ns.map .int) = true then .ok (.own ((ns.map PyData.int).mergeSort (W.dataLe false id))) else .no) = _
  rw [intsOf_ints]
theorem fSorted_data {xs : List PyData} (h : intsOf xs = none) (ok : sortOk xs = true) : fSorted [.list xs] = .ok (.own (xs.mergeSort (W.dataLe false id))) := by
  show (match intsOf xs with | some ns => Res.ok (Sl.own ((srtI ns).map .int)) | none => if sortOk xs = true then .ok (.own (xs.mergeSort (W.dataLe false id))) else .no) = _
  rw [h]
  exact if_pos ok
/-! xs[:h:-1] of a list, h not negative -/
theorem revTo_map (items : Array Value) : ∀ c : Nat, c ≤ items.size → (List.range c).filterMap (fun k => items[items.size - 1 - k]?) = (items.toList.drop (items.size - c)).reverse
  | 0, _ => by simp
  | c + 1, h => by
    rw [List.range_succ, List.filterMap_append, revTo_map items c (by omega)]
    have e : items.size - c = items.size - (c + 1) + 1 := by omega
    have hl : items.size - (c + 1) < items.toList.length := by rw [Array.length_toList]; omega
    rw [List.drop_eq_getElem_cons hl, ← e, List.reverse_cons]
    congr 1
    have e2 : items.size - 1 - c = items.size - (c + 1) := by omega
    have hl2 : items.size - (c + 1) < items.size := by omega
    simp only [List.filterMap_cons, List.filterMap_nil, e2, Array.getElem?_eq_getElem hl2, Array.getElem_toList]
theorem revTo_pick (items : Array Value) (h : Int) (h0 : 0 ≤ h) : slicePick items none (some h) (some (-1)) = (items.toList.drop (h.toNat + 1)).reverse.toArray := by
  unfold slicePick
  have hb : sliceBounds none (some h) (some (-1)) items.size = ((items.size : Int) - 1, max (-1) (min h ((items.size : Int) - 1)), -1) := by
    unfold sliceBounds
    have h1 : ¬ ((-1 : Int) > 0) := by decide
    have h2 : ¬ h < 0 := by omega
    simp only [Option.getD, h1, h2, if_false]
  rw [hb]
  show ((sliceRange ((items.size : Int) - 1) (max (-1) (min h ((items.size : Int) - 1))) (-1)).filterMap (items[·]?)).toArray = _
  congr 1
  have hr : sliceRange ((items.size : Int) - 1) (max (-1) (min h ((items.size : Int) - 1))) (-1) = (List.range (items.size - (h.toNat + 1))).map fun k => items.size - 1 - k := by
    unfold sliceRange
    have h1 : ¬ ((-1 : Int) > 0) := by decide
    simp only [h1, if_false]
    have hc : (if (items.size : Int) - 1 > max (-1) (min h ((items.size : Int) - 1)) then ((items.size : Int) - 1 - max (-1) (min h ((items.size : Int) - 1)) - -1 - 1) / (- -1) else 0).toNat = items.size - (h.toNat + 1) := by
      rw [show (- -1 : Int) = 1 by decide, Int.ediv_one]
      split <;> omega
    rw [hc]
    apply List.map_congr_left
    intro k hk
    have := List.mem_range.mp hk
    omega
  rw [hr, List.filterMap_map]
  have e := revTo_map items (items.size - (h.toNat + 1)) (by omega)
  rw [show (List.filterMap ((fun x => items[x]?) ∘ fun k => items.size - 1 - k) (List.range (items.size - (h.toNat + 1)))) = (List.range (items.size - (h.toNat + 1))).filterMap (fun k => items[items.size - 1 - k]?) from rfl, e]
  by_cases hh : h.toNat + 1 ≤ items.size
  · rw [show items.size - (items.size - (h.toNat + 1)) = h.toNat + 1 by omega]
  · rw [show items.size - (items.size - (h.toNat + 1)) = items.size by omega]
    rw [List.drop_eq_nil_of_le (by simp), List.drop_eq_nil_of_le (by simp; omega)]
section
variable {X : Cx} {K : PySem.W.Frag} {mg : Str → Option Value}
def tRevTo (K : PySem.W.Frag) (te : TE) (th : TO) : TE := fun σ H Q => te σ H fun x H1 => th σ H1 fun o H2 => ∃ a xs h, x = .ref a ∧ o = some h ∧ (0 : Int) ≤ h ∧ SqL K H2 a xs ∧ ∀ p, H2 p = none → Q (.ref p) (upd H2 p (.lst (xs.drop (h.toNat + 1)).reverse))
theorem pe_revTo {e : Expr} {te : TE} {eh : Expr} {th : TO} {k : Nat} {p1 p2 p3 pos : Pos} (he : PE X e te) (hh : PO X (some eh) th) : PE X (.Subscript e (.Slice none (some eh) (some (.UnaryOp .USub (.Constant (.int 1) k p1) p2)) p3) pos) (tRevTo X.K te th) := by
  refine ⟨fun pins s σ H Q I h => ?_⟩
  refine Subscript_ (thn (he.run pins s σ H _ I h) fun v s1 ⟨x, H1, I1, r1, q1⟩ => ?_)
  have hst : PO X (some (.UnaryOp .USub (.Constant (.int 1) k p1) p2)) (tPart (tUn (rU fun i => .int (-i)) (tC (.int 1)))) := po_some (pe_un un_neg pe_int)
  refine wpAny_Slice (thn (po_none.run pins s1 σ H1 (fun o H2 => o = none ∧ H2 = H1) I1 ⟨rfl, rfl⟩) fun vl s2 ⟨l, H2, I2, pl, el, e2⟩ => ?_)
  subst el e2
  refine thn (hh.run pins s2 σ H2 _ I2 q1) fun vu s3 ⟨u, H3, I3, pu, q3⟩ => ?_
  obtain ⟨a, xs, hi, ex, eo, h0, hx, q⟩ := q3
  subst ex eo
  cases r1
  refine thn (hst.run pins s3 σ H3 (fun o H4 => o = some (-1) ∧ H4 = H3) I3 ⟨1, rfl, -1, rfl, rfl, rfl⟩) fun vs s4 ⟨o, H4, I4, ps, eo, e4⟩ => ?_
  subst eo e4
  have I5 : Inv X pins σ H4 { s4 with heap := s4.heap.push { cls := .type "slice", data := .fields #[vl, vu, vs] } } := I4.kept (t' := s4.toks) fun b ob q => Heap.get?_push_of_some _ q
  obtain ⟨its, r, ht, hz⟩ := I5.list hx
  have hlen := r.length
  show wpAny (model X.prog X.w) X.A (subscriptTail e (.Slice none (some eh) (some (.UnaryOp .USub (.Constant (.int 1) k p1) p2)) p3) (.ref a) (.ref s4.heap.objs.size)) (EP X pins σ Q) X.xe { s4 with heap := s4.heap.push { cls := .type "slice", data := .fields #[vl, vu, vs] } }
  refine tail_any (ops := [.ref a, .ref s4.heap.objs.size]) ht.isList.typeIs (PySem.slot_list_getitem.lookup) ?_ (by with_unfolding_all rfl)
  refine wpAny_getItem_list_slice ht.isList (Heap.IsSliceOf.new _ vl vu vs) pl pu ps (by decide) ?_ (by rw [List.size_toArray]; omega)
  rw [revTo_pick _ _ h0]
  refine ⟨.ref _, _, I5.laid (t' := s4.toks) (o := .lst (xs.drop (hi.toNat + 1)).reverse) (fun b ob q => Heap.get?_push_of_some _ q) (Nat.le_refl _) ?_, rfl, q _ (I5.hok.fresh (Nat.le_refl _))⟩
  exact ⟨by rw [List.length_reverse, List.length_drop]; omega, _, 0, (r.drop _).reverse, Heap.get?_push_size _ rfl⟩
def fRevTo : PyData → Option Int → Res Sl
  | .list xs, some h => if 0 ≤ h then .ok (.own (xs.drop (h.toNat + 1)).reverse) else .no
  | _, _ => .no
def mRevTo (ma : ME) (mh : MO) : MN := fun δ => match ma δ with
  | .ok (x, δ1) => (match mh δ1 with
    | .ok (hi, δ3) => (match fRevTo x hi with
      | .ok s => .ok (s, δ3)
      | .err c d => .err c d
      | .no => .no)
    | .err c d => .err c d
    | .no => .no)
  | .err c d => .err c d
  | .no => .no
theorem sn_revTo {ta : TE} {th : TO} {ma : ME} {mh : MO} (ha : SndE K mg ta ma) (hh : SndO K mg th mh) : SndN K mg (tRevTo K ta th) (mRevTo ma mh) := fun {ρ Fr F δ σ H d δ'} r e {Q} q => by
  unfold mRevTo at e
  split at e
  · rename_i x δ1 e1
    split at e
    · rename_i hi δ3 e3
      split at e
      · rename_i s e4
        cases e
        refine ha r e1 fun F1 v H1 s1 r1 d1 => hh r1 e3 fun F3 H3 s3 r3 => ?_
        have d3 := d1.up s3
        have s13 := s1.trans s3
        unfold fRevTo at e4
        split at e4
        · split at e4
          · rename_i h0
            cases e4
            cases d3 with
            | lst h1 da => exact ⟨_, _, _, rfl, rfl, h0, sqL_mono r3.sub h1, fun p hp => q _ _ _ s13 (r3.temp hp (dpa_rev (dpa_drop _ da)))⟩
          · cases e4
        · cases e4
      · cases e
      · cases e
    · cases e
    · cases e
  · cases e
  · cases e
theorem rn_revTo {e eh : Expr} {ta : TE} {th : TO} {ma : ME} {mh : MO} {k : Nat} {p1 p2 p3 pos : Pos} (ha : RE X e ta ma) (hh : RO X (some eh) th mh) : RN X (.Subscript e (.Slice none (some eh) (some (.UnaryOp .USub (.Constant (.int 1) k p1) p2)) p3) pos) (tRevTo X.K ta th) (mRevTo ma mh) :=
  ⟨pe_revTo ha.pe hh.po, sn_revTo ha.sn hh.sn⟩
theorem ev_revTo {m : ME} {mh : MO} {δ δ1 δ2 : Ev} {x : PyData} {hi : Option Int} {s : Sl} (h : m δ = .ok (x, δ1)) (h2 : mh δ1 = .ok (hi, δ2)) (h3 : fRevTo x hi = .ok s) : mRevTo m mh δ = .ok (s, δ2) := by
  unfold mRevTo
  rw [h]; dsimp only; rw [h2]; dsimp only; rw [h3]
end
end CW

namespace N47
open PySem PySem.Spec PyProof.Rows L2 CW
def topS (i : Nat) : PySem.Stmt := PySem.Challenge.pw_checkwright_k47_whole_chains.main.body.getD i (.Pass ⟨0, 0, 0, 0⟩)
abbrev s_is_whole : PySem.Stmt := topS 6
def d_is_whole : He.DefD := ⟨("is_whole", none), "is_whole", "is_whole", defArgs s_is_whole, defBody s_is_whole, defScope s_is_whole, [], []⟩
abbrev s_is_between : PySem.Stmt := topS 7
def d_is_between : He.DefD := ⟨("is_between", none), "is_between", "is_between", defArgs s_is_between, defBody s_is_between, defScope s_is_between, [], []⟩
abbrev s_check_number : PySem.Stmt := topS 8
def d_check_number : He.DefD := ⟨("check_number", none), "check_number", "check_number", defArgs s_check_number, defBody s_check_number, defScope s_check_number, [], []⟩
abbrev s_times_over : PySem.Stmt := topS 10
def d_times_over : He.DefD := ⟨("times_over", none), "times_over", "times_over", defArgs s_times_over, defBody s_times_over, defScope s_times_over, [], []⟩
abbrev s_row_of_fits : PySem.Stmt := topS 12
def d_row_of_fits : He.DefD := ⟨("row_of_fits", none), "row_of_fits", "row_of_fits", defArgs s_row_of_fits, defBody s_row_of_fits, defScope s_row_of_fits, [], []⟩
abbrev s_all_once : PySem.Stmt := topS 13
def d_all_once : He.DefD := ⟨("all_once", none), "all_once", "all_once", defArgs s_all_once, defBody s_all_once, defScope s_all_once, [], []⟩
abbrev s_square_fits : PySem.Stmt := topS 15
def d_square_fits : He.DefD := ⟨("square_fits", none), "square_fits", "square_fits", defArgs s_square_fits, defBody s_square_fits, defScope s_square_fits, [], []⟩
abbrev s_chain_fits : PySem.Stmt := topS 17
def d_chain_fits : He.DefD := ⟨("chain_fits", none), "chain_fits", "chain_fits", defArgs s_chain_fits, defBody s_chain_fits, defScope s_chain_fits, [], []⟩
abbrev s_check_chain : PySem.Stmt := topS 18
def d_check_chain : He.DefD := ⟨("check_chain", none), "check_chain", "check_chain", defArgs s_check_chain, defBody s_check_chain, defScope s_check_chain, [], []⟩
abbrev s_check_list : PySem.Stmt := topS 19
def d_check_list : He.DefD := ⟨("check_list", none), "check_list", "check_list", defArgs s_check_list, defBody s_check_list, defScope s_check_list, [], []⟩
abbrev s_states_in : PySem.Stmt := topS 20
def d_states_in : He.DefD := ⟨("states_in", none), "states_in", "states_in", defArgs s_states_in, defBody s_states_in, defScope s_states_in, [], []⟩
abbrev s_is_chain : PySem.Stmt := topS 21
def d_is_chain : He.DefD := ⟨("is_chain", none), "is_chain", "is_chain", defArgs s_is_chain, defBody s_is_chain, defScope s_is_chain, [], []⟩
abbrev s_states_of : PySem.Stmt := topS 22
def d_states_of : He.DefD := ⟨("states_of", none), "states_of", "states_of", defArgs s_states_of, defBody s_states_of, defScope s_states_of, [], []⟩
abbrev s_is_right_chain : PySem.Stmt := topS 23
def d_is_right_chain : He.DefD := ⟨("is_right_chain", none), "is_right_chain", "is_right_chain", defArgs s_is_right_chain, defBody s_is_right_chain, defScope s_is_right_chain, [], []⟩
abbrev s_sign_at : PySem.Stmt := topS 24
def d_sign_at : He.DefD := ⟨("sign_at", none), "sign_at", "sign_at", defArgs s_sign_at, defBody s_sign_at, defScope s_sign_at, [], []⟩
abbrev s_how_many_right_lists : PySem.Stmt := topS 25
def d_how_many_right_lists : He.DefD := ⟨("how_many_right_lists", none), "how_many_right_lists", "how_many_right_lists", defArgs s_how_many_right_lists, defBody s_how_many_right_lists, defScope s_how_many_right_lists, [], []⟩
abbrev s__law_cell : PySem.Stmt := topS 27
def d__law_cell : He.DefD := ⟨("_law_cell", none), "_law_cell", "_law_cell", defArgs s__law_cell, defBody s__law_cell, defScope s__law_cell, [], []⟩
abbrev s__law_hash : PySem.Stmt := topS 28
def d__law_hash : He.DefD := ⟨("_law_hash", none), "_law_hash", "_law_hash", defArgs s__law_hash, defBody s__law_hash, defScope s__law_hash, [], []⟩
abbrev s__law_generator : PySem.Stmt := topS 29
def d__law_generator : He.DefD := ⟨("_law_generator", none), "_law_generator", "_law_generator", defArgs s__law_generator, defBody s__law_generator, defScope s__law_generator, [], []⟩
abbrev s__law_random : PySem.Stmt := topS 30
def d__law_random : He.DefD := ⟨("_law_random", none), "_law_random", "_law_random", defArgs s__law_random, defBody s__law_random, defScope s__law_random, [], []⟩
abbrev s__law_abelian : PySem.Stmt := topS 31
def d__law_abelian : He.DefD := ⟨("_law_abelian", none), "_law_abelian", "_law_abelian", defArgs s__law_abelian, defBody s__law_abelian, defScope s__law_abelian, [], []⟩
abbrev s__law_dihedral : PySem.Stmt := topS 32
def d__law_dihedral : He.DefD := ⟨("_law_dihedral", none), "_law_dihedral", "_law_dihedral", defArgs s__law_dihedral, defBody s__law_dihedral, defScope s__law_dihedral, [], []⟩
abbrev s__law_group : PySem.Stmt := topS 33
def d__law_group : He.DefD := ⟨("_law_group", none), "_law_group", "_law_group", defArgs s__law_group, defBody s__law_group, defScope s__law_group, [], []⟩
abbrev s__law_shuffled : PySem.Stmt := topS 34
def d__law_shuffled : He.DefD := ⟨("_law_shuffled", none), "_law_shuffled", "_law_shuffled", defArgs s__law_shuffled, defBody s__law_shuffled, defScope s__law_shuffled, [], []⟩
abbrev s__law_all_codes : PySem.Stmt := topS 35
def d__law_all_codes : He.DefD := ⟨("_law_all_codes", none), "_law_all_codes", "_law_all_codes", defArgs s__law_all_codes, defBody s__law_all_codes, defScope s__law_all_codes, [], []⟩
abbrev s__law_square : PySem.Stmt := topS 36
def d__law_square : He.DefD := ⟨("_law_square", none), "_law_square", "_law_square", defArgs s__law_square, defBody s__law_square, defScope s__law_square, [], []⟩
abbrev s__law_states : PySem.Stmt := topS 37
def d__law_states : He.DefD := ⟨("_law_states", none), "_law_states", "_law_states", defArgs s__law_states, defBody s__law_states, defScope s__law_states, [], []⟩
abbrev s__law_right : PySem.Stmt := topS 38
def d__law_right : He.DefD := ⟨("_law_right", none), "_law_right", "_law_right", defArgs s__law_right, defBody s__law_right, defScope s__law_right, [], []⟩
abbrev s__law_power : PySem.Stmt := topS 39
def d__law_power : He.DefD := ⟨("_law_power", none), "_law_power", "_law_power", defArgs s__law_power, defBody s__law_power, defScope s__law_power, [], []⟩
abbrev s_law : PySem.Stmt := topS 40
def d_law : He.DefD := ⟨("law", none), "law", "law", defArgs s_law, defBody s_law, defScope s_law, [], []⟩
def fnL : List He.DefD := [d_is_whole, d_is_between, d_check_number, d_times_over, d_row_of_fits, d_all_once, d_square_fits, d_chain_fits, d_check_chain, d_check_list, d_states_in, d_is_chain, d_states_of, d_is_right_chain, d_sign_at, d_how_many_right_lists, d__law_cell, d__law_hash, d__law_generator, d__law_random, d__law_abelian, d__law_dihedral, d__law_group, d__law_shuffled, d__law_all_codes, d__law_square, d__law_states, d__law_right, d__law_power, d_law]
def faL : List He.Fa := [.glo "is_whole", .glo "is_between", .glo "check_number", .glo "times_over", .glo "row_of_fits", .glo "all_once", .glo "square_fits", .glo "chain_fits", .glo "check_chain", .glo "check_list", .glo "states_in", .glo "is_chain", .glo "states_of", .glo "is_right_chain", .glo "sign_at", .glo "how_many_right_lists", .glo "_law_cell", .glo "_law_hash", .glo "_law_generator", .glo "_law_random", .glo "_law_abelian", .glo "_law_dihedral", .glo "_law_group", .glo "_law_shuffled", .glo "_law_all_codes", .glo "_law_square", .glo "_law_states", .glo "_law_right", .glo "_law_power", .glo "law", .free "bool", .free "int", .free "isinstance", .free "len", .free "list", .free "max", .free "range", .free "repr", .free "set", .free "sum", .free "super", .free "tuple"]
abbrev rowR : PySem.W.OpenRow := PySem.W.OpenLaw.row PySem.Challenge.rw_checkwright_k47_whole_chains
def exR (K : PySem.W.Frag) : Bool := true
def tsR : List He.Tab := []
abbrev hkR : PySem.W.Hook := CW.hookH 4 faL fnL exR tsR
def obR (s : PySem.W.SharedT) : CW.AlH := CW.obsHG 4 faL fnL exR tsR (HandSHeadRun.getT s)
theorem obR_eq (s : PySem.W.SharedT) : obR s = hkR.obs s.abs := CW.obsHG_eq (HandSHeadRun.getT_eq s)
def loose0 : List PySem.Str := ["CheckError", "InvalidNumber", "InvalidSystem", "InvalidCode", "is_whole", "is_between", "check_number", "times_over", "row_of_fits", "all_once", "square_fits", "chain_fits", "check_chain", "check_list", "states_in", "is_chain"]
def loose1 : List PySem.Str := ["states_of", "is_right_chain", "sign_at", "how_many_right_lists", "_law_cell", "_law_hash", "_law_generator", "_law_random", "_law_abelian", "_law_dihedral", "_law_group", "_law_shuffled", "_law_all_codes", "_law_square", "_law_states", "_law_right"]
def loose2 : List PySem.Str := ["_law_power"]
def looseR : List PySem.Str := loose0 ++ loose1 ++ loose2
theorem runR (w : PySem.World) : HandSHeadRun.RunEq rowR (PySem.W.view rowR.prog [40]) hkR obR 6000 looseR w := by
  intro os
  kernel_rfl
structure Fx (w : World) (K : PySem.W.Frag) (mg : Str → Option Value) where
  fd_is_whole : FuncData
  D_is_whole : FunD K "is_whole" "is_whole" (defArgs s_is_whole) (defBody s_is_whole) (defScope s_is_whole) [] [] (He.ga K "is_whole") fd_is_whole
  g_is_whole : mg "is_whole" = some (.ref (He.ga K "is_whole"))
  fd_is_between : FuncData
  D_is_between : FunD K "is_between" "is_between" (defArgs s_is_between) (defBody s_is_between) (defScope s_is_between) [] [] (He.ga K "is_between") fd_is_between
  g_is_between : mg "is_between" = some (.ref (He.ga K "is_between"))
  fd_row_of_fits : FuncData
  D_row_of_fits : FunD K "row_of_fits" "row_of_fits" (defArgs s_row_of_fits) (defBody s_row_of_fits) (defScope s_row_of_fits) [] [] (He.ga K "row_of_fits") fd_row_of_fits
  g_row_of_fits : mg "row_of_fits" = some (.ref (He.ga K "row_of_fits"))
  fd_all_once : FuncData
  D_all_once : FunD K "all_once" "all_once" (defArgs s_all_once) (defBody s_all_once) (defScope s_all_once) [] [] (He.ga K "all_once") fd_all_once
  g_all_once : mg "all_once" = some (.ref (He.ga K "all_once"))
  fd_square_fits : FuncData
  D_square_fits : FunD K "square_fits" "square_fits" (defArgs s_square_fits) (defBody s_square_fits) (defScope s_square_fits) [] [] (He.ga K "square_fits") fd_square_fits
  g_square_fits : mg "square_fits" = some (.ref (He.ga K "square_fits"))
  fd_chain_fits : FuncData
  D_chain_fits : FunD K "chain_fits" "chain_fits" (defArgs s_chain_fits) (defBody s_chain_fits) (defScope s_chain_fits) [] [] (He.ga K "chain_fits") fd_chain_fits
  g_chain_fits : mg "chain_fits" = some (.ref (He.ga K "chain_fits"))
  fd_check_chain : FuncData
  D_check_chain : FunD K "check_chain" "check_chain" (defArgs s_check_chain) (defBody s_check_chain) (defScope s_check_chain) [] [] (He.ga K "check_chain") fd_check_chain
  g_check_chain : mg "check_chain" = some (.ref (He.ga K "check_chain"))
  fd_check_list : FuncData
  D_check_list : FunD K "check_list" "check_list" (defArgs s_check_list) (defBody s_check_list) (defScope s_check_list) [] [] (He.ga K "check_list") fd_check_list
  g_check_list : mg "check_list" = some (.ref (He.ga K "check_list"))
  fd_states_in : FuncData
  D_states_in : FunD K "states_in" "states_in" (defArgs s_states_in) (defBody s_states_in) (defScope s_states_in) [] [] (He.ga K "states_in") fd_states_in
  g_states_in : mg "states_in" = some (.ref (He.ga K "states_in"))
  fd_states_of : FuncData
  D_states_of : FunD K "states_of" "states_of" (defArgs s_states_of) (defBody s_states_of) (defScope s_states_of) [] [] (He.ga K "states_of") fd_states_of
  g_states_of : mg "states_of" = some (.ref (He.ga K "states_of"))
  fd_is_right_chain : FuncData
  D_is_right_chain : FunD K "is_right_chain" "is_right_chain" (defArgs s_is_right_chain) (defBody s_is_right_chain) (defScope s_is_right_chain) [] [] (He.ga K "is_right_chain") fd_is_right_chain
  g_is_right_chain : mg "is_right_chain" = some (.ref (He.ga K "is_right_chain"))
  fd_check_number : FuncData
  D_check_number : FunD K "check_number" "check_number" (defArgs s_check_number) (defBody s_check_number) (defScope s_check_number) [] [] (He.ga K "check_number") fd_check_number
  g_check_number : mg "check_number" = some (.ref (He.ga K "check_number"))
  fd_sign_at : FuncData
  D_sign_at : FunD K "sign_at" "sign_at" (defArgs s_sign_at) (defBody s_sign_at) (defScope s_sign_at) [] [] (He.ga K "sign_at") fd_sign_at
  g_sign_at : mg "sign_at" = some (.ref (He.ga K "sign_at"))
  fd_times_over : FuncData
  D_times_over : FunD K "times_over" "times_over" (defArgs s_times_over) (defBody s_times_over) (defScope s_times_over) [] [] (He.ga K "times_over") fd_times_over
  g_times_over : mg "times_over" = some (.ref (He.ga K "times_over"))
  fd_how_many_right_lists : FuncData
  D_how_many_right_lists : FunD K "how_many_right_lists" "how_many_right_lists" (defArgs s_how_many_right_lists) (defBody s_how_many_right_lists) (defScope s_how_many_right_lists) [] [] (He.ga K "how_many_right_lists") fd_how_many_right_lists
  g_how_many_right_lists : mg "how_many_right_lists" = some (.ref (He.ga K "how_many_right_lists"))
  fd__law_hash : FuncData
  D__law_hash : FunD K "_law_hash" "_law_hash" (defArgs s__law_hash) (defBody s__law_hash) (defScope s__law_hash) [] [] (He.ga K "_law_hash") fd__law_hash
  g__law_hash : mg "_law_hash" = some (.ref (He.ga K "_law_hash"))
  fd__law_random : FuncData
  D__law_random : FunD K "_law_random" "_law_random" (defArgs s__law_random) (defBody s__law_random) (defScope s__law_random) [] [] (He.ga K "_law_random") fd__law_random
  g__law_random : mg "_law_random" = some (.ref (He.ga K "_law_random"))
  fd__law_abelian : FuncData
  D__law_abelian : FunD K "_law_abelian" "_law_abelian" (defArgs s__law_abelian) (defBody s__law_abelian) (defScope s__law_abelian) [] [] (He.ga K "_law_abelian") fd__law_abelian
  g__law_abelian : mg "_law_abelian" = some (.ref (He.ga K "_law_abelian"))
  fd__law_dihedral : FuncData
  D__law_dihedral : FunD K "_law_dihedral" "_law_dihedral" (defArgs s__law_dihedral) (defBody s__law_dihedral) (defScope s__law_dihedral) [] [] (He.ga K "_law_dihedral") fd__law_dihedral
  g__law_dihedral : mg "_law_dihedral" = some (.ref (He.ga K "_law_dihedral"))
  fd__law_group : FuncData
  D__law_group : FunD K "_law_group" "_law_group" (defArgs s__law_group) (defBody s__law_group) (defScope s__law_group) [] [] (He.ga K "_law_group") fd__law_group
  g__law_group : mg "_law_group" = some (.ref (He.ga K "_law_group"))
  fd__law_shuffled : FuncData
  D__law_shuffled : FunD K "_law_shuffled" "_law_shuffled" (defArgs s__law_shuffled) (defBody s__law_shuffled) (defScope s__law_shuffled) [] [] (He.ga K "_law_shuffled") fd__law_shuffled
  g__law_shuffled : mg "_law_shuffled" = some (.ref (He.ga K "_law_shuffled"))
  fd__law_square : FuncData
  D__law_square : FunD K "_law_square" "_law_square" (defArgs s__law_square) (defBody s__law_square) (defScope s__law_square) [] [] (He.ga K "_law_square") fd__law_square
  g__law_square : mg "_law_square" = some (.ref (He.ga K "_law_square"))
  fd_is_chain : FuncData
  D_is_chain : FunD K "is_chain" "is_chain" (defArgs s_is_chain) (defBody s_is_chain) (defScope s_is_chain) [] [] (He.ga K "is_chain") fd_is_chain
  g_is_chain : mg "is_chain" = some (.ref (He.ga K "is_chain"))
  fd__law_states : FuncData
  D__law_states : FunD K "_law_states" "_law_states" (defArgs s__law_states) (defBody s__law_states) (defScope s__law_states) [] [] (He.ga K "_law_states") fd__law_states
  g__law_states : mg "_law_states" = some (.ref (He.ga K "_law_states"))
  fd__law_power : FuncData
  D__law_power : FunD K "_law_power" "_law_power" (defArgs s__law_power) (defBody s__law_power) (defScope s__law_power) [] [] (He.ga K "_law_power") fd__law_power
  g__law_power : mg "_law_power" = some (.ref (He.ga K "_law_power"))
  fd__law_all_codes : FuncData
  D__law_all_codes : FunD K "_law_all_codes" "_law_all_codes" (defArgs s__law_all_codes) (defBody s__law_all_codes) (defScope s__law_all_codes) [] [] (He.ga K "_law_all_codes") fd__law_all_codes
  g__law_all_codes : mg "_law_all_codes" = some (.ref (He.ga K "_law_all_codes"))
  fd__law_right : FuncData
  D__law_right : FunD K "_law_right" "_law_right" (defArgs s__law_right) (defBody s__law_right) (defScope s__law_right) [] [] (He.ga K "_law_right") fd__law_right
  g__law_right : mg "_law_right" = some (.ref (He.ga K "_law_right"))
  fd__law_cell : FuncData
  D__law_cell : FunD K "_law_cell" "_law_cell" (defArgs s__law_cell) (defBody s__law_cell) (defScope s__law_cell) [] [] (He.ga K "_law_cell") fd__law_cell
  g__law_cell : mg "_law_cell" = some (.ref (He.ga K "_law_cell"))
  fd__law_generator : FuncData
  D__law_generator : FunD K "_law_generator" "_law_generator" (defArgs s__law_generator) (defBody s__law_generator) (defScope s__law_generator) [] [] (He.ga K "_law_generator") fd__law_generator
  g__law_generator : mg "_law_generator" = some (.ref (He.ga K "_law_generator"))
  b_bool : mg "bool" = none
  b_int : mg "int" = none
  b_isinstance : mg "isinstance" = none
  b_len : mg "len" = none
  b_list : mg "list" = none
  b_max : mg "max" = none
  b_range : mg "range" = none
  b_repr : mg "repr" = none
  b_set : mg "set" = none
  b_sum : mg "sum" = none
  b_tuple : mg "tuple" = none
noncomputable section
variable {P : Program} {w : World} {K : PySem.W.Frag} {mg : Str → Option Value} {base : Heap}
theorem sc_is_whole : FnScope ["value"] ["value"] (defScope s_is_whole) := ⟨rfl, rfl, rfl, by decide +kernel, rfl, by decide +kernel, by decide +kernel⟩
abbrev m_is_whole : MS :=
  (mRet (mVal (mAndV (mIsi "int" (mVar 0)) (mNotV (mIsi "bool" (mVar 0))))))
def F_is_whole : FM := fnM 0 m_is_whole
theorem bn_is_whole (c : Fx w K mg) : Binds K c.fd_is_whole ["value"] [] := FunD.bindsN (ps := ["value"]) c.D_is_whole fun _ _ _ _ _ _ us hl => match us, hl with | [_], _ => rfl
theorem fn_is_whole (c : Fx w K mg) : FnG P w K mg base CX0 1 (He.ga K "is_whole") c.fd_is_whole ["value"] (spD K mg 1 F_is_whole) :=
  fnG_D c.D_is_whole sc_is_whole rfl rfl fun _ _ _ _ _ _ hG hr => have hu := hr.units; have hu5 := unit5 hr; ⟨_, RB.nox <|
    (rb_one (rs_ret (rn_val (re_and (re_isi "int" rfl c.b_isinstance rfl c.b_int cb_int (re_var 0)) (re_one (re_not (re_isi "bool" rfl c.b_isinstance rfl c.b_bool cb_bool (re_var 0))))))))⟩
theorem sc_is_between : FnScope ["value", "low", "high"] ["value", "low", "high"] (defScope s_is_between) := ⟨rfl, rfl, rfl, by decide +kernel, rfl, by decide +kernel, by decide +kernel⟩
abbrev m_is_between : MS :=
  (mSeq (mIfS (mNotT (mT (mFrz (mCallV 1 F_is_whole (mCons (mVar 0) mNil))))) (mRet (mVal (mC (.bool false)))) mNext)
  (mRet (mVal (mAndV (mOrV (mOp fIsN (mVar 1) (mC .none)) (mOp fGeI (mVar 0) (mVar 1))) (mOrV (mOp fIsN (mVar 2) (mC .none)) (mOp fLeI (mVar 0) (mVar 2)))))))
def F_is_between : FM := fnM 0 m_is_between
theorem bn_is_between (c : Fx w K mg) : Binds K c.fd_is_between ["value", "low", "high"] [] := FunD.bindsN (ps := ["value", "low", "high"]) c.D_is_between fun _ _ _ _ _ _ us hl => match us, hl with | [_, _, _], _ => rfl
theorem fn_is_between (c : Fx w K mg) : FnG P w K mg base CX0 2 (He.ga K "is_between") c.fd_is_between ["value", "low", "high"] (spD K mg 3 F_is_between) :=
  fnG_D c.D_is_between sc_is_between rfl rfl fun _ _ _ _ _ _ hG hr => have hu := hr.units; have hu5 := unit5 hr; ⟨_, RB.nox <|
    (rb_cons (rs_if (rt_not (rt_val (re_new (rn_callV (fn_is_whole c) hG (hr.mono (by decide)) rfl c.g_is_whole c.D_is_whole.kp (bn_is_whole c) (ra_cons (re_var 0) ra_nil))))) (rb_one (rs_ret (rn_val re_bl))) rb_nil)
      (rb_one (rs_ret (rn_val (re_and (re_or (re_cmp (CW.op_isN) opv_isN (re_var 1) re_non (nomark _)) (re_one (re_cmp (op_ge) (opv_I0 fun _ _ _ => .bl _) (re_var 0) (re_var 1) (nomark _)))) (re_one (re_or (re_cmp (CW.op_isN) opv_isN (re_var 2) re_non (nomark _)) (re_one (re_cmp (op_le) (opv_I0 fun _ _ _ => .bl _) (re_var 0) (re_var 2) (nomark _))))))))))⟩
theorem sc_row_of_fits : FnScope ["size", "value", "item"] ["size", "value"] (defScope s_row_of_fits) := ⟨rfl, rfl, rfl, by decide +kernel, rfl, by decide +kernel, by decide +kernel⟩
abbrev cg_row_of_fits_0 : PyData → Ev → Res Ev := (gSet 2)
abbrev ct_row_of_fits_0 : MT := (mNotT (mT (mFrz (mCallV 3 F_is_between (mCons (mVar 2) (mCons (mC (.int 0)) (mCons (mOp fSub (mVar 0) (mC (.int 1))) mNil)))))))
abbrev ce_row_of_fits_0 : ME := (mVar 2)
abbrev m_row_of_fits : MS :=
  (mSeq (mIfS (mOrT (mNotT (mT (mIsi "list" (mVar 1)))) (mT (mOp fNe (mFrz (mCall fLen (mCons (mVar 1) mNil))) (mVar 0)))) (mRet (mVal (mC (.bool false)))) mNext)
  (mRet (mVal (mOp fEq (mFrz (mLc (mItems (mVar 1)) cg_row_of_fits_0 ct_row_of_fits_0 ce_row_of_fits_0 [2])) (mFrz (mLst mNil))))))
def F_row_of_fits : FM := fnM 1 m_row_of_fits
theorem bn_row_of_fits (c : Fx w K mg) : Binds K c.fd_row_of_fits ["size", "value"] [] := FunD.bindsN (ps := ["size", "value"]) c.D_row_of_fits fun _ _ _ _ _ _ us hl => match us, hl with | [_, _], _ => rfl
theorem fn_row_of_fits (c : Fx w K mg) : FnG P w K mg base CX0 3 (He.ga K "row_of_fits") c.fd_row_of_fits ["size", "value"] (spD K mg 2 F_row_of_fits) :=
  fnG_D c.D_row_of_fits sc_row_of_fits rfl rfl fun _ _ _ _ _ _ hG hr => have hu := hr.units; have hu5 := unit5 hr; ⟨_, RB.nox <|
    (rb_cons (rs_if (RW.rt (rw_or (rt_not (rt_val (re_isi "list" rfl c.b_isinstance rfl c.b_list cb_list (re_var 1)))) (rw_or1 (rt_cmp (op_neA hu) opv_ne (re_new (rn_callB call_lenA calln_len rfl c.b_len cb_len (ra_cons (re_var 1) ra_nil))) (re_var 0) (nomark _))))) (rb_one (rs_ret (rn_val re_bl))) rb_nil)
      (rb_one (rs_ret (rn_val (re_cmp (op_eqA hu) opv_eq (re_new (rn_lc [("item", 2)] rfl sc_row_of_fits.nd (ri_any (re_var 1)) (fun _ _ _ _ _ => ⟨_, _, (rg_name 2 sc_row_of_fits.nd), by decide⟩) (fun _ _ _ _ _ => ⟨_, (rts_one (rt_not (rt_val (re_new (rn_callV (fn_is_between c) hG (hr.mono (by decide)) rfl c.g_is_between c.D_is_between.kp (bn_is_between c) (ra_cons (re_var 2) (ra_cons re_int (ra_cons (re_sub (re_var 0) re_int) ra_nil))))))))⟩) (fun _ _ _ _ _ => ⟨_, (re_var 2)⟩))) (re_new (rn_lst ra_nil)) (nomark _))))))⟩
theorem sc_all_once : FnScope ["size", "value"] ["size", "value"] (defScope s_all_once) := ⟨rfl, rfl, rfl, by decide +kernel, rfl, by decide +kernel, by decide +kernel⟩
abbrev m_all_once : MS :=
  (mRet (mVal (mAndV (mFrz (mCallV 2 F_row_of_fits (mCons (mVar 0) (mCons (mVar 1) mNil)))) (mOp fEq (mLenSet (mVar 1)) (mVar 0)))))
def F_all_once : FM := fnM 0 m_all_once
theorem bn_all_once (c : Fx w K mg) : Binds K c.fd_all_once ["size", "value"] [] := FunD.bindsN (ps := ["size", "value"]) c.D_all_once fun _ _ _ _ _ _ us hl => match us, hl with | [_, _], _ => rfl
theorem fn_all_once (c : Fx w K mg) : FnG P w K mg base CX0 4 (He.ga K "all_once") c.fd_all_once ["size", "value"] (spD K mg 2 F_all_once) :=
  fnG_D c.D_all_once sc_all_once rfl rfl fun _ _ _ _ _ _ hG hr => have hu := hr.units; have hu5 := unit5 hr; ⟨_, RB.nox <|
    (rb_one (rs_ret (rn_val (re_and (re_new (rn_callV (fn_row_of_fits c) hG (hr.mono (by decide)) rfl c.g_row_of_fits c.D_row_of_fits.kp (bn_row_of_fits c) (ra_cons (re_var 0) (ra_cons (re_var 1) ra_nil)))) (re_one (re_cmp (op_eqA hu) opv_eq (re_lenSet rfl rfl c.b_len rfl c.b_set (re_var 1)) (re_var 0) (nomark _)))))))⟩
theorem sc_square_fits : FnScope ["value", "row", "at"] ["value"] (defScope s_square_fits) := ⟨rfl, rfl, rfl, by decide +kernel, rfl, by decide +kernel, by decide +kernel⟩
abbrev cg_square_fits_0 : PyData → Ev → Res Ev := (gSet 1)
abbrev ct_square_fits_0 : MT := (mNotT (mT (mFrz (mCallV 2 F_all_once (mCons (mFrz (mCall fLen (mCons (mVar 0) mNil))) (mCons (mVar 1) mNil))))))
abbrev ce_square_fits_0 : ME := (mVar 1)
abbrev cg_square_fits_1 : PyData → Ev → Res Ev := (gSet 1)
abbrev ct_square_fits_1 : MT := mYes
abbrev ce_square_fits_1 : ME := (mOp fIx (mVar 1) (mVar 2))
abbrev cg_square_fits_2 : PyData → Ev → Res Ev := (gSet 2)
abbrev ct_square_fits_2 : MT := (mNotT (mT (mFrz (mCallV 2 F_all_once (mCons (mFrz (mCall fLen (mCons (mVar 0) mNil))) (mCons (mFrz (mLc (mItems (mVar 0)) cg_square_fits_1 ct_square_fits_1 ce_square_fits_1 [1])) mNil))))))
abbrev ce_square_fits_2 : ME := (mVar 2)
abbrev m_square_fits : MS :=
  (mSeq (mIfS (mOrT (mNotT (mT (mIsi "list" (mVar 0)))) (mT (mOp fLtI (mFrz (mCall fLen (mCons (mVar 0) mNil))) (mC (.int 2))))) (mRet (mVal (mC (.bool false)))) mNext)
  (mSeq (mIfS (mT (mOp fNe (mFrz (mLc (mItems (mVar 0)) cg_square_fits_0 ct_square_fits_0 ce_square_fits_0 [1])) (mFrz (mLst mNil)))) (mRet (mVal (mC (.bool false)))) mNext)
  (mRet (mVal (mOp fEq (mFrz (mLc (mRng1 (mCons (mFrz (mCall fLen (mCons (mVar 0) mNil))) mNil)) cg_square_fits_2 ct_square_fits_2 ce_square_fits_2 [2])) (mFrz (mLst mNil)))))))
def F_square_fits : FM := fnM 2 m_square_fits
theorem bn_square_fits (c : Fx w K mg) : Binds K c.fd_square_fits ["value"] [] := FunD.bindsN (ps := ["value"]) c.D_square_fits fun _ _ _ _ _ _ us hl => match us, hl with | [_], _ => rfl
theorem fn_square_fits (c : Fx w K mg) : FnG P w K mg base CX0 5 (He.ga K "square_fits") c.fd_square_fits ["value"] (spD K mg 1 F_square_fits) :=
  fnG_D c.D_square_fits sc_square_fits rfl rfl fun _ _ _ _ _ _ hG hr => have hu := hr.units; have hu5 := unit5 hr; ⟨_, RB.nox <|
    (rb_cons (rs_if (RW.rt (rw_or (rt_not (rt_val (re_isi "list" rfl c.b_isinstance rfl c.b_list cb_list (re_var 0)))) (rw_or1 (rt_cmp (op_lt) (opv_I0 fun _ _ _ => .bl _) (re_new (rn_callB call_lenA calln_len rfl c.b_len cb_len (ra_cons (re_var 0) ra_nil))) re_int (nomark _))))) (rb_one (rs_ret (rn_val re_bl))) rb_nil)
      (rb_cons (rs_if (rt_cmp (op_neA hu) opv_ne (re_new (rn_lc [("row", 1)] rfl sc_square_fits.nd (ri_any (re_var 0)) (fun _ _ _ _ _ => ⟨_, _, (rg_name 1 sc_square_fits.nd), by decide⟩) (fun _ _ _ _ _ => ⟨_, (rts_one (rt_not (rt_val (re_new (rn_callV (fn_all_once c) hG (hr.mono (by decide)) rfl c.g_all_once c.D_all_once.kp (bn_all_once c) (ra_cons (re_new (rn_callB call_lenA calln_len rfl c.b_len cb_len (ra_cons (re_var 0) ra_nil))) (ra_cons (re_var 1) ra_nil)))))))⟩) (fun _ _ _ _ _ => ⟨_, (re_var 1)⟩))) (re_new (rn_lst ra_nil)) (nomark _)) (rb_one (rs_ret (rn_val re_bl))) rb_nil)
      (rb_one (rs_ret (rn_val (re_cmp (op_eqA hu) opv_eq (re_new (rn_lc [("at", 2)] rfl sc_square_fits.nd (ri_rng1 rfl c.b_range (ra_cons (re_new (rn_callB call_lenA calln_len rfl c.b_len cb_len (ra_cons (re_var 0) ra_nil))) ra_nil)) (fun _ _ _ _ _ => ⟨_, _, (rg_name 2 sc_square_fits.nd), by decide⟩) (fun _ _ _ _ _ => ⟨_, (rts_one (rt_not (rt_val (re_new (rn_callV (fn_all_once c) hG (hr.mono (by decide)) rfl c.g_all_once c.D_all_once.kp (bn_all_once c) (ra_cons (re_new (rn_callB call_lenA calln_len rfl c.b_len cb_len (ra_cons (re_var 0) ra_nil))) (ra_cons (re_new (rn_lc [("row", 1)] rfl sc_square_fits.nd (ri_any (re_var 0)) (fun _ _ _ _ _ => ⟨_, _, (rg_name 1 sc_square_fits.nd), by decide⟩) (fun _ _ _ _ _ => ⟨_, rts_nil⟩) (fun _ _ _ _ _ => ⟨_, (re_ix (re_var 1) (re_var 2))⟩))) ra_nil)))))))⟩) (fun _ _ _ _ _ => ⟨_, (re_var 2)⟩))) (re_new (rn_lst ra_nil)) (nomark _)))))))⟩
theorem sc_chain_fits : FnScope ["value", "state"] ["value"] (defScope s_chain_fits) := ⟨rfl, rfl, rfl, by decide +kernel, rfl, by decide +kernel, by decide +kernel⟩
abbrev cg_chain_fits_0 : PyData → Ev → Res Ev := (gSet 1)
abbrev ct_chain_fits_0 : MT := (mNotT (mT (mFrz (mCallV 3 F_is_between (mCons (mVar 1) (mCons (mC (.int 0)) (mCons (mOp fSub (mFrz (mCall fLen (mCons (mOp fIx (mVar 0) (mC (.int 0))) mNil))) (mC (.int 1))) mNil)))))))
abbrev ce_chain_fits_0 : ME := (mVar 1)
abbrev m_chain_fits : MS :=
  (mSeq (mIfS (mOrT (mNotT (mT (mIsi "tuple" (mVar 0)))) (mOrT (mT (mOp fNe (mFrz (mCall fLen (mCons (mVar 0) mNil))) (mC (.int 3)))) (mNotT (mT (mFrz (mCallV 1 F_square_fits (mCons (mOp fIx (mVar 0) (mC (.int 0))) mNil))))))) (mRet (mVal (mC (.bool false)))) mNext)
  (mRet (mVal (mOp fEq (mFrz (mLc (mItems (mFrz (mSlice (mVar 0) (mPart (mC (.int 1))) mNoPart))) cg_chain_fits_0 ct_chain_fits_0 ce_chain_fits_0 [1])) (mFrz (mLst mNil))))))
def F_chain_fits : FM := fnM 1 m_chain_fits
theorem bn_chain_fits (c : Fx w K mg) : Binds K c.fd_chain_fits ["value"] [] := FunD.bindsN (ps := ["value"]) c.D_chain_fits fun _ _ _ _ _ _ us hl => match us, hl with | [_], _ => rfl
theorem fn_chain_fits (c : Fx w K mg) : FnG P w K mg base CX0 6 (He.ga K "chain_fits") c.fd_chain_fits ["value"] (spD K mg 1 F_chain_fits) :=
  fnG_D c.D_chain_fits sc_chain_fits rfl rfl fun _ _ _ _ _ _ hG hr => have hu := hr.units; have hu5 := unit5 hr; ⟨_, RB.nox <|
    (rb_cons (rs_if (RW.rt (rw_or (rt_not (rt_val (re_isi "tuple" rfl c.b_isinstance rfl c.b_tuple cb_tuple (re_var 0)))) (rw_or (rt_cmp (op_neA hu) opv_ne (re_new (rn_callB call_lenA calln_len rfl c.b_len cb_len (ra_cons (re_var 0) ra_nil))) re_int (nomark _)) (rw_or1 (rt_not (rt_val (re_new (rn_callV (fn_square_fits c) hG (hr.mono (by decide)) rfl c.g_square_fits c.D_square_fits.kp (bn_square_fits c) (ra_cons (re_ix (re_var 0) re_int) ra_nil))))))))) (rb_one (rs_ret (rn_val re_bl))) rb_nil)
      (rb_one (rs_ret (rn_val (re_cmp (op_eqA hu) opv_eq (re_new (rn_lc [("state", 1)] rfl sc_chain_fits.nd (ri_any (re_new (rn_slice (re_var 0) (ro_some re_int) ro_none))) (fun _ _ _ _ _ => ⟨_, _, (rg_name 1 sc_chain_fits.nd), by decide⟩) (fun _ _ _ _ _ => ⟨_, (rts_one (rt_not (rt_val (re_new (rn_callV (fn_is_between c) hG (hr.mono (by decide)) rfl c.g_is_between c.D_is_between.kp (bn_is_between c) (ra_cons (re_var 1) (ra_cons re_int (ra_cons (re_sub (re_new (rn_callB call_lenA calln_len rfl c.b_len cb_len (ra_cons (re_ix (re_var 0) re_int) ra_nil))) re_int) ra_nil))))))))⟩) (fun _ _ _ _ _ => ⟨_, (re_var 1)⟩))) (re_new (rn_lst ra_nil)) (nomark _))))))⟩
theorem sc_check_chain : FnScope ["chain"] ["chain"] (defScope s_check_chain) := ⟨rfl, rfl, rfl, by decide +kernel, rfl, by decide +kernel, by decide +kernel⟩
abbrev m_check_chain : MS :=
  (mIfS (mNotT (mT (mFrz (mCallV 1 F_chain_fits (mCons (mVar 0) mNil))))) mNever mNext)
def F_check_chain : FM := fnM 0 m_check_chain
theorem bn_check_chain (c : Fx w K mg) : Binds K c.fd_check_chain ["chain"] [] := FunD.bindsN (ps := ["chain"]) c.D_check_chain fun _ _ _ _ _ _ us hl => match us, hl with | [_], _ => rfl
theorem fn_check_chain (c : Fx w K mg) : FnG P w K mg base CX0 7 (He.ga K "check_chain") c.fd_check_chain ["chain"] (spD K mg 1 F_check_chain) :=
  fnG_D c.D_check_chain sc_check_chain rfl rfl fun _ _ _ _ _ _ hG hr => have hu := hr.units; have hu5 := unit5 hr; ⟨_, RB.nox <|
    (rb_one (rs_if (rt_not (rt_val (re_new (rn_callV (fn_chain_fits c) hG (hr.mono (by decide)) rfl c.g_chain_fits c.D_chain_fits.kp (bn_chain_fits c) (ra_cons (re_var 0) ra_nil))))) rb_never rb_nil))⟩
theorem sc_check_list : FnScope ["chain", "code", "sign"] ["chain", "code"] (defScope s_check_list) := ⟨rfl, rfl, rfl, by decide +kernel, rfl, by decide +kernel, by decide +kernel⟩
abbrev cg_check_list_0 : PyData → Ev → Res Ev := (gSet 2)
abbrev ct_check_list_0 : MT := (mNotT (mT (mFrz (mCallV 3 F_is_between (mCons (mVar 2) (mCons (mC (.int 0)) (mCons (mOp fSub (mFrz (mCall fLen (mCons (mOp fIx (mVar 0) (mC (.int 0))) mNil))) (mC (.int 1))) mNil)))))))
abbrev ce_check_list_0 : ME := (mVar 2)
abbrev m_check_list : MS :=
  (mSeq (mDrop (mCallV 1 F_check_chain (mCons (mVar 0) mNil)))
  (mSeq (mIfS (mOrT (mNotT (mT (mIsi "list" (mVar 1)))) (mT (mOp fEq (mVar 1) (mFrz (mLst mNil))))) mNever mNext)
  (mIfS (mT (mOp fNe (mFrz (mLc (mItems (mVar 1)) cg_check_list_0 ct_check_list_0 ce_check_list_0 [2])) (mFrz (mLst mNil)))) mNever mNext)))
def F_check_list : FM := fnM 1 m_check_list
theorem bn_check_list (c : Fx w K mg) : Binds K c.fd_check_list ["chain", "code"] [] := FunD.bindsN (ps := ["chain", "code"]) c.D_check_list fun _ _ _ _ _ _ us hl => match us, hl with | [_, _], _ => rfl
theorem fn_check_list (c : Fx w K mg) : FnG P w K mg base CX0 8 (He.ga K "check_list") c.fd_check_list ["chain", "code"] (spD K mg 2 F_check_list) :=
  fnG_D c.D_check_list sc_check_list rfl rfl fun _ _ _ _ _ _ hG hr => have hu := hr.units; have hu5 := unit5 hr; ⟨_, RB.nox <|
    (rb_cons (rs_expr (rn_callV (fn_check_chain c) hG (hr.mono (by decide)) rfl c.g_check_chain c.D_check_chain.kp (bn_check_chain c) (ra_cons (re_var 0) ra_nil)))
      (rb_cons (rs_if (RW.rt (rw_or (rt_not (rt_val (re_isi "list" rfl c.b_isinstance rfl c.b_list cb_list (re_var 1)))) (rw_or1 (rt_cmp (op_eqA hu) opv_eq (re_var 1) (re_new (rn_lst ra_nil)) (nomark _))))) rb_never rb_nil)
      (rb_one (rs_if (rt_cmp (op_neA hu) opv_ne (re_new (rn_lc [("sign", 2)] rfl sc_check_list.nd (ri_any (re_var 1)) (fun _ _ _ _ _ => ⟨_, _, (rg_name 2 sc_check_list.nd), by decide⟩) (fun _ _ _ _ _ => ⟨_, (rts_one (rt_not (rt_val (re_new (rn_callV (fn_is_between c) hG (hr.mono (by decide)) rfl c.g_is_between c.D_is_between.kp (bn_is_between c) (ra_cons (re_var 2) (ra_cons re_int (ra_cons (re_sub (re_new (rn_callB call_lenA calln_len rfl c.b_len cb_len (ra_cons (re_ix (re_var 0) re_int) ra_nil))) re_int) ra_nil))))))))⟩) (fun _ _ _ _ _ => ⟨_, (re_var 2)⟩))) (re_new (rn_lst ra_nil)) (nomark _)) rb_never rb_nil))))⟩
theorem sc_states_in : FnScope ["square", "start", "code", "found", "sign"] ["square", "start", "code"] (defScope s_states_in) := ⟨rfl, rfl, rfl, by decide +kernel, rfl, by decide +kernel, by decide +kernel⟩
abbrev g_states_in_0 : PyData → Ev → Res Ev := (gSet 4)
abbrev b_states_in_0 : MS := (mDrop (mVal (mOwnM 3 fAppend (mCons (mOp fIx (mOp fIx (mVar 0) (mIxV 3 (mNeg (mC (.int 1))))) (mVar 4)) mNil))))
abbrev m_states_in : MS :=
  (mSeq (mSet 3 (mLst (mCons (mVar 1) mNil)))
  (mSeq (mFor (mItems (mVar 2)) g_states_in_0 b_states_in_0)
  (mRet (mMv 3))))
def F_states_in : FM := fnM 2 m_states_in
theorem bn_states_in (c : Fx w K mg) : Binds K c.fd_states_in ["square", "start", "code"] [] := FunD.bindsN (ps := ["square", "start", "code"]) c.D_states_in fun _ _ _ _ _ _ us hl => match us, hl with | [_, _, _], _ => rfl
theorem fn_states_in (c : Fx w K mg) : FnG P w K mg base CX0 1 (He.ga K "states_in") c.fd_states_in ["square", "start", "code"] (spD K mg 3 F_states_in) :=
  fnG_D c.D_states_in sc_states_in rfl rfl fun _ _ _ _ _ _ hG hr => have hu := hr.units; have hu5 := unit5 hr; ⟨_, RB.nox <|
    (rb_cons (rs_set 3 sc_states_in.nd (rn_lst (ra_cons (re_var 1) ra_nil)))
      (rb_cons (rs_for PassesOwn.never rfl (ri_any (re_var 2)) (rg_name 4 sc_states_in.nd) (rb_one (rs_expr (rn_val (re_append 3 (ra_cons (re_ix (re_ix (re_var 0) (re_ixV 3 (re_neg re_int))) (re_var 4)) ra_nil))))))
      (rb_one (rs_ret (rn_mv 3)))))⟩
theorem sc_states_of : FnScope ["chain", "code"] ["chain", "code"] (defScope s_states_of) := ⟨rfl, rfl, rfl, by decide +kernel, rfl, by decide +kernel, by decide +kernel⟩
abbrev m_states_of : MS :=
  (mSeq (mDrop (mCallV 2 F_check_list (mCons (mVar 0) (mCons (mVar 1) mNil))))
  (mRet (mCallV 3 F_states_in (mCons (mOp fIx (mVar 0) (mC (.int 0))) (mCons (mOp fIx (mVar 0) (mC (.int 1))) (mCons (mVar 1) mNil))))))
def F_states_of : FM := fnM 0 m_states_of
theorem bn_states_of (c : Fx w K mg) : Binds K c.fd_states_of ["chain", "code"] [] := FunD.bindsN (ps := ["chain", "code"]) c.D_states_of fun _ _ _ _ _ _ us hl => match us, hl with | [_, _], _ => rfl
theorem kw_states_of_0_code_chain (c : Fx w K mg) : KwTo K c.fd_states_of ["chain", "code"] 0 ["code", "chain"] [1, 0] := kwTo_of c.D_states_of fun _ _ _ _ _ _ us ws h1 h2 => match us, ws, h1, h2 with | [], [_, _], _, _ => rfl
theorem fn_states_of (c : Fx w K mg) : FnG P w K mg base CX0 9 (He.ga K "states_of") c.fd_states_of ["chain", "code"] (spD K mg 2 F_states_of) :=
  fnG_D c.D_states_of sc_states_of rfl rfl fun _ _ _ _ _ _ hG hr => have hu := hr.units; have hu5 := unit5 hr; ⟨_, RB.nox <|
    (rb_cons (rs_expr (rn_callV (fn_check_list c) hG (hr.mono (by decide)) rfl c.g_check_list c.D_check_list.kp (bn_check_list c) (ra_cons (re_var 0) (ra_cons (re_var 1) ra_nil))))
      (rb_one (rs_ret (rn_callV (fn_states_in c) hG (hr.mono (by decide)) rfl c.g_states_in c.D_states_in.kp (bn_states_in c) (ra_cons (re_ix (re_var 0) re_int) (ra_cons (re_ix (re_var 0) re_int) (ra_cons (re_var 1) ra_nil)))))))⟩
theorem sc_is_right_chain : FnScope ["chain", "code"] ["chain", "code"] (defScope s_is_right_chain) := ⟨rfl, rfl, rfl, by decide +kernel, rfl, by decide +kernel, by decide +kernel⟩
abbrev m_is_right_chain : MS :=
  (mSeq (mDrop (mCallV 2 F_check_list (mCons (mVar 0) (mCons (mVar 1) mNil))))
  (mRet (mVal (mOp fEq (mOp fIx (mFrz (mCallV 3 F_states_in (mCons (mOp fIx (mVar 0) (mC (.int 0))) (mCons (mOp fIx (mVar 0) (mC (.int 1))) (mCons (mVar 1) mNil))))) (mNeg (mC (.int 1)))) (mOp fIx (mVar 0) (mC (.int 2)))))))
def F_is_right_chain : FM := fnM 0 m_is_right_chain
theorem bn_is_right_chain (c : Fx w K mg) : Binds K c.fd_is_right_chain ["chain", "code"] [] := FunD.bindsN (ps := ["chain", "code"]) c.D_is_right_chain fun _ _ _ _ _ _ us hl => match us, hl with | [_, _], _ => rfl
theorem kw_is_right_chain_0_code_chain (c : Fx w K mg) : KwTo K c.fd_is_right_chain ["chain", "code"] 0 ["code", "chain"] [1, 0] := kwTo_of c.D_is_right_chain fun _ _ _ _ _ _ us ws h1 h2 => match us, ws, h1, h2 with | [], [_, _], _, _ => rfl
theorem fn_is_right_chain (c : Fx w K mg) : FnG P w K mg base CX0 9 (He.ga K "is_right_chain") c.fd_is_right_chain ["chain", "code"] (spD K mg 2 F_is_right_chain) :=
  fnG_D c.D_is_right_chain sc_is_right_chain rfl rfl fun _ _ _ _ _ _ hG hr => have hu := hr.units; have hu5 := unit5 hr; ⟨_, RB.nox <|
    (rb_cons (rs_expr (rn_callV (fn_check_list c) hG (hr.mono (by decide)) rfl c.g_check_list c.D_check_list.kp (bn_check_list c) (ra_cons (re_var 0) (ra_cons (re_var 1) ra_nil))))
      (rb_one (rs_ret (rn_val (re_cmp (op_eqA hu) opv_eq (re_ix (re_new (rn_callV (fn_states_in c) hG (hr.mono (by decide)) rfl c.g_states_in c.D_states_in.kp (bn_states_in c) (ra_cons (re_ix (re_var 0) re_int) (ra_cons (re_ix (re_var 0) re_int) (ra_cons (re_var 1) ra_nil))))) (re_neg re_int)) (re_ix (re_var 0) re_int) (nomark _))))))⟩
theorem sc_check_number : FnScope ["number", "low", "high"] ["number", "low", "high"] (defScope s_check_number) := ⟨rfl, rfl, rfl, by decide +kernel, rfl, by decide +kernel, by decide +kernel⟩
abbrev m_check_number : MS :=
  (mIfS (mNotT (mT (mFrz (mCallV 3 F_is_between (mCons (mVar 0) (mCons (mVar 1) (mCons (mVar 2) mNil))))))) mNever mNext)
def F_check_number : FM := fnM 0 m_check_number
theorem bn_check_number (c : Fx w K mg) : Binds K c.fd_check_number ["number", "low", "high"] [] := FunD.bindsN (ps := ["number", "low", "high"]) c.D_check_number fun _ _ _ _ _ _ us hl => match us, hl with | [_, _, _], _ => rfl
theorem fn_check_number (c : Fx w K mg) : FnG P w K mg base CX0 3 (He.ga K "check_number") c.fd_check_number ["number", "low", "high"] (spD K mg 3 F_check_number) :=
  fnG_D c.D_check_number sc_check_number rfl rfl fun _ _ _ _ _ _ hG hr => have hu := hr.units; have hu5 := unit5 hr; ⟨_, RB.nox <|
    (rb_one (rs_if (rt_not (rt_val (re_new (rn_callV (fn_is_between c) hG (hr.mono (by decide)) rfl c.g_is_between c.D_is_between.kp (bn_is_between c) (ra_cons (re_var 0) (ra_cons (re_var 1) (ra_cons (re_var 2) ra_nil))))))) rb_never rb_nil))⟩
theorem sc_sign_at : FnScope ["chain", "code", "place", "square", "start", "end", "sign", "row"] ["chain", "code", "place"] (defScope s_sign_at) := ⟨rfl, rfl, rfl, by decide +kernel, rfl, by decide +kernel, by decide +kernel⟩
abbrev cg_sign_at_0 : PyData → Ev → Res Ev := (gSet 7)
abbrev ct_sign_at_0 : MT := mYes
abbrev ce_sign_at_0 : ME := (mOp fIx (mVar 7) (mVar 6))
abbrev g_sign_at_0 : PyData → Ev → Res Ev := (gSet 6)
abbrev b_sign_at_0 : MS := (mSet 5 (mVal (mIdx (mFrz (mLc (mItems (mVar 3)) cg_sign_at_0 ct_sign_at_0 ce_sign_at_0 [7])) (mVar 5))))
abbrev m_sign_at : MS :=
  (mSeq (mDrop (mCallV 2 F_check_list (mCons (mVar 0) (mCons (mVar 1) mNil))))
  (mSeq (mDrop (mCallV 3 F_check_number (mCons (mVar 2) (mCons (mC (.int 0)) (mCons (mOp fSub (mFrz (mCall fLen (mCons (mVar 1) mNil))) (mC (.int 1))) mNil)))))
  (mSeq (mAsg (mVar 0) (gsTup 3 (gsCons (gSet 3) (gsCons (gSet 4) (gsCons (gSet 5) gsNil)))))
  (mSeq (mFor (mItems (mFrz (mRevTo (mVar 1) (mPart (mVar 2))))) g_sign_at_0 b_sign_at_0)
  (mRet (mVal (mIdx (mOp fIx (mVar 3) (mOp fIx (mFrz (mCallV 3 F_states_in (mCons (mVar 3) (mCons (mVar 4) (mCons (mFrz (mSlice (mVar 1) mNoPart (mPart (mVar 2)))) mNil))))) (mNeg (mC (.int 1))))) (mVar 5))))))))
def F_sign_at : FM := fnM 5 m_sign_at
theorem bn_sign_at (c : Fx w K mg) : Binds K c.fd_sign_at ["chain", "code", "place"] [] := FunD.bindsN (ps := ["chain", "code", "place"]) c.D_sign_at fun _ _ _ _ _ _ us hl => match us, hl with | [_, _, _], _ => rfl
theorem kw_sign_at_0_place_code_chain (c : Fx w K mg) : KwTo K c.fd_sign_at ["chain", "code", "place"] 0 ["place", "code", "chain"] [2, 1, 0] := kwTo_of c.D_sign_at fun _ _ _ _ _ _ us ws h1 h2 => match us, ws, h1, h2 with | [], [_, _, _], _, _ => rfl
theorem fn_sign_at (c : Fx w K mg) : FnG P w K mg base CX0 9 (He.ga K "sign_at") c.fd_sign_at ["chain", "code", "place"] (spD K mg 3 F_sign_at) :=
  fnG_D c.D_sign_at sc_sign_at rfl rfl fun _ _ _ _ _ _ hG hr => have hu := hr.units; have hu5 := unit5 hr; ⟨_, RB.nox <|
    (rb_cons (rs_expr (rn_callV (fn_check_list c) hG (hr.mono (by decide)) rfl c.g_check_list c.D_check_list.kp (bn_check_list c) (ra_cons (re_var 0) (ra_cons (re_var 1) ra_nil))))
      (rb_cons (rs_expr (rn_callV (fn_check_number c) hG (hr.mono (by decide)) rfl c.g_check_number c.D_check_number.kp (bn_check_number c) (ra_cons (re_var 2) (ra_cons re_int (ra_cons (re_sub (re_new (rn_callB call_lenA calln_len rfl c.b_len cb_len (ra_cons (re_var 1) ra_nil))) re_int) ra_nil)))))
      (rb_cons (rs_asg (re_var 0) (rg_tup rfl (rgs_cons (rg_name 3 sc_sign_at.nd) (rgs_cons (rg_name 4 sc_sign_at.nd) (rgs_cons (rg_name 5 sc_sign_at.nd) rgs_nil)))))
      (rb_cons (rs_for PassesOwn.never rfl (ri_any (re_new (rn_revTo (re_var 1) (ro_some (re_var 2))))) (rg_name 6 sc_sign_at.nd) (rb_one (rs_set 5 sc_sign_at.nd (rn_val (re_idx hu5 (re_new (rn_lc [("row", 7)] rfl sc_sign_at.nd (ri_any (re_var 3)) (fun _ _ _ _ _ => ⟨_, _, (rg_name 7 sc_sign_at.nd), by decide⟩) (fun _ _ _ _ _ => ⟨_, rts_nil⟩) (fun _ _ _ _ _ => ⟨_, (re_ix (re_var 7) (re_var 6))⟩))) (re_var 5))))))
      (rb_one (rs_ret (rn_val (re_idx hu5 (re_ix (re_var 3) (re_ix (re_new (rn_callV (fn_states_in c) hG (hr.mono (by decide)) rfl c.g_states_in c.D_states_in.kp (bn_states_in c) (ra_cons (re_var 3) (ra_cons (re_var 4) (ra_cons (re_new (rn_slice (re_var 1) ro_none (ro_some (re_var 2)))) ra_nil))))) (re_neg re_int))) (re_var 5)))))))))⟩
theorem sc_times_over : FnScope ["number", "many", "found", "_"] ["number", "many"] (defScope s_times_over) := ⟨rfl, rfl, rfl, by decide +kernel, rfl, by decide +kernel, by decide +kernel⟩
abbrev g_times_over_0 : PyData → Ev → Res Ev := (gSet 3)
abbrev b_times_over_0 : MS := (mSet 2 (mVal (mOp fMulI (mVar 2) (mVar 0))))
abbrev m_times_over : MS :=
  (mSeq (mSet 2 (mVal (mC (.int 1))))
  (mSeq (mFor (mRng1 (mCons (mVar 1) mNil)) g_times_over_0 b_times_over_0)
  (mRet (mVal (mVar 2)))))
def F_times_over : FM := fnM 2 m_times_over
theorem bn_times_over (c : Fx w K mg) : Binds K c.fd_times_over ["number", "many"] [] := FunD.bindsN (ps := ["number", "many"]) c.D_times_over fun _ _ _ _ _ _ us hl => match us, hl with | [_, _], _ => rfl
theorem fn_times_over (c : Fx w K mg) : FnG P w K mg base CX0 1 (He.ga K "times_over") c.fd_times_over ["number", "many"] (spD K mg 2 F_times_over) :=
  fnG_D c.D_times_over sc_times_over rfl rfl fun _ _ _ _ _ _ hG hr => have hu := hr.units; have hu5 := unit5 hr; ⟨_, RB.nox <|
    (rb_cons (rs_set 2 sc_times_over.nd (rn_val re_int))
      (rb_cons (rs_for PassesOwn.never rfl (ri_rng1 rfl c.b_range (ra_cons (re_var 1) ra_nil)) (rg_name 3 sc_times_over.nd) (rb_one (rs_set 2 sc_times_over.nd (rn_val (re_mul (re_var 2) (re_var 0))))))
      (rb_one (rs_ret (rn_val (re_var 2))))))⟩
theorem sc_how_many_right_lists : FnScope ["chain", "length"] ["chain", "length"] (defScope s_how_many_right_lists) := ⟨rfl, rfl, rfl, by decide +kernel, rfl, by decide +kernel, by decide +kernel⟩
abbrev m_how_many_right_lists : MS :=
  (mSeq (mDrop (mCallV 1 F_check_chain (mCons (mVar 0) mNil)))
  (mSeq (mDrop (mCallV 3 F_check_number (mCons (mVar 1) (mCons (mC (.int 1)) (mCons (mC .none) mNil)))))
  (mRet (mCallV 2 F_times_over (mCons (mFrz (mCall fLen (mCons (mOp fIx (mVar 0) (mC (.int 0))) mNil))) (mCons (mOp fSub (mVar 1) (mC (.int 1))) mNil))))))
def F_how_many_right_lists : FM := fnM 0 m_how_many_right_lists
theorem bn_how_many_right_lists (c : Fx w K mg) : Binds K c.fd_how_many_right_lists ["chain", "length"] [] := FunD.bindsN (ps := ["chain", "length"]) c.D_how_many_right_lists fun _ _ _ _ _ _ us hl => match us, hl with | [_, _], _ => rfl
theorem kw_how_many_right_lists_0_length_chain (c : Fx w K mg) : KwTo K c.fd_how_many_right_lists ["chain", "length"] 0 ["length", "chain"] [1, 0] := kwTo_of c.D_how_many_right_lists fun _ _ _ _ _ _ us ws h1 h2 => match us, ws, h1, h2 with | [], [_, _], _, _ => rfl
theorem fn_how_many_right_lists (c : Fx w K mg) : FnG P w K mg base CX0 8 (He.ga K "how_many_right_lists") c.fd_how_many_right_lists ["chain", "length"] (spD K mg 2 F_how_many_right_lists) :=
  fnG_D c.D_how_many_right_lists sc_how_many_right_lists rfl rfl fun _ _ _ _ _ _ hG hr => have hu := hr.units; have hu5 := unit5 hr; ⟨_, RB.nox <|
    (rb_cons (rs_expr (rn_callV (fn_check_chain c) hG (hr.mono (by decide)) rfl c.g_check_chain c.D_check_chain.kp (bn_check_chain c) (ra_cons (re_var 0) ra_nil)))
      (rb_cons (rs_expr (rn_callV (fn_check_number c) hG (hr.mono (by decide)) rfl c.g_check_number c.D_check_number.kp (bn_check_number c) (ra_cons (re_var 1) (ra_cons re_int (ra_cons re_non ra_nil)))))
      (rb_one (rs_ret (rn_callV (fn_times_over c) hG (hr.mono (by decide)) rfl c.g_times_over c.D_times_over.kp (bn_times_over c) (ra_cons (re_new (rn_callB call_lenA calln_len rfl c.b_len cb_len (ra_cons (re_ix (re_var 0) re_int) ra_nil))) (ra_cons (re_sub (re_var 1) re_int) ra_nil)))))))⟩
theorem sc__law_hash : FnScope ["seed", "index", "mixed"] ["seed", "index"] (defScope s__law_hash) := ⟨rfl, rfl, rfl, by decide +kernel, rfl, by decide +kernel, by decide +kernel⟩
abbrev m__law_hash : MS :=
  (mSeq (mSet 2 (mVal (mOp fMod (mFrz (mCall fInt (mCons (mOp fAdd (mOp fAdd (mOp fAdd (mOp fMulI (mVar 0) (mC (.int 1140671))) (mOp fMulI (mOp fMulI (mC (.int 27644437)) (mVar 1)) (mVar 1))) (mOp fMulI (mC (.int 131)) (mVar 1))) (mC (.int 19))) mNil))) (mC (.int 2147483629)))))
  (mSeq (mSet 2 (mVal (mOp fMod (mFrz (mCall fInt (mCons (mOp fAdd (mOp fAdd (mOp fMulI (mVar 2) (mVar 2)) (mOp fMulI (mC (.int 62089)) (mVar 1))) (mC (.int 32416187))) mNil))) (mC (.int 2147483587)))))
  (mRet (mVal (mOp fMod (mFrz (mCall fInt (mCons (mOp fMulI (mVar 2) (mC (.int 48271))) mNil))) (mC (.int 2147483647)))))))
def F__law_hash : FM := fnM 1 m__law_hash
theorem bn__law_hash (c : Fx w K mg) : Binds K c.fd__law_hash ["seed", "index"] [] := FunD.bindsN (ps := ["seed", "index"]) c.D__law_hash fun _ _ _ _ _ _ us hl => match us, hl with | [_, _], _ => rfl
theorem fn__law_hash (c : Fx w K mg) : FnG P w K mg base CX0 1 (He.ga K "_law_hash") c.fd__law_hash ["seed", "index"] (spD K mg 2 F__law_hash) :=
  fnG_D c.D__law_hash sc__law_hash rfl rfl fun _ _ _ _ _ _ hG hr => have hu := hr.units; have hu5 := unit5 hr; ⟨_, RB.nox <|
    (rb_cons (rs_set 2 sc__law_hash.nd (rn_val (re_mod (re_new (rn_callTy call_int1 calln_int rfl c.b_int cb_int (ra_cons (re_add (re_add (re_add (re_mul (re_var 0) re_int) (re_mul (re_mul re_int (re_var 1)) (re_var 1))) (re_mul re_int (re_var 1))) re_int) ra_nil))) re_int)))
      (rb_cons (rs_set 2 sc__law_hash.nd (rn_val (re_mod (re_new (rn_callTy call_int1 calln_int rfl c.b_int cb_int (ra_cons (re_add (re_add (re_mul (re_var 2) (re_var 2)) (re_mul re_int (re_var 1))) re_int) ra_nil))) re_int)))
      (rb_one (rs_ret (rn_val (re_mod (re_new (rn_callTy call_int1 calln_int rfl c.b_int cb_int (ra_cons (re_mul (re_var 2) re_int) ra_nil))) re_int))))))⟩
theorem sc__law_random : FnScope ["generator", "limit", "drawn", "turn"] ["generator", "limit"] (defScope s__law_random) := ⟨rfl, rfl, rfl, by decide +kernel, rfl, by decide +kernel, by decide +kernel⟩
abbrev g__law_random_0 : PyData → Ev → Res Ev := (gSet 3)
abbrev b__law_random_0 : MS := (mSeq (mAsg (mOp fAdd (mIxV 0 (mC (.int 2))) (mC (.int 1))) (gsIx 0 (mC (.int 2))))
  (mSet 2 (mVal (mOp fAdd (mOp fMulI (mVar 2) (mC (.int 2147483587))) (mFrz (mCallV 2 F__law_hash (mCons (mIxV 0 (mC (.int 1))) (mCons (mIxV 0 (mC (.int 2))) mNil))))))))
abbrev m__law_random : MS :=
  (mSeq (mIfS (mT (mOp fGtI (mIxV 0 (mC (.int 0))) (mC (.int 0)))) (mSeq (mSet 2 (mVal (mOp fMod (mFrz (mCall fInt (mCons (mIxV 0 (mC (.int 0))) mNil))) (mVar 1))))
  (mSeq (mAsg (mOp fDiv (mIxV 0 (mC (.int 0))) (mVar 1)) (gsIx 0 (mC (.int 0))))
  (mRet (mVal (mVar 2))))) mNext)
  (mSeq (mSet 2 (mVal (mC (.int 0))))
  (mSeq (mFor (mRng1 (mCons (mOp fAdd (mC (.int 1)) (mOp fDiv (mFrz (mUnN fBits (mVar 1))) (mC (.int 30)))) mNil)) g__law_random_0 b__law_random_0)
  (mRet (mVal (mOp fMod (mFrz (mCall fInt (mCons (mVar 2) mNil))) (mVar 1)))))))
def F__law_random : FM := fnM 2 m__law_random
theorem bn__law_random (c : Fx w K mg) : Binds K c.fd__law_random ["generator", "limit"] [] := FunD.bindsN (ps := ["generator", "limit"]) c.D__law_random fun _ _ _ _ _ _ us hl => match us, hl with | [_, _], _ => rfl
theorem fn__law_random (c : Fx w K mg) : FnG P w K mg base CX0 2 (He.ga K "_law_random") c.fd__law_random ["generator", "limit"] (spD K mg 2 F__law_random) :=
  fnG_D c.D__law_random sc__law_random rfl rfl fun _ _ _ _ _ _ hG hr => have hu := hr.units; have hu5 := unit5 hr; ⟨_, RB.nox <|
    (rb_cons (rs_if (rt_cmp (op_gt) (opv_I0 fun _ _ _ => .bl _) (re_ixV 0 re_int) re_int (nomark _)) (rb_cons (rs_set 2 sc__law_random.nd (rn_val (re_mod (re_new (rn_callTy call_int1 calln_int rfl c.b_int cb_int (ra_cons (re_ixV 0 re_int) ra_nil))) (re_var 1))))
      (rb_cons (rs_asg (re_fdiv (re_ixV 0 re_int) (re_var 1)) (rg_ix 0 re_int))
      (rb_one (rs_ret (rn_val (re_var 2)))))) rb_nil)
      (rb_cons (rs_set 2 sc__law_random.nd (rn_val re_int))
      (rb_cons (rs_for PassesOwn.never rfl (ri_rng1 rfl c.b_range (ra_cons (re_add re_int (re_fdiv (re_new (rn_bits (re_var 1))) re_int)) ra_nil)) (rg_name 3 sc__law_random.nd) (rb_cons (rs_asg (re_add (re_ixV 0 re_int) re_int) (rg_ix 0 re_int))
      (rb_one (rs_set 2 sc__law_random.nd (rn_val (re_add (re_mul (re_var 2) re_int) (re_new (rn_callV (fn__law_hash c) hG (hr.mono (by decide)) rfl c.g__law_hash c.D__law_hash.kp (bn__law_hash c) (ra_cons (re_ixV 0 re_int) (ra_cons (re_ixV 0 re_int) ra_nil))))))))))
      (rb_one (rs_ret (rn_val (re_mod (re_new (rn_callTy call_int1 calln_int rfl c.b_int cb_int (ra_cons (re_var 2) ra_nil))) (re_var 1))))))))⟩
theorem sc__law_abelian : FnScope ["orders", "sizes", "order", "table", "one", "row", "other", "left", "right", "here", "whole"] ["orders"] (defScope s__law_abelian) := ⟨rfl, rfl, rfl, by decide +kernel, rfl, by decide +kernel, by decide +kernel⟩
abbrev g__law_abelian_0 : PyData → Ev → Res Ev := (gSet 2)
abbrev b__law_abelian_0 : MS := (mSet 1 (mVal (mOp fMulI (mVar 1) (mVar 2))))
abbrev g__law_abelian_1 : PyData → Ev → Res Ev := (gSet 2)
abbrev b__law_abelian_1 : MS := (mSeq (mSet 10 (mVal (mOp fAdd (mVar 10) (mOp fMulI (mVar 9) (mOp fMod (mFrz (mCall fInt (mCons (mOp fAdd (mVar 7) (mVar 8)) mNil))) (mVar 2))))))
  (mPar3 7 8 9 (mCons (mOp fDiv (mVar 7) (mVar 2)) (mCons (mOp fDiv (mVar 8) (mVar 2)) (mCons (mOp fMulI (mVar 9) (mVar 2)) mNil)))))
abbrev g__law_abelian_2 : PyData → Ev → Res Ev := (gSet 6)
abbrev b__law_abelian_2 : MS := (mSeq (mAsg (mTup (mCons (mVar 4) (mCons (mVar 6) (mCons (mC (.int 1)) (mCons (mC (.int 0)) mNil))))) (gsTup 4 (gsCons (gSet 7) (gsCons (gSet 8) (gsCons (gSet 9) (gsCons (gSet 10) gsNil))))))
  (mSeq (mFor (mItems (mFrz (mUnN fRev (mVar 0)))) g__law_abelian_1 b__law_abelian_1)
  (mDrop (mVal (mOwnM 5 fAppend (mCons (mVar 10) mNil))))))
abbrev g__law_abelian_3 : PyData → Ev → Res Ev := (gSet 4)
abbrev b__law_abelian_3 : MS := (mSeq (mSet 5 (mLst mNil))
  (mSeq (mFor (mRng1 (mCons (mVar 1) mNil)) g__law_abelian_2 b__law_abelian_2)
  (mDrop (mVal (mOwnM 3 fAppend (mCons (mFz 5) mNil))))))
abbrev m__law_abelian : MS :=
  (mSeq (mSet 1 (mVal (mC (.int 1))))
  (mSeq (mFor (mItems (mVar 0)) g__law_abelian_0 b__law_abelian_0)
  (mSeq (mSet 3 (mLst mNil))
  (mSeq (mFor (mRng1 (mCons (mVar 1) mNil)) g__law_abelian_3 b__law_abelian_3)
  (mRet (mMv 3))))))
def F__law_abelian : FM := fnM 10 m__law_abelian
theorem bn__law_abelian (c : Fx w K mg) : Binds K c.fd__law_abelian ["orders"] [] := FunD.bindsN (ps := ["orders"]) c.D__law_abelian fun _ _ _ _ _ _ us hl => match us, hl with | [_], _ => rfl
theorem fn__law_abelian (c : Fx w K mg) : FnG P w K mg base CX0 1 (He.ga K "_law_abelian") c.fd__law_abelian ["orders"] (spD K mg 1 F__law_abelian) :=
  fnG_D c.D__law_abelian sc__law_abelian rfl rfl fun _ _ _ _ _ _ hG hr => have hu := hr.units; have hu5 := unit5 hr; ⟨_, RB.nox <|
    (rb_cons (rs_set 1 sc__law_abelian.nd (rn_val re_int))
      (rb_cons (rs_for PassesOwn.never rfl (ri_any (re_var 0)) (rg_name 2 sc__law_abelian.nd) (rb_one (rs_set 1 sc__law_abelian.nd (rn_val (re_mul (re_var 1) (re_var 2))))))
      (rb_cons (rs_set 3 sc__law_abelian.nd (rn_lst ra_nil))
      (rb_cons (rs_for PassesOwn.never rfl (ri_rng1 rfl c.b_range (ra_cons (re_var 1) ra_nil)) (rg_name 4 sc__law_abelian.nd) (rb_cons (rs_set 5 sc__law_abelian.nd (rn_lst ra_nil))
      (rb_cons (rs_for PassesOwn.never rfl (ri_rng1 rfl c.b_range (ra_cons (re_var 1) ra_nil)) (rg_name 6 sc__law_abelian.nd) (rb_cons (rs_asg (re_tup (ra_cons (re_var 4) (ra_cons (re_var 6) (ra_cons re_int (ra_cons re_int ra_nil))))) (rg_tup rfl (rgs_cons (rg_name 7 sc__law_abelian.nd) (rgs_cons (rg_name 8 sc__law_abelian.nd) (rgs_cons (rg_name 9 sc__law_abelian.nd) (rgs_cons (rg_name 10 sc__law_abelian.nd) rgs_nil))))))
      (rb_cons (rs_for PassesOwn.never rfl (ri_any (re_new (rn_rev (re_var 0)))) (rg_name 2 sc__law_abelian.nd) (rb_cons (rs_set 10 sc__law_abelian.nd (rn_val (re_add (re_var 10) (re_mul (re_var 9) (re_mod (re_new (rn_callTy call_int1 calln_int rfl c.b_int cb_int (ra_cons (re_add (re_var 7) (re_var 8)) ra_nil))) (re_var 2))))))
      (rb_one (rs_par3 7 8 9 rfl sc__law_abelian.nd (ra_cons (re_fdiv (re_var 7) (re_var 2)) (ra_cons (re_fdiv (re_var 8) (re_var 2)) (ra_cons (re_mul (re_var 9) (re_var 2)) ra_nil)))))))
      (rb_one (rs_expr (rn_val (re_append 5 (ra_cons (re_var 10) ra_nil))))))))
      (rb_one (rs_expr (rn_val (re_append 3 (ra_cons (re_fz 5) ra_nil))))))))
      (rb_one (rs_ret (rn_mv 3)))))))⟩
theorem sc__law_dihedral : FnScope ["turns", "found", "one", "row", "other", "step"] ["turns"] (defScope s__law_dihedral) := ⟨rfl, rfl, rfl, by decide +kernel, rfl, by decide +kernel, by decide +kernel⟩
abbrev g__law_dihedral_0 : PyData → Ev → Res Ev := (gSet 4)
abbrev b__law_dihedral_0 : MS := (mSeq (mSet 5 (mVal (mIf (mT (mOp fLtI (mVar 2) (mVar 0))) (mOp fMod (mFrz (mCall fInt (mCons (mOp fAdd (mVar 2) (mVar 4)) mNil))) (mVar 0)) (mOp fMod (mFrz (mCall fInt (mCons (mOp fSub (mVar 2) (mVar 4)) mNil))) (mVar 0)))))
  (mDrop (mVal (mOwnM 3 fAppend (mCons (mOp fAdd (mVar 5) (mOp fMulI (mVar 0) (mFrz (mCall fInt (mCons (mOp fNe (mOp fLtI (mVar 2) (mVar 0)) (mOp fLtI (mVar 4) (mVar 0))) mNil))))) mNil)))))
abbrev g__law_dihedral_1 : PyData → Ev → Res Ev := (gSet 2)
abbrev b__law_dihedral_1 : MS := (mSeq (mSet 3 (mLst mNil))
  (mSeq (mFor (mRng1 (mCons (mOp fMulI (mC (.int 2)) (mVar 0)) mNil)) g__law_dihedral_0 b__law_dihedral_0)
  (mDrop (mVal (mOwnM 1 fAppend (mCons (mFz 3) mNil))))))
abbrev m__law_dihedral : MS :=
  (mSeq (mSet 1 (mLst mNil))
  (mSeq (mFor (mRng1 (mCons (mOp fMulI (mC (.int 2)) (mVar 0)) mNil)) g__law_dihedral_1 b__law_dihedral_1)
  (mRet (mMv 1))))
def F__law_dihedral : FM := fnM 5 m__law_dihedral
theorem bn__law_dihedral (c : Fx w K mg) : Binds K c.fd__law_dihedral ["turns"] [] := FunD.bindsN (ps := ["turns"]) c.D__law_dihedral fun _ _ _ _ _ _ us hl => match us, hl with | [_], _ => rfl
theorem fn__law_dihedral (c : Fx w K mg) : FnG P w K mg base CX0 1 (He.ga K "_law_dihedral") c.fd__law_dihedral ["turns"] (spD K mg 1 F__law_dihedral) :=
  fnG_D c.D__law_dihedral sc__law_dihedral rfl rfl fun _ _ _ _ _ _ hG hr => have hu := hr.units; have hu5 := unit5 hr; ⟨_, RB.nox <|
    (rb_cons (rs_set 1 sc__law_dihedral.nd (rn_lst ra_nil))
      (rb_cons (rs_for PassesOwn.never rfl (ri_rng1 rfl c.b_range (ra_cons (re_mul re_int (re_var 0)) ra_nil)) (rg_name 2 sc__law_dihedral.nd) (rb_cons (rs_set 3 sc__law_dihedral.nd (rn_lst ra_nil))
      (rb_cons (rs_for PassesOwn.never rfl (ri_rng1 rfl c.b_range (ra_cons (re_mul re_int (re_var 0)) ra_nil)) (rg_name 4 sc__law_dihedral.nd) (rb_cons (rs_set 5 sc__law_dihedral.nd (rn_val (re_if (rt_cmp (op_lt) (opv_I0 fun _ _ _ => .bl _) (re_var 2) (re_var 0) (nomark _)) (re_mod (re_new (rn_callTy call_int1 calln_int rfl c.b_int cb_int (ra_cons (re_add (re_var 2) (re_var 4)) ra_nil))) (re_var 0)) (re_mod (re_new (rn_callTy call_int1 calln_int rfl c.b_int cb_int (ra_cons (re_sub (re_var 2) (re_var 4)) ra_nil))) (re_var 0)))))
      (rb_one (rs_expr (rn_val (re_append 3 (ra_cons (re_add (re_var 5) (re_mul (re_var 0) (re_new (rn_callTy call_int1 calln_int rfl c.b_int cb_int (ra_cons (re_cmp (op_neA hu) opv_ne (re_cmp (op_lt) (opv_I0 fun _ _ _ => .bl _) (re_var 2) (re_var 0) (nomark _)) (re_cmp (op_lt) (opv_I0 fun _ _ _ => .bl _) (re_var 4) (re_var 0) (nomark _)) (nomark _)) ra_nil))))) ra_nil)))))))
      (rb_one (rs_expr (rn_val (re_append 1 (ra_cons (re_fz 3) ra_nil))))))))
      (rb_one (rs_ret (rn_mv 1)))))⟩
theorem sc__law_group : FnScope ["generator", "way", "menu"] ["generator"] (defScope s__law_group) := ⟨rfl, rfl, rfl, by decide +kernel, rfl, by decide +kernel, by decide +kernel⟩
abbrev m__law_group : MS :=
  (mSeq (mSet 1 (mVal (mFrz (mCallI 0 2 F__law_random (mCons (mC (.int 4)) mNil)))))
  (mSeq (mIfS (mT (mOp fEq (mVar 1) (mC (.int 0)))) (mRet (mCallV 1 F__law_dihedral (mCons (mOp fAdd (mC (.int 3)) (mFrz (mCallI 0 2 F__law_random (mCons (mC (.int 3)) mNil)))) mNil))) mNext)
  (mSeq (mSet 2 (mVal (mFrz (mLst (mCons (mTup (mCons (mC (.int 2)) mNil)) (mCons (mTup (mCons (mC (.int 3)) mNil)) (mCons (mTup (mCons (mC (.int 4)) mNil)) (mCons (mTup (mCons (mC (.int 2)) (mCons (mC (.int 2)) mNil))) (mCons (mTup (mCons (mC (.int 5)) mNil)) (mCons (mTup (mCons (mC (.int 6)) mNil)) (mCons (mTup (mCons (mC (.int 7)) mNil)) (mCons (mTup (mCons (mC (.int 8)) mNil)) (mCons (mTup (mCons (mC (.int 2)) (mCons (mC (.int 4)) mNil))) (mCons (mTup (mCons (mC (.int 2)) (mCons (mC (.int 2)) (mCons (mC (.int 2)) mNil)))) (mCons (mTup (mCons (mC (.int 3)) (mCons (mC (.int 3)) mNil))) (mCons (mTup (mCons (mC (.int 9)) mNil)) (mCons (mTup (mCons (mC (.int 10)) mNil)) (mCons (mTup (mCons (mC (.int 2)) (mCons (mC (.int 6)) mNil))) mNil))))))))))))))))))
  (mRet (mCallV 1 F__law_abelian (mCons (mOp fIx (mVar 2) (mFrz (mCallI 0 2 F__law_random (mCons (mFrz (mCall fLen (mCons (mVar 2) mNil))) mNil)))) mNil))))))
def F__law_group : FM := fnM 2 m__law_group
theorem bn__law_group (c : Fx w K mg) : Binds K c.fd__law_group ["generator"] [] := FunD.bindsN (ps := ["generator"]) c.D__law_group fun _ _ _ _ _ _ us hl => match us, hl with | [_], _ => rfl
theorem fn__law_group (c : Fx w K mg) : FnG P w K mg base CX0 3 (He.ga K "_law_group") c.fd__law_group ["generator"] (spD K mg 1 F__law_group) :=
  fnG_D c.D__law_group sc__law_group rfl rfl fun _ _ _ _ _ _ hG hr => have hu := hr.units; have hu5 := unit5 hr; ⟨_, RB.nox <|
    (rb_cons (rs_set 1 sc__law_group.nd (rn_val (re_new (rn_callI 0 (fn__law_random c) hG (hr.mono (by decide)) rfl c.g__law_random c.D__law_random.kp (bn__law_random c) (ra_cons re_int ra_nil)))))
      (rb_cons (rs_if (rt_cmp (op_eqA hu) opv_eq (re_var 1) re_int (nomark _)) (rb_one (rs_ret (rn_callV (fn__law_dihedral c) hG (hr.mono (by decide)) rfl c.g__law_dihedral c.D__law_dihedral.kp (bn__law_dihedral c) (ra_cons (re_add re_int (re_new (rn_callI 0 (fn__law_random c) hG (hr.mono (by decide)) rfl c.g__law_random c.D__law_random.kp (bn__law_random c) (ra_cons re_int ra_nil)))) ra_nil)))) rb_nil)
      (rb_cons (rs_set 2 sc__law_group.nd (rn_val (re_new (rn_lst (ra_cons (re_tup (ra_cons re_int ra_nil)) (ra_cons (re_tup (ra_cons re_int ra_nil)) (ra_cons (re_tup (ra_cons re_int ra_nil)) (ra_cons (re_tup (ra_cons re_int (ra_cons re_int ra_nil))) (ra_cons (re_tup (ra_cons re_int ra_nil)) (ra_cons (re_tup (ra_cons re_int ra_nil)) (ra_cons (re_tup (ra_cons re_int ra_nil)) (ra_cons (re_tup (ra_cons re_int ra_nil)) (ra_cons (re_tup (ra_cons re_int (ra_cons re_int ra_nil))) (ra_cons (re_tup (ra_cons re_int (ra_cons re_int (ra_cons re_int ra_nil)))) (ra_cons (re_tup (ra_cons re_int (ra_cons re_int ra_nil))) (ra_cons (re_tup (ra_cons re_int ra_nil)) (ra_cons (re_tup (ra_cons re_int ra_nil)) (ra_cons (re_tup (ra_cons re_int (ra_cons re_int ra_nil))) ra_nil))))))))))))))))))
      (rb_one (rs_ret (rn_callV (fn__law_abelian c) hG (hr.mono (by decide)) rfl c.g__law_abelian c.D__law_abelian.kp (bn__law_abelian c) (ra_cons (re_ix (re_var 2) (re_new (rn_callI 0 (fn__law_random c) hG (hr.mono (by decide)) rfl c.g__law_random c.D__law_random.kp (bn__law_random c) (ra_cons (re_new (rn_callB call_lenA calln_len rfl c.b_len cb_len (ra_cons (re_var 2) ra_nil))) ra_nil)))) ra_nil)))))))⟩
theorem sc__law_shuffled : FnScope ["generator", "size", "left", "found"] ["generator", "size"] (defScope s__law_shuffled) := ⟨rfl, rfl, rfl, by decide +kernel, rfl, by decide +kernel, by decide +kernel⟩
abbrev wc__law_shuffled_0 : MT := (mBorT (mT (mOp fNe (mVar 2) (mFrz (mLst mNil)))))
abbrev wb__law_shuffled_0 : MS := (mDrop (mVal (mOwnM 3 fAppend (mCons (mOwnM 2 fPopAt (mCons (mFrz (mCallI 0 2 F__law_random (mCons (mBor (mFrz (mCall fLen (mCons (mVar 2) mNil)))) mNil))) mNil)) mNil))))
abbrev m__law_shuffled : MS :=
  (mSeq (mParN 2 3 (mLRg1 (mVar 1)) (mLst mNil))
  (mSeq (mWhile wc__law_shuffled_0 wb__law_shuffled_0)
  (mRet (mMv 3))))
def F__law_shuffled : FM := fnM 2 m__law_shuffled
theorem bn__law_shuffled (c : Fx w K mg) : Binds K c.fd__law_shuffled ["generator", "size"] [] := FunD.bindsN (ps := ["generator", "size"]) c.D__law_shuffled fun _ _ _ _ _ _ us hl => match us, hl with | [_, _], _ => rfl
theorem fn__law_shuffled (c : Fx w K mg) : FnG P w K mg base CX0 3 (He.ga K "_law_shuffled") c.fd__law_shuffled ["generator", "size"] (spD K mg 2 F__law_shuffled) :=
  fnG_D c.D__law_shuffled sc__law_shuffled rfl rfl fun _ _ _ _ _ _ hG hr => have hu := hr.units; have hu5 := unit5 hr; ⟨_, RB.nox <|
    (rb_cons (rs_parN 2 3 rfl sc__law_shuffled.nd (rn_listRg1 rfl rfl c.b_list rfl c.b_range (re_var 1)) (rn_lst ra_nil))
      (rb_cons (rs_while PassesOwn.never (RT.bor (rt_cmp (op_neA hu) opv_ne (re_var 2) (re_new (rn_lst ra_nil)) (nomark _))) (rb_one (rs_expr (rn_val (re_append 3 (ra_cons (re_popAt 2 (ra_cons (re_new (rn_callI 0 (fn__law_random c) hG (hr.mono (by decide)) rfl c.g__law_random c.D__law_random.kp (bn__law_random c) (ra_cons (RE.bor (re_new (rn_callB call_lenA calln_len rfl c.b_len cb_len (ra_cons (re_var 2) ra_nil)))) ra_nil))) ra_nil)) ra_nil))))))
      (rb_one (rs_ret (rn_mv 3)))))⟩
theorem sc__law_square : FnScope ["generator", "way", "size", "weights", "weight", "group", "rows", "signs", "names", "found", "low", "state", "sign", "turn"] ["generator"] (defScope s__law_square) := ⟨rfl, rfl, rfl, by decide +kernel, rfl, by decide +kernel, by decide +kernel⟩
abbrev cg__law_square_0 : PyData → Ev → Res Ev := (gSet 10)
abbrev ct__law_square_0 : MT := (mAndT (mT (mOp fEq (mOp fMod (mVar 2) (mVar 10)) (mC (.int 0)))) (mT (mOp fEq (mOp fMod (mVar 4) (mVar 10)) (mC (.int 0)))))
abbrev ce__law_square_0 : ME := (mVar 10)
abbrev cg__law_square_1 : PyData → Ev → Res Ev := (gSet 4)
abbrev ct__law_square_1 : MT := (mT (mOp fEq (mFrz (mLc (mRng2 (mCons (mC (.int 2)) (mCons (mVar 2) mNil))) cg__law_square_0 ct__law_square_0 ce__law_square_0 [10])) (mFrz (mLst mNil))))
abbrev ce__law_square_1 : ME := (mVar 4)
abbrev cg__law_square_2 : PyData → Ev → Res Ev := (gSet 12)
abbrev ct__law_square_2 : MT := mYes
abbrev ce__law_square_2 : ME := (mOp fMod (mFrz (mCall fInt (mCons (mOp fAdd (mOp fMulI (mVar 4) (mVar 11)) (mVar 12)) mNil))) (mVar 2))
abbrev cg__law_square_3 : PyData → Ev → Res Ev := (gSet 11)
abbrev ct__law_square_3 : MT := mYes
abbrev ce__law_square_3 : ME := (mFrz (mLc (mRng1 (mCons (mVar 2) mNil)) cg__law_square_2 ct__law_square_2 ce__law_square_2 [12]))
abbrev cg__law_square_4 : PyData → Ev → Res Ev := (gSet 13)
abbrev ct__law_square_4 : MT := mYes
abbrev ce__law_square_4 : ME := (mFrz (mCallI 0 2 F__law_shuffled (mCons (mFrz (mCall fLen (mCons (mVar 5) mNil))) mNil)))
abbrev cg__law_square_5 : PyData → Ev → Res Ev := (gSet 12)
abbrev ct__law_square_5 : MT := mYes
abbrev ce__law_square_5 : ME := (mOp fIx (mVar 8) (mOp fIx (mOp fIx (mVar 5) (mOp fIx (mVar 6) (mVar 11))) (mOp fIx (mVar 7) (mVar 12))))
abbrev cg__law_square_6 : PyData → Ev → Res Ev := (gSet 11)
abbrev ct__law_square_6 : MT := mYes
abbrev ce__law_square_6 : ME := (mFrz (mLc (mRng1 (mCons (mFrz (mCall fLen (mCons (mVar 5) mNil))) mNil)) cg__law_square_5 ct__law_square_5 ce__law_square_5 [12]))
abbrev m__law_square : MS :=
  (mSeq (mSet 1 (mVal (mFrz (mCallI 0 2 F__law_random (mCons (mC (.int 4)) mNil)))))
  (mSeq (mIfS (mT (mOp fEq (mVar 1) (mC (.int 0)))) (mSeq (mSet 2 (mVal (mOp fIx (mFrz (mLst (mCons (mC (.int 3)) (mCons (mC (.int 4)) (mCons (mC (.int 5)) (mCons (mC (.int 6)) (mCons (mC (.int 7)) (mCons (mC (.int 8)) (mCons (mC (.int 9)) mNil))))))))) (mFrz (mCallI 0 2 F__law_random (mCons (mC (.int 7)) mNil))))))
  (mSeq (mSet 3 (mVal (mFrz (mLc (mRng2 (mCons (mC (.int 1)) (mCons (mVar 2) mNil))) cg__law_square_1 ct__law_square_1 ce__law_square_1 [4]))))
  (mSeq (mSet 4 (mVal (mOp fIx (mVar 3) (mFrz (mCallI 0 2 F__law_random (mCons (mFrz (mCall fLen (mCons (mVar 3) mNil))) mNil))))))
  (mRet (mLc (mRng1 (mCons (mVar 2) mNil)) cg__law_square_3 ct__law_square_3 ce__law_square_3 [11]))))) mNext)
  (mSeq (mSet 5 (mVal (mFrz (mCallI 0 1 F__law_group mNil))))
  (mSeq (mAsg (mFrz (mLc (mRng1 (mCons (mC (.int 3)) mNil)) cg__law_square_4 ct__law_square_4 ce__law_square_4 [13])) (gsTup 3 (gsCons (gSet 6) (gsCons (gSet 7) (gsCons (gSet 8) gsNil)))))
  (mSeq (mIfS (mT (mOp fEq (mVar 1) (mC (.int 1)))) (mRet (mVal (mVar 5))) mNext)
  (mSeq (mSet 9 (mVal (mFrz (mLc (mRng1 (mCons (mFrz (mCall fLen (mCons (mVar 5) mNil))) mNil)) cg__law_square_6 ct__law_square_6 ce__law_square_6 [11]))))
  (mRet (mVal (mVar 9)))))))))
def F__law_square : FM := fnM 13 m__law_square
theorem bn__law_square (c : Fx w K mg) : Binds K c.fd__law_square ["generator"] [] := FunD.bindsN (ps := ["generator"]) c.D__law_square fun _ _ _ _ _ _ us hl => match us, hl with | [_], _ => rfl
theorem fn__law_square (c : Fx w K mg) : FnG P w K mg base CX0 4 (He.ga K "_law_square") c.fd__law_square ["generator"] (spD K mg 1 F__law_square) :=
  fnG_D c.D__law_square sc__law_square rfl rfl fun _ _ _ _ _ _ hG hr => have hu := hr.units; have hu5 := unit5 hr; ⟨_, RB.nox <|
    (rb_cons (rs_set 1 sc__law_square.nd (rn_val (re_new (rn_callI 0 (fn__law_random c) hG (hr.mono (by decide)) rfl c.g__law_random c.D__law_random.kp (bn__law_random c) (ra_cons re_int ra_nil)))))
      (rb_cons (rs_if (rt_cmp (op_eqA hu) opv_eq (re_var 1) re_int (nomark _)) (rb_cons (rs_set 2 sc__law_square.nd (rn_val (re_ix (re_new (rn_lst (ra_cons re_int (ra_cons re_int (ra_cons re_int (ra_cons re_int (ra_cons re_int (ra_cons re_int (ra_cons re_int ra_nil))))))))) (re_new (rn_callI 0 (fn__law_random c) hG (hr.mono (by decide)) rfl c.g__law_random c.D__law_random.kp (bn__law_random c) (ra_cons re_int ra_nil))))))
      (rb_cons (rs_setLcF [("weight", 4)] 3 rfl sc__law_square.nd (ri_rng2 rfl c.b_range (ra_cons re_int (ra_cons (re_var 2) ra_nil))) (fun _ _ _ _ _ => ⟨_, _, (rg_name 4 sc__law_square.nd), by decide⟩) (fun _ _ _ _ _ => ⟨_, (rts_one (rt_cmp (op_eqA hu) opv_eq (re_new (rn_lc [("low", 10)] rfl sc__law_square.nd (ri_rng2 rfl c.b_range (ra_cons re_int (ra_cons (re_var 2) ra_nil))) (fun _ _ _ _ _ => ⟨_, _, (rg_name 10 sc__law_square.nd), by decide⟩) (fun _ _ _ _ _ => ⟨_, (rts_one (RW.rt (rw_and (rt_cmp (op_eqA hu) opv_eq (re_mod (re_var 2) (re_var 10)) re_int (nomark _)) (rw_and1 (rt_cmp (op_eqA hu) opv_eq (re_mod (re_var 4) (re_var 10)) re_int (nomark _))))))⟩) (fun _ _ _ _ _ => ⟨_, (re_var 10)⟩))) (re_new (rn_lst ra_nil)) (nomark _)))⟩) (fun _ _ _ _ _ => ⟨_, (re_var 4)⟩))
      (rb_cons (rs_set 4 sc__law_square.nd (rn_val (re_ix (re_var 3) (re_new (rn_callI 0 (fn__law_random c) hG (hr.mono (by decide)) rfl c.g__law_random c.D__law_random.kp (bn__law_random c) (ra_cons (re_new (rn_callB call_lenA calln_len rfl c.b_len cb_len (ra_cons (re_var 3) ra_nil))) ra_nil))))))
      (rb_one (rs_ret (rn_lc [("state", 11)] rfl sc__law_square.nd (ri_rng1 rfl c.b_range (ra_cons (re_var 2) ra_nil)) (fun _ _ _ _ _ => ⟨_, _, (rg_name 11 sc__law_square.nd), by decide⟩) (fun _ _ _ _ _ => ⟨_, rts_nil⟩) (fun _ _ _ _ _ => ⟨_, (re_new (rn_lc [("sign", 12)] rfl sc__law_square.nd (ri_rng1 rfl c.b_range (ra_cons (re_var 2) ra_nil)) (fun _ _ _ _ _ => ⟨_, _, (rg_name 12 sc__law_square.nd), by decide⟩) (fun _ _ _ _ _ => ⟨_, rts_nil⟩) (fun _ _ _ _ _ => ⟨_, (re_mod (re_new (rn_callTy call_int1 calln_int rfl c.b_int cb_int (ra_cons (re_add (re_mul (re_var 4) (re_var 11)) (re_var 12)) ra_nil))) (re_var 2))⟩)))⟩))))))) rb_nil)
      (rb_cons (rs_set 5 sc__law_square.nd (rn_val (re_new (rn_callI 0 (fn__law_group c) hG (hr.mono (by decide)) rfl c.g__law_group c.D__law_group.kp (bn__law_group c) ra_nil))))
      (rb_cons (rs_asg (re_new (rn_lc [("turn", 13)] rfl sc__law_square.nd (ri_rng1 rfl c.b_range (ra_cons re_int ra_nil)) (fun _ _ _ _ _ => ⟨_, _, (rg_name 13 sc__law_square.nd), by decide⟩) (fun _ _ _ _ _ => ⟨_, rts_nil⟩) (fun _ _ _ _ _ => ⟨_, (re_new (rn_callI 0 (fn__law_shuffled c) hG (hr.mono (by decide)) rfl c.g__law_shuffled c.D__law_shuffled.kp (bn__law_shuffled c) (ra_cons (re_new (rn_callB call_lenA calln_len rfl c.b_len cb_len (ra_cons (re_var 5) ra_nil))) ra_nil)))⟩))) (rg_tup rfl (rgs_cons (rg_name 6 sc__law_square.nd) (rgs_cons (rg_name 7 sc__law_square.nd) (rgs_cons (rg_name 8 sc__law_square.nd) rgs_nil)))))
      (rb_cons (rs_if (rt_cmp (op_eqA hu) opv_eq (re_var 1) re_int (nomark _)) (rb_one (rs_ret (rn_val (re_var 5)))) rb_nil)
      (rb_cons (rs_setLcF [("state", 11)] 9 rfl sc__law_square.nd (ri_rng1 rfl c.b_range (ra_cons (re_new (rn_callB call_lenA calln_len rfl c.b_len cb_len (ra_cons (re_var 5) ra_nil))) ra_nil)) (fun _ _ _ _ _ => ⟨_, _, (rg_name 11 sc__law_square.nd), by decide⟩) (fun _ _ _ _ _ => ⟨_, rts_nil⟩) (fun _ _ _ _ _ => ⟨_, (re_new (rn_lc [("sign", 12)] rfl sc__law_square.nd (ri_rng1 rfl c.b_range (ra_cons (re_new (rn_callB call_lenA calln_len rfl c.b_len cb_len (ra_cons (re_var 5) ra_nil))) ra_nil)) (fun _ _ _ _ _ => ⟨_, _, (rg_name 12 sc__law_square.nd), by decide⟩) (fun _ _ _ _ _ => ⟨_, rts_nil⟩) (fun _ _ _ _ _ => ⟨_, (re_ix (re_var 8) (re_ix (re_ix (re_var 5) (re_ix (re_var 6) (re_var 11))) (re_ix (re_var 7) (re_var 12))))⟩)))⟩))
      (rb_one (rs_ret (rn_val (re_var 9))))))))))⟩
theorem sc_is_chain : FnScope ["value"] ["value"] (defScope s_is_chain) := ⟨rfl, rfl, rfl, by decide +kernel, rfl, by decide +kernel, by decide +kernel⟩
abbrev m_is_chain : MS :=
  (mRet (mCallV 1 F_chain_fits (mCons (mVar 0) mNil)))
def F_is_chain : FM := fnM 0 m_is_chain
theorem bn_is_chain (c : Fx w K mg) : Binds K c.fd_is_chain ["value"] [] := FunD.bindsN (ps := ["value"]) c.D_is_chain fun _ _ _ _ _ _ us hl => match us, hl with | [_], _ => rfl
theorem kw_is_chain_0_value (c : Fx w K mg) : KwTo K c.fd_is_chain ["value"] 0 ["value"] [0] := kwTo_of c.D_is_chain fun _ _ _ _ _ _ us ws h1 h2 => match us, ws, h1, h2 with | [], [_], _, _ => rfl
theorem fn_is_chain (c : Fx w K mg) : FnG P w K mg base CX0 7 (He.ga K "is_chain") c.fd_is_chain ["value"] (spD K mg 1 F_is_chain) :=
  fnG_D c.D_is_chain sc_is_chain rfl rfl fun _ _ _ _ _ _ hG hr => have hu := hr.units; have hu5 := unit5 hr; ⟨_, RB.nox <|
    (rb_one (rs_ret (rn_callV (fn_chain_fits c) hG (hr.mono (by decide)) rfl c.g_chain_fits c.D_chain_fits.kp (bn_chain_fits c) (ra_cons (re_var 0) ra_nil))))⟩
theorem sc__law_states : FnScope ["chain", "code", "found", "sign"] ["chain", "code"] (defScope s__law_states) := ⟨rfl, rfl, rfl, by decide +kernel, rfl, by decide +kernel, by decide +kernel⟩
abbrev g__law_states_0 : PyData → Ev → Res Ev := (gSet 3)
abbrev b__law_states_0 : MS := (mDrop (mVal (mOwnM 2 fAppend (mCons (mOp fIx (mOp fIx (mOp fIx (mVar 0) (mC (.int 0))) (mIxV 2 (mNeg (mC (.int 1))))) (mVar 3)) mNil))))
abbrev m__law_states : MS :=
  (mSeq (mSet 2 (mLst (mCons (mOp fIx (mVar 0) (mC (.int 1))) mNil)))
  (mSeq (mFor (mItems (mVar 1)) g__law_states_0 b__law_states_0)
  (mRet (mMv 2))))
def F__law_states : FM := fnM 2 m__law_states
theorem bn__law_states (c : Fx w K mg) : Binds K c.fd__law_states ["chain", "code"] [] := FunD.bindsN (ps := ["chain", "code"]) c.D__law_states fun _ _ _ _ _ _ us hl => match us, hl with | [_, _], _ => rfl
theorem fn__law_states (c : Fx w K mg) : FnG P w K mg base CX0 1 (He.ga K "_law_states") c.fd__law_states ["chain", "code"] (spD K mg 2 F__law_states) :=
  fnG_D c.D__law_states sc__law_states rfl rfl fun _ _ _ _ _ _ hG hr => have hu := hr.units; have hu5 := unit5 hr; ⟨_, RB.nox <|
    (rb_cons (rs_set 2 sc__law_states.nd (rn_lst (ra_cons (re_ix (re_var 0) re_int) ra_nil)))
      (rb_cons (rs_for PassesOwn.never rfl (ri_any (re_var 1)) (rg_name 3 sc__law_states.nd) (rb_one (rs_expr (rn_val (re_append 2 (ra_cons (re_ix (re_ix (re_ix (re_var 0) re_int) (re_ixV 2 (re_neg re_int))) (re_var 3)) ra_nil))))))
      (rb_one (rs_ret (rn_mv 2)))))⟩
theorem sc__law_power : FnScope ["base", "many", "found", "turn"] ["base", "many"] (defScope s__law_power) := ⟨rfl, rfl, rfl, by decide +kernel, rfl, by decide +kernel, by decide +kernel⟩
abbrev g__law_power_0 : PyData → Ev → Res Ev := (gSet 3)
abbrev b__law_power_0 : MS := (mSet 2 (mVal (mOp fMulI (mVar 2) (mVar 0))))
abbrev m__law_power : MS :=
  (mSeq (mSet 2 (mVal (mC (.int 1))))
  (mSeq (mFor (mRng1 (mCons (mVar 1) mNil)) g__law_power_0 b__law_power_0)
  (mRet (mVal (mVar 2)))))
def F__law_power : FM := fnM 2 m__law_power
theorem bn__law_power (c : Fx w K mg) : Binds K c.fd__law_power ["base", "many"] [] := FunD.bindsN (ps := ["base", "many"]) c.D__law_power fun _ _ _ _ _ _ us hl => match us, hl with | [_, _], _ => rfl
theorem fn__law_power (c : Fx w K mg) : FnG P w K mg base CX0 1 (He.ga K "_law_power") c.fd__law_power ["base", "many"] (spD K mg 2 F__law_power) :=
  fnG_D c.D__law_power sc__law_power rfl rfl fun _ _ _ _ _ _ hG hr => have hu := hr.units; have hu5 := unit5 hr; ⟨_, RB.nox <|
    (rb_cons (rs_set 2 sc__law_power.nd (rn_val re_int))
      (rb_cons (rs_for PassesOwn.never rfl (ri_rng1 rfl c.b_range (ra_cons (re_var 1) ra_nil)) (rg_name 3 sc__law_power.nd) (rb_one (rs_set 2 sc__law_power.nd (rn_val (re_mul (re_var 2) (re_var 0))))))
      (rb_one (rs_ret (rn_val (re_var 2))))))⟩
theorem sc__law_all_codes : FnScope ["size", "places", "found", "turn", "longer", "code", "sign"] ["size", "places"] (defScope s__law_all_codes) := ⟨rfl, rfl, rfl, by decide +kernel, rfl, by decide +kernel, by decide +kernel⟩
abbrev cg__law_all_codes_0 : PyData → Ev → Res Ev := (gSet 6)
abbrev ct__law_all_codes_0 : MT := mYes
abbrev ce__law_all_codes_0 : ME := (mOp fAdd (mVar 5) (mFrz (mLst (mCons (mVar 6) mNil))))
abbrev g__law_all_codes_0 : PyData → Ev → Res Ev := (gSet 5)
abbrev b__law_all_codes_0 : MS := (mSet 4 (mVal (mOp fAdd (mVar 4) (mFrz (mLc (mRng1 (mCons (mVar 0) mNil)) cg__law_all_codes_0 ct__law_all_codes_0 ce__law_all_codes_0 [6])))))
abbrev g__law_all_codes_1 : PyData → Ev → Res Ev := (gSet 3)
abbrev b__law_all_codes_1 : MS := (mSeq (mSet 4 (mVal (mFrz (mLst mNil))))
  (mSeq (mFor (mItems (mVar 2)) g__law_all_codes_0 b__law_all_codes_0)
  (mSet 2 (mVal (mVar 4)))))
abbrev m__law_all_codes : MS :=
  (mSeq (mSet 2 (mVal (mFrz (mLst (mCons (mFrz (mLst mNil)) mNil)))))
  (mSeq (mFor (mRng1 (mCons (mVar 1) mNil)) g__law_all_codes_1 b__law_all_codes_1)
  (mRet (mVal (mVar 2)))))
def F__law_all_codes : FM := fnM 5 m__law_all_codes
theorem bn__law_all_codes (c : Fx w K mg) : Binds K c.fd__law_all_codes ["size", "places"] [] := FunD.bindsN (ps := ["size", "places"]) c.D__law_all_codes fun _ _ _ _ _ _ us hl => match us, hl with | [_, _], _ => rfl
theorem fn__law_all_codes (c : Fx w K mg) : FnG P w K mg base CX0 1 (He.ga K "_law_all_codes") c.fd__law_all_codes ["size", "places"] (spD K mg 2 F__law_all_codes) :=
  fnG_D c.D__law_all_codes sc__law_all_codes rfl rfl fun _ _ _ _ _ _ hG hr => have hu := hr.units; have hu5 := unit5 hr; ⟨_, RB.nox <|
    (rb_cons (rs_set 2 sc__law_all_codes.nd (rn_val (re_new (rn_lst (ra_cons (re_new (rn_lst ra_nil)) ra_nil)))))
      (rb_cons (rs_for PassesOwn.never rfl (ri_rng1 rfl c.b_range (ra_cons (re_var 1) ra_nil)) (rg_name 3 sc__law_all_codes.nd) (rb_cons (rs_set 4 sc__law_all_codes.nd (rn_val (re_new (rn_lst ra_nil))))
      (rb_cons (rs_for PassesOwn.never rfl (ri_any (re_var 2)) (rg_name 5 sc__law_all_codes.nd) (rb_one (rs_set 4 sc__law_all_codes.nd (rn_val (re_add (re_var 4) (re_new (rn_lc [("sign", 6)] rfl sc__law_all_codes.nd (ri_rng1 rfl c.b_range (ra_cons (re_var 0) ra_nil)) (fun _ _ _ _ _ => ⟨_, _, (rg_name 6 sc__law_all_codes.nd), by decide⟩) (fun _ _ _ _ _ => ⟨_, rts_nil⟩) (fun _ _ _ _ _ => ⟨_, (re_add (re_var 5) (re_new (rn_lst (ra_cons (re_var 6) ra_nil))))⟩))))))))
      (rb_one (rs_set 2 sc__law_all_codes.nd (rn_val (re_var 4)))))))
      (rb_one (rs_ret (rn_val (re_var 2))))))⟩
theorem sc__law_right : FnScope ["generator", "square", "size", "chain", "kept", "tried", "turn", "code", "due", "given", "told", "place", "signs", "length", "right", "value", "sign"] ["generator"] (defScope s__law_right) := ⟨rfl, rfl, rfl, by decide +kernel, rfl, by decide +kernel, by decide +kernel⟩
abbrev cg__law_right_0 : PyData → Ev → Res Ev := (gSet 15)
abbrev ct__law_right_0 : MT := (mT (mOp fNotN (mFrz (mCallV 1 F_is_chain (mCons (mVar 15) mNil))) (mC (.bool false))))
abbrev ce__law_right_0 : ME := (mVar 15)
abbrev cg__law_right_1 : PyData → Ev → Res Ev := (gSet 11)
abbrev ct__law_right_1 : MT := mYes
abbrev ce__law_right_1 : ME := (mFrz (mCallI 0 2 F__law_random (mCons (mVar 2) mNil)))
abbrev cg__law_right_2 : PyData → Ev → Res Ev := (gSet 16)
abbrev ct__law_right_2 : MT := (mT (mOp fEq (mOp fIx (mFrz (mCallV 2 F__law_states (mCons (mVar 3) (mCons (mOp fAdd (mOp fAdd (mFrz (mSlice (mVar 7) mNoPart (mPart (mVar 11)))) (mFrz (mLst (mCons (mVar 16) mNil)))) (mFrz (mSlice (mVar 7) (mPart (mOp fAdd (mVar 11) (mC (.int 1)))) mNoPart))) mNil)))) (mNeg (mC (.int 1)))) (mOp fIx (mVar 3) (mC (.int 2)))))
abbrev ce__law_right_2 : ME := (mVar 16)
abbrev g__law_right_0 : PyData → Ev → Res Ev := (gSet 11)
abbrev b__law_right_0 : MS := (mSeq (mSet 12 (mVal (mFrz (mLc (mRng1 (mCons (mVar 2) mNil)) cg__law_right_2 ct__law_right_2 ce__law_right_2 [16]))))
  (mSeq (mIfS (mOrT (mT (mOp fNe (mFrz (mCall fRepr (mCons (mFrz (mLst (mCons (mFrz (mCallV 3 F_sign_at (mCons (mVar 3) (mCons (mVar 7) (mCons (mVar 11) mNil))))) mNil))) mNil))) (mFrz (mCall fRepr (mCons (mVar 12) mNil))))) (mT (mOp fNe (mFrz (mCallO [2, 1, 0] 0 3 3 F_sign_at mNil (mCons (mVar 11) (mCons (mVar 7) (mCons (mVar 3) mNil))))) (mOp fIx (mVar 12) (mC (.int 0)))))) (mRet (mVal (mC (.bool false)))) mNext)
  (mIfS (mT (mOp fNotN (mFrz (mCallO [1, 0] 0 2 2 F_is_right_chain mNil (mCons (mOp fAdd (mOp fAdd (mFrz (mSlice (mVar 7) mNoPart (mPart (mVar 11)))) (mVar 12)) (mFrz (mSlice (mVar 7) (mPart (mOp fAdd (mVar 11) (mC (.int 1)))) mNoPart))) (mCons (mVar 3) mNil)))) (mC (.bool true)))) (mRet (mVal (mC (.bool false)))) mNext)))
abbrev g__law_right_1 : PyData → Ev → Res Ev := (gSet 6)
abbrev b__law_right_1 : MS := (mSeq (mSet 7 (mVal (mFrz (mLc (mRng1 (mCons (mOp fAdd (mC (.int 1)) (mFrz (mCallI 0 2 F__law_random (mCons (mC (.int 8)) mNil)))) mNil)) cg__law_right_1 ct__law_right_1 ce__law_right_1 [11]))))
  (mSeq (mPar 8 9 (mCons (mFrz (mCallV 2 F__law_states (mCons (mVar 3) (mCons (mVar 7) mNil)))) (mCons (mFrz (mCall fRepr (mCons (mVar 7) mNil))) mNil)))
  (mSeq (mSet 10 (mCallV 2 F_states_of (mCons (mVar 3) (mCons (mVar 7) mNil))))
  (mSeq (mIfS (mOrT (mT (mOp fNe (mBor (mFrz (mCall fRepr (mCons (mVar 10) mNil)))) (mFrz (mCall fRepr (mCons (mVar 8) mNil))))) (mOrT (mT (mOp fNe (mFrz (mCallO [1, 0] 0 2 2 F_states_of mNil (mCons (mVar 7) (mCons (mVar 3) mNil)))) (mVar 8))) (mT (mOp fNe (mFrz (mCall fRepr (mCons (mFrz (mCallV 2 F_is_right_chain (mCons (mVar 3) (mCons (mVar 7) mNil)))) mNil))) (mFrz (mCall fRepr (mCons (mOp fEq (mOp fIx (mVar 8) (mNeg (mC (.int 1)))) (mOp fIx (mVar 3) (mC (.int 2)))) mNil))))))) (mRet (mVal (mC (.bool false)))) mNext)
  (mSeq (mDrop (mVal (mOwnM 10 fAppend (mCons (mC .none) mNil))))
  (mSeq (mFor (mRng1 (mCons (mFrz (mCall fLen (mCons (mVar 7) mNil))) mNil)) g__law_right_0 b__law_right_0)
  (mIfS (mOrT (mT (mOp fNe (mFrz (mCall fRepr (mCons (mVar 7) mNil))) (mVar 9))) (mT (mOp fNe (mFrz (mCallV 2 F_states_of (mCons (mVar 3) (mCons (mVar 7) mNil)))) (mVar 8)))) (mRet (mVal (mC (.bool false)))) mNext)))))))
abbrev cg__law_right_3 : PyData → Ev → Res Ev := (gSet 7)
abbrev ct__law_right_3 : MT := (mT (mFrz (mCallV 2 F_is_right_chain (mCons (mVar 3) (mCons (mVar 7) mNil)))))
abbrev ce__law_right_3 : ME := (mVar 7)
abbrev g__law_right_2 : PyData → Ev → Res Ev := (gSet 13)
abbrev b__law_right_2 : MS := (mSeq (mIfS (mT (mOp fLtI (mFrz (mCallV 2 F__law_power (mCons (mVar 2) (mCons (mVar 13) mNil)))) (mC (.int 130)))) (mSeq (mSet 14 (mVal (mFrz (mLc (mItems (mFrz (mCallV 2 F__law_all_codes (mCons (mVar 2) (mCons (mVar 13) mNil))))) cg__law_right_3 ct__law_right_3 ce__law_right_3 [7]))))
  (mIfS (mT (mOp fNe (mFrz (mCall fLen (mCons (mVar 14) mNil))) (mFrz (mCallV 2 F_how_many_right_lists (mCons (mVar 3) (mCons (mVar 13) mNil)))))) (mRet (mVal (mC (.bool false)))) mNext)) mNext)
  (mIfS (mOrT (mT (mOp fNe (mFrz (mCall fRepr (mCons (mFrz (mCallV 2 F_how_many_right_lists (mCons (mVar 3) (mCons (mVar 13) mNil)))) mNil))) (mFrz (mCall fRepr (mCons (mFrz (mCallV 2 F__law_power (mCons (mVar 2) (mCons (mOp fSub (mVar 13) (mC (.int 1))) mNil)))) mNil))))) (mT (mOp fNe (mFrz (mCallO [1, 0] 0 2 2 F_how_many_right_lists mNil (mCons (mVar 13) (mCons (mVar 3) mNil)))) (mFrz (mCallV 2 F__law_power (mCons (mVar 2) (mCons (mOp fSub (mVar 13) (mC (.int 1))) mNil))))))) (mRet (mVal (mC (.bool false)))) mNext))
abbrev m__law_right : MS :=
  (mSeq (mSet 1 (mVal (mFrz (mCallI 0 1 F__law_square mNil))))
  (mSeq (mSet 2 (mVal (mFrz (mCall fLen (mCons (mVar 1) mNil)))))
  (mSeq (mSet 3 (mVal (mTup (mCons (mVar 1) (mCons (mFrz (mCallI 0 2 F__law_random (mCons (mVar 2) mNil))) (mCons (mFrz (mCallI 0 2 F__law_random (mCons (mVar 2) mNil))) mNil))))))
  (mSeq (mSet 4 (mVal (mFrz (mCall fRepr (mCons (mVar 3) mNil)))))
  (mSeq (mIfS (mOrT (mT (mOp fNotN (mFrz (mCallV 1 F_is_chain (mCons (mVar 3) mNil))) (mC (.bool true)))) (mT (mOp fNotN (mFrz (mCallO [0] 0 1 1 F_is_chain mNil (mCons (mVar 3) mNil))) (mC (.bool true))))) (mRet (mVal (mC (.bool false)))) mNext)
  (mSeq (mSet 5 (mVal (mFrz (mLst (mCons (mC .none) (mCons (mTup mNil) (mCons (mFrz (mLst mNil)) (mCons (mC (.dict [])) (mCons (mC (.int 5)) (mCons (mFrz (mCall fListOf (mCons (mVar 3) mNil))) (mCons (mFrz (mSlice (mVar 3) mNoPart (mPart (mC (.int 2))))) (mCons (mOp fAdd (mVar 3) (mTup (mCons (mC (.int 0)) mNil))) (mCons (mTup (mCons (mVar 1) (mCons (mNeg (mC (.int 1))) (mCons (mC (.int 0)) mNil)))) (mCons (mTup (mCons (mVar 1) (mCons (mVar 2) (mCons (mC (.int 0)) mNil)))) (mCons (mTup (mCons (mVar 1) (mCons (mC (.bool true)) (mCons (mC (.int 0)) mNil)))) mNil)))))))))))))))
  (mSeq (mSet 5 (mVal (mOp fAdd (mVar 5) (mFrz (mLst (mCons (mTup (mCons (mVar 1) (mCons (mC (.int 0)) (mCons (mVar 2) mNil)))) (mCons (mTup (mCons (mVar 1) (mCons (mC (.int 0)) (mCons (mC .none) mNil)))) (mCons (mTup (mCons (mVar 1) (mCons (mC (.str "0")) (mCons (mC (.int 0)) mNil)))) (mCons (mTup (mCons (mFrz (mSlice (mVar 1) (mPart (mC (.int 1))) mNoPart)) (mCons (mC (.int 0)) (mCons (mC (.int 0)) mNil)))) (mCons (mTup (mCons (mFrz (mCall fTupOf (mCons (mVar 1) mNil))) (mCons (mC (.int 0)) (mCons (mC (.int 0)) mNil)))) (mCons (mTup (mCons (mFrz (mLst (mCons (mFrz (mLst (mCons (mC (.int 0)) mNil))) mNil))) (mCons (mC (.int 0)) (mCons (mC (.int 0)) mNil)))) mNil)))))))))))
  (mSeq (mSet 5 (mVal (mOp fAdd (mVar 5) (mFrz (mLst (mCons (mTup (mCons (mVar 1) (mCons (mC (.int 0)) (mCons (mNeg (mC (.int 1))) mNil)))) (mCons (mTup (mCons (mVar 1) (mCons (mC (.int 0)) (mCons (mC (.bool true)) mNil)))) (mCons (mTup (mCons (mVar 1) (mCons (mC .none) (mCons (mC (.int 0)) mNil)))) (mCons (mTup (mCons (mFrz (mLst (mCons (mFrz (mLst (mCons (mC (.int 0)) (mCons (mC (.int 1)) mNil)))) (mCons (mFrz (mLst (mCons (mC (.int 0)) (mCons (mC (.int 1)) mNil)))) mNil)))) (mCons (mC (.int 0)) (mCons (mC (.int 0)) mNil)))) (mCons (mTup (mCons (mFrz (mLst (mCons (mFrz (mLst (mCons (mC (.int 0)) (mCons (mC (.int 0)) mNil)))) (mCons (mFrz (mLst (mCons (mC (.int 1)) (mCons (mC (.int 1)) mNil)))) mNil)))) (mCons (mC (.int 0)) (mCons (mC (.int 0)) mNil)))) (mCons (mTup (mCons (mFrz (mOpN fRepN (mFrz (mSlice (mVar 1) mNoPart (mPart (mC (.int 1))))) (mVar 2))) (mCons (mC (.int 0)) (mCons (mC (.int 0)) mNil)))) mNil)))))))))))
  (mSeq (mIfS (mT (mOp fNe (mFrz (mLc (mItems (mVar 5)) cg__law_right_0 ct__law_right_0 ce__law_right_0 [15])) (mFrz (mLst mNil)))) (mRet (mVal (mC (.bool false)))) mNext)
  (mSeq (mFor (mRng1 (mCons (mC (.int 4)) mNil)) g__law_right_1 b__law_right_1)
  (mSeq (mFor (mItems (mFrz (mLst (mCons (mC (.int 1)) (mCons (mC (.int 2)) (mCons (mC (.int 3)) (mCons (mC (.int 4)) mNil))))))) g__law_right_2 b__law_right_2)
  (mRet (mVal (mOp fEq (mFrz (mCall fRepr (mCons (mVar 3) mNil))) (mVar 4)))))))))))))))
def F__law_right : FM := fnM 16 m__law_right
theorem bn__law_right (c : Fx w K mg) : Binds K c.fd__law_right ["generator"] [] := FunD.bindsN (ps := ["generator"]) c.D__law_right fun _ _ _ _ _ _ us hl => match us, hl with | [_], _ => rfl
theorem fn__law_right (c : Fx w K mg) : FnG P w K mg base CX0 10 (He.ga K "_law_right") c.fd__law_right ["generator"] (spD K mg 1 F__law_right) :=
  fnG_D c.D__law_right sc__law_right rfl rfl fun _ _ _ _ _ _ hG hr => have hu := hr.units; have hu5 := unit5 hr; ⟨_, RB.nox <|
    (rb_cons (rs_set 1 sc__law_right.nd (rn_val (re_new (rn_callI 0 (fn__law_square c) hG (hr.mono (by decide)) rfl c.g__law_square c.D__law_square.kp (bn__law_square c) ra_nil))))
      (rb_cons (rs_set 2 sc__law_right.nd (rn_val (re_new (rn_callB call_lenA calln_len rfl c.b_len cb_len (ra_cons (re_var 1) ra_nil)))))
      (rb_cons (rs_set 3 sc__law_right.nd (rn_val (re_tup (ra_cons (re_var 1) (ra_cons (re_new (rn_callI 0 (fn__law_random c) hG (hr.mono (by decide)) rfl c.g__law_random c.D__law_random.kp (bn__law_random c) (ra_cons (re_var 2) ra_nil))) (ra_cons (re_new (rn_callI 0 (fn__law_random c) hG (hr.mono (by decide)) rfl c.g__law_random c.D__law_random.kp (bn__law_random c) (ra_cons (re_var 2) ra_nil))) ra_nil))))))
      (rb_cons (rs_set 4 sc__law_right.nd (rn_val (re_new (rn_callB (call_reprD hG hu) calln_repr rfl c.b_repr cb_repr (ra_cons (re_var 3) ra_nil)))))
      (rb_cons (rs_if (RW.rt (rw_or (rt_cmp (CW.op_notN) opv_notN (re_new (rn_callV (fn_is_chain c) hG (hr.mono (by decide)) rfl c.g_is_chain c.D_is_chain.kp (bn_is_chain c) (ra_cons (re_var 3) ra_nil))) re_bl (nomark _)) (rw_or1 (rt_cmp (CW.op_notN) opv_notN (re_new (rn_callK0 (fn_is_chain c) hG (hr.mono (by decide)) rfl c.g_is_chain c.D_is_chain.kp (kw_is_chain_0_value c) (rk_cons (re_var 3) rk_nil))) re_bl (nomark _))))) (rb_one (rs_ret (rn_val re_bl))) rb_nil)
      (rb_cons (rs_set 5 sc__law_right.nd (rn_val (re_new (rn_lst (ra_cons re_non (ra_cons (re_tup ra_nil) (ra_cons (re_new (rn_lst ra_nil)) (ra_cons re_dict0 (ra_cons re_int (ra_cons (re_new (rn_callTy call_list_of calln_list rfl c.b_list cb_list (ra_cons (re_var 3) ra_nil))) (ra_cons (re_new (rn_slice (re_var 3) ro_none (ro_some re_int))) (ra_cons (re_add (re_var 3) (re_tup (ra_cons re_int ra_nil))) (ra_cons (re_tup (ra_cons (re_var 1) (ra_cons (re_neg re_int) (ra_cons re_int ra_nil)))) (ra_cons (re_tup (ra_cons (re_var 1) (ra_cons (re_var 2) (ra_cons re_int ra_nil)))) (ra_cons (re_tup (ra_cons (re_var 1) (ra_cons re_bl (ra_cons re_int ra_nil)))) ra_nil)))))))))))))))
      (rb_cons (rs_set 5 sc__law_right.nd (rn_val (re_add (re_var 5) (re_new (rn_lst (ra_cons (re_tup (ra_cons (re_var 1) (ra_cons re_int (ra_cons (re_var 2) ra_nil)))) (ra_cons (re_tup (ra_cons (re_var 1) (ra_cons re_int (ra_cons re_non ra_nil)))) (ra_cons (re_tup (ra_cons (re_var 1) (ra_cons re_str (ra_cons re_int ra_nil)))) (ra_cons (re_tup (ra_cons (re_new (rn_slice (re_var 1) (ro_some re_int) ro_none)) (ra_cons re_int (ra_cons re_int ra_nil)))) (ra_cons (re_tup (ra_cons (re_new (rn_callTy call_tuple_of calln_tuple rfl c.b_tuple cb_tuple (ra_cons (re_var 1) ra_nil))) (ra_cons re_int (ra_cons re_int ra_nil)))) (ra_cons (re_tup (ra_cons (re_new (rn_lst (ra_cons (re_new (rn_lst (ra_cons re_int ra_nil))) ra_nil))) (ra_cons re_int (ra_cons re_int ra_nil)))) ra_nil)))))))))))
      (rb_cons (rs_set 5 sc__law_right.nd (rn_val (re_add (re_var 5) (re_new (rn_lst (ra_cons (re_tup (ra_cons (re_var 1) (ra_cons re_int (ra_cons (re_neg re_int) ra_nil)))) (ra_cons (re_tup (ra_cons (re_var 1) (ra_cons re_int (ra_cons re_bl ra_nil)))) (ra_cons (re_tup (ra_cons (re_var 1) (ra_cons re_non (ra_cons re_int ra_nil)))) (ra_cons (re_tup (ra_cons (re_new (rn_lst (ra_cons (re_new (rn_lst (ra_cons re_int (ra_cons re_int ra_nil)))) (ra_cons (re_new (rn_lst (ra_cons re_int (ra_cons re_int ra_nil)))) ra_nil)))) (ra_cons re_int (ra_cons re_int ra_nil)))) (ra_cons (re_tup (ra_cons (re_new (rn_lst (ra_cons (re_new (rn_lst (ra_cons re_int (ra_cons re_int ra_nil)))) (ra_cons (re_new (rn_lst (ra_cons re_int (ra_cons re_int ra_nil)))) ra_nil)))) (ra_cons re_int (ra_cons re_int ra_nil)))) (ra_cons (re_tup (ra_cons (re_new (rn_repL (re_new (rn_slice (re_var 1) ro_none (ro_some re_int))) (re_var 2))) (ra_cons re_int (ra_cons re_int ra_nil)))) ra_nil)))))))))))
      (rb_cons (rs_if (rt_cmp (op_neA hu) opv_ne (re_new (rn_lc [("value", 15)] rfl sc__law_right.nd (ri_any (re_var 5)) (fun _ _ _ _ _ => ⟨_, _, (rg_name 15 sc__law_right.nd), by decide⟩) (fun _ _ _ _ _ => ⟨_, (rts_one (rt_cmp (CW.op_notN) opv_notN (re_new (rn_callV (fn_is_chain c) hG (hr.mono (by decide)) rfl c.g_is_chain c.D_is_chain.kp (bn_is_chain c) (ra_cons (re_var 15) ra_nil))) re_bl (nomark _)))⟩) (fun _ _ _ _ _ => ⟨_, (re_var 15)⟩))) (re_new (rn_lst ra_nil)) (nomark _)) (rb_one (rs_ret (rn_val re_bl))) rb_nil)
      (rb_cons (rs_for PassesOwn.never rfl (ri_rng1 rfl c.b_range (ra_cons re_int ra_nil)) (rg_name 6 sc__law_right.nd) (rb_cons (rs_set 7 sc__law_right.nd (rn_val (re_new (rn_lc [("place", 11)] rfl sc__law_right.nd (ri_rng1 rfl c.b_range (ra_cons (re_add re_int (re_new (rn_callI 0 (fn__law_random c) hG (hr.mono (by decide)) rfl c.g__law_random c.D__law_random.kp (bn__law_random c) (ra_cons re_int ra_nil)))) ra_nil)) (fun _ _ _ _ _ => ⟨_, _, (rg_name 11 sc__law_right.nd), by decide⟩) (fun _ _ _ _ _ => ⟨_, rts_nil⟩) (fun _ _ _ _ _ => ⟨_, (re_new (rn_callI 0 (fn__law_random c) hG (hr.mono (by decide)) rfl c.g__law_random c.D__law_random.kp (bn__law_random c) (ra_cons (re_var 2) ra_nil)))⟩)))))
      (rb_cons (rs_par 8 9 rfl sc__law_right.nd (ra_cons (re_new (rn_callV (fn__law_states c) hG (hr.mono (by decide)) rfl c.g__law_states c.D__law_states.kp (bn__law_states c) (ra_cons (re_var 3) (ra_cons (re_var 7) ra_nil)))) (ra_cons (re_new (rn_callB (call_reprD hG hu) calln_repr rfl c.b_repr cb_repr (ra_cons (re_var 7) ra_nil))) ra_nil)))
      (rb_cons (rs_set 10 sc__law_right.nd (rn_callV (fn_states_of c) hG (hr.mono (by decide)) rfl c.g_states_of c.D_states_of.kp (bn_states_of c) (ra_cons (re_var 3) (ra_cons (re_var 7) ra_nil))))
      (rb_cons (rs_if (RW.rt (rw_or (rt_cmp (op_neA hu) opv_ne (RE.bor (re_new (rn_callB (call_reprD hG hu) calln_repr rfl c.b_repr cb_repr (ra_cons (re_var 10) ra_nil)))) (re_new (rn_callB (call_reprD hG hu) calln_repr rfl c.b_repr cb_repr (ra_cons (re_var 8) ra_nil))) (nomark _)) (rw_or (rt_cmp (op_neA hu) opv_ne (re_new (rn_callK0 (fn_states_of c) hG (hr.mono (by decide)) rfl c.g_states_of c.D_states_of.kp (kw_states_of_0_code_chain c) (rk_cons (re_var 7) (rk_cons (re_var 3) rk_nil)))) (re_var 8) (nomark _)) (rw_or1 (rt_cmp (op_neA hu) opv_ne (re_new (rn_callB (call_reprD hG hu) calln_repr rfl c.b_repr cb_repr (ra_cons (re_new (rn_callV (fn_is_right_chain c) hG (hr.mono (by decide)) rfl c.g_is_right_chain c.D_is_right_chain.kp (bn_is_right_chain c) (ra_cons (re_var 3) (ra_cons (re_var 7) ra_nil)))) ra_nil))) (re_new (rn_callB (call_reprD hG hu) calln_repr rfl c.b_repr cb_repr (ra_cons (re_cmp (op_eqA hu) opv_eq (re_ix (re_var 8) (re_neg re_int)) (re_ix (re_var 3) re_int) (nomark _)) ra_nil))) (nomark _)))))) (rb_one (rs_ret (rn_val re_bl))) rb_nil)
      (rb_cons (rs_expr (rn_val (re_append 10 (ra_cons re_non ra_nil))))
      (rb_cons (rs_for PassesOwn.never rfl (ri_rng1 rfl c.b_range (ra_cons (re_new (rn_callB call_lenA calln_len rfl c.b_len cb_len (ra_cons (re_var 7) ra_nil))) ra_nil)) (rg_name 11 sc__law_right.nd) (rb_cons (rs_setLcF [("sign", 16)] 12 rfl sc__law_right.nd (ri_rng1 rfl c.b_range (ra_cons (re_var 2) ra_nil)) (fun _ _ _ _ _ => ⟨_, _, (rg_name 16 sc__law_right.nd), by decide⟩) (fun _ _ _ _ _ => ⟨_, (rts_one (rt_cmp (op_eqA hu) opv_eq (re_ix (re_new (rn_callV (fn__law_states c) hG (hr.mono (by decide)) rfl c.g__law_states c.D__law_states.kp (bn__law_states c) (ra_cons (re_var 3) (ra_cons (re_add (re_add (re_new (rn_slice (re_var 7) ro_none (ro_some (re_var 11)))) (re_new (rn_lst (ra_cons (re_var 16) ra_nil)))) (re_new (rn_slice (re_var 7) (ro_some (re_add (re_var 11) re_int)) ro_none))) ra_nil)))) (re_neg re_int)) (re_ix (re_var 3) re_int) (nomark _)))⟩) (fun _ _ _ _ _ => ⟨_, (re_var 16)⟩))
      (rb_cons (rs_if (RW.rt (rw_or (rt_cmp (op_neA hu) opv_ne (re_new (rn_callB (call_reprD hG hu) calln_repr rfl c.b_repr cb_repr (ra_cons (re_new (rn_lst (ra_cons (re_new (rn_callV (fn_sign_at c) hG (hr.mono (by decide)) rfl c.g_sign_at c.D_sign_at.kp (bn_sign_at c) (ra_cons (re_var 3) (ra_cons (re_var 7) (ra_cons (re_var 11) ra_nil))))) ra_nil))) ra_nil))) (re_new (rn_callB (call_reprD hG hu) calln_repr rfl c.b_repr cb_repr (ra_cons (re_var 12) ra_nil))) (nomark _)) (rw_or1 (rt_cmp (op_neA hu) opv_ne (re_new (rn_callK0 (fn_sign_at c) hG (hr.mono (by decide)) rfl c.g_sign_at c.D_sign_at.kp (kw_sign_at_0_place_code_chain c) (rk_cons (re_var 11) (rk_cons (re_var 7) (rk_cons (re_var 3) rk_nil))))) (re_ix (re_var 12) re_int) (nomark _))))) (rb_one (rs_ret (rn_val re_bl))) rb_nil)
      (rb_one (rs_if (rt_cmp (CW.op_notN) opv_notN (re_new (rn_callK0 (fn_is_right_chain c) hG (hr.mono (by decide)) rfl c.g_is_right_chain c.D_is_right_chain.kp (kw_is_right_chain_0_code_chain c) (rk_cons (re_add (re_add (re_new (rn_slice (re_var 7) ro_none (ro_some (re_var 11)))) (re_var 12)) (re_new (rn_slice (re_var 7) (ro_some (re_add (re_var 11) re_int)) ro_none))) (rk_cons (re_var 3) rk_nil)))) re_bl (nomark _)) (rb_one (rs_ret (rn_val re_bl))) rb_nil)))))
      (rb_one (rs_if (RW.rt (rw_or (rt_cmp (op_neA hu) opv_ne (re_new (rn_callB (call_reprD hG hu) calln_repr rfl c.b_repr cb_repr (ra_cons (re_var 7) ra_nil))) (re_var 9) (nomark _)) (rw_or1 (rt_cmp (op_neA hu) opv_ne (re_new (rn_callV (fn_states_of c) hG (hr.mono (by decide)) rfl c.g_states_of c.D_states_of.kp (bn_states_of c) (ra_cons (re_var 3) (ra_cons (re_var 7) ra_nil)))) (re_var 8) (nomark _))))) (rb_one (rs_ret (rn_val re_bl))) rb_nil)))))))))
      (rb_cons (rs_for PassesOwn.never rfl (ri_any (re_new (rn_lst (ra_cons re_int (ra_cons re_int (ra_cons re_int (ra_cons re_int ra_nil))))))) (rg_name 13 sc__law_right.nd) (rb_cons (rs_if (rt_cmp (op_lt) (opv_I0 fun _ _ _ => .bl _) (re_new (rn_callV (fn__law_power c) hG (hr.mono (by decide)) rfl c.g__law_power c.D__law_power.kp (bn__law_power c) (ra_cons (re_var 2) (ra_cons (re_var 13) ra_nil)))) re_int (nomark _)) (rb_cons (rs_setLcF [("code", 7)] 14 rfl sc__law_right.nd (ri_any (re_new (rn_callV (fn__law_all_codes c) hG (hr.mono (by decide)) rfl c.g__law_all_codes c.D__law_all_codes.kp (bn__law_all_codes c) (ra_cons (re_var 2) (ra_cons (re_var 13) ra_nil))))) (fun _ _ _ _ _ => ⟨_, _, (rg_name 7 sc__law_right.nd), by decide⟩) (fun _ _ _ _ _ => ⟨_, (rts_one (rt_val (re_new (rn_callV (fn_is_right_chain c) hG (hr.mono (by decide)) rfl c.g_is_right_chain c.D_is_right_chain.kp (bn_is_right_chain c) (ra_cons (re_var 3) (ra_cons (re_var 7) ra_nil))))))⟩) (fun _ _ _ _ _ => ⟨_, (re_var 7)⟩))
      (rb_one (rs_if (rt_cmp (op_neA hu) opv_ne (re_new (rn_callB call_lenA calln_len rfl c.b_len cb_len (ra_cons (re_var 14) ra_nil))) (re_new (rn_callV (fn_how_many_right_lists c) hG (hr.mono (by decide)) rfl c.g_how_many_right_lists c.D_how_many_right_lists.kp (bn_how_many_right_lists c) (ra_cons (re_var 3) (ra_cons (re_var 13) ra_nil)))) (nomark _)) (rb_one (rs_ret (rn_val re_bl))) rb_nil))) rb_nil)
      (rb_one (rs_if (RW.rt (rw_or (rt_cmp (op_neA hu) opv_ne (re_new (rn_callB (call_reprD hG hu) calln_repr rfl c.b_repr cb_repr (ra_cons (re_new (rn_callV (fn_how_many_right_lists c) hG (hr.mono (by decide)) rfl c.g_how_many_right_lists c.D_how_many_right_lists.kp (bn_how_many_right_lists c) (ra_cons (re_var 3) (ra_cons (re_var 13) ra_nil)))) ra_nil))) (re_new (rn_callB (call_reprD hG hu) calln_repr rfl c.b_repr cb_repr (ra_cons (re_new (rn_callV (fn__law_power c) hG (hr.mono (by decide)) rfl c.g__law_power c.D__law_power.kp (bn__law_power c) (ra_cons (re_var 2) (ra_cons (re_sub (re_var 13) re_int) ra_nil)))) ra_nil))) (nomark _)) (rw_or1 (rt_cmp (op_neA hu) opv_ne (re_new (rn_callK0 (fn_how_many_right_lists c) hG (hr.mono (by decide)) rfl c.g_how_many_right_lists c.D_how_many_right_lists.kp (kw_how_many_right_lists_0_length_chain c) (rk_cons (re_var 13) (rk_cons (re_var 3) rk_nil)))) (re_new (rn_callV (fn__law_power c) hG (hr.mono (by decide)) rfl c.g__law_power c.D__law_power.kp (bn__law_power c) (ra_cons (re_var 2) (ra_cons (re_sub (re_var 13) re_int) ra_nil)))) (nomark _))))) (rb_one (rs_ret (rn_val re_bl))) rb_nil))))
      (rb_one (rs_ret (rn_val (re_cmp (op_eqA hu) opv_eq (re_new (rn_callB (call_reprD hG hu) calln_repr rfl c.b_repr cb_repr (ra_cons (re_var 3) ra_nil))) (re_var 4) (nomark _))))))))))))))))⟩
theorem sc__law_cell : FnScope ["script", "index"] ["script", "index"] (defScope s__law_cell) := ⟨rfl, rfl, rfl, by decide +kernel, rfl, by decide +kernel, by decide +kernel⟩
abbrev m__law_cell : MS :=
  (mSeq (mIfS (mT (mOp fLtI (mVar 1) (mFrz (mCall fLen (mCons (mVar 0) mNil))))) (mRet (mVal (mOp fIx (mVar 0) (mVar 1)))) mNext)
  (mRet (mVal (mOp fMod (mFrz (mCall fSum (mCons (mFrz (mSlice (mVar 0) mNoPart (mPart (mC (.int 1))))) mNil))) (mC (.int 1000003))))))
def F__law_cell : FM := fnM 0 m__law_cell
theorem bn__law_cell (c : Fx w K mg) : Binds K c.fd__law_cell ["script", "index"] [] := FunD.bindsN (ps := ["script", "index"]) c.D__law_cell fun _ _ _ _ _ _ us hl => match us, hl with | [_, _], _ => rfl
theorem fn__law_cell (c : Fx w K mg) : FnG P w K mg base CX0 1 (He.ga K "_law_cell") c.fd__law_cell ["script", "index"] (spD K mg 2 F__law_cell) :=
  fnG_D c.D__law_cell sc__law_cell rfl rfl fun _ _ _ _ _ _ hG hr => have hu := hr.units; have hu5 := unit5 hr; ⟨_, RB.nox <|
    (rb_cons (rs_if (rt_cmp (op_lt) (opv_I0 fun _ _ _ => .bl _) (re_var 1) (re_new (rn_callB call_lenA calln_len rfl c.b_len cb_len (ra_cons (re_var 0) ra_nil))) (nomark _)) (rb_one (rs_ret (rn_val (re_ix (re_var 0) (re_var 1))))) rb_nil)
      (rb_one (rs_ret (rn_val (re_mod (re_new (rn_callB (cr_sumA rfl) calln_sum rfl c.b_sum cb_sum (ra_cons (re_new (rn_slice (re_var 0) ro_none (ro_some re_int))) ra_nil))) re_int)))))⟩
theorem sc__law_generator : FnScope ["script", "index", "seed"] ["script", "index"] (defScope s__law_generator) := ⟨rfl, rfl, rfl, by decide +kernel, rfl, by decide +kernel, by decide +kernel⟩
abbrev m__law_generator : MS :=
  (mSeq (mSet 2 (mVal (mFrz (mCallV 2 F__law_cell (mCons (mVar 0) (mCons (mVar 1) mNil))))))
  (mRet (mLst (mCons (mOp fMod (mFrz (mCall fInt (mCons (mFrz (mCall fMax2 (mCons (mOp fSub (mVar 2) (mOp fPow (mC (.int 10)) (mC (.int 18)))) (mCons (mC (.int 0)) mNil)))) mNil))) (mOp fPow (mOp fPow (mC (.int 10)) (mC (.int 60))) (mC (.int 10)))) (mCons (mOp fMod (mFrz (mCall fInt (mCons (mVar 2) mNil))) (mC (.int 2147483647))) (mCons (mOp fMulI (mC (.int 1000)) (mVar 1)) mNil))))))
def F__law_generator : FM := fnM 1 m__law_generator
theorem bn__law_generator (c : Fx w K mg) : Binds K c.fd__law_generator ["script", "index"] [] := FunD.bindsN (ps := ["script", "index"]) c.D__law_generator fun _ _ _ _ _ _ us hl => match us, hl with | [_, _], _ => rfl
theorem fn__law_generator (c : Fx w K mg) : FnG P w K mg base CX0 2 (He.ga K "_law_generator") c.fd__law_generator ["script", "index"] (spD K mg 2 F__law_generator) :=
  fnG_D c.D__law_generator sc__law_generator rfl rfl fun _ _ _ _ _ _ hG hr => have hu := hr.units; have hu5 := unit5 hr; ⟨_, RB.nox <|
    (rb_cons (rs_set 2 sc__law_generator.nd (rn_val (re_new (rn_callV (fn__law_cell c) hG (hr.mono (by decide)) rfl c.g__law_cell c.D__law_cell.kp (bn__law_cell c) (ra_cons (re_var 0) (ra_cons (re_var 1) ra_nil))))))
      (rb_one (rs_ret (rn_lst (ra_cons (re_mod (re_new (rn_callTy call_int1 calln_int rfl c.b_int cb_int (ra_cons (re_new (rn_callB (call_max2 rfl) calln_max2 rfl c.b_max cb_max (ra_cons (re_sub (re_var 2) (re_pow re_int re_int)) (ra_cons re_int ra_nil)))) ra_nil))) (re_pow (re_pow re_int re_int) re_int)) (ra_cons (re_mod (re_new (rn_callTy call_int1 calln_int rfl c.b_int cb_int (ra_cons (re_var 2) ra_nil))) re_int) (ra_cons (re_mul re_int (re_var 1)) ra_nil)))))))⟩
theorem sc_law : FnScope ["script", "index", "chain", "told", "state", "sign"] ["script"] (defScope s_law) := ⟨rfl, rfl, rfl, by decide +kernel, rfl, by decide +kernel, by decide +kernel⟩
abbrev g_law_0 : PyData → Ev → Res Ev := (gSet 1)
abbrev b_law_0 : MS := (mIfS (mNotT (mT (mFrz (mCallT 1 F__law_right (mCallV 2 F__law_generator (mCons (mVar 0) (mCons (mVar 1) mNil))) mNil)))) (mRet (mVal (mC (.bool false)))) mNext)
abbrev cg_law_0 : PyData → Ev → Res Ev := (gSet 5)
abbrev ct_law_0 : MT := mYes
abbrev ce_law_0 : ME := (mOp fMod (mFrz (mCall fInt (mCons (mOp fAdd (mOp fMulI (mC (.int 2)) (mVar 4)) (mVar 5)) mNil))) (mC (.int 5)))
abbrev cg_law_1 : PyData → Ev → Res Ev := (gSet 4)
abbrev ct_law_1 : MT := mYes
abbrev ce_law_1 : ME := (mFrz (mLc (mRng1 (mCons (mC (.int 5)) mNil)) cg_law_0 ct_law_0 ce_law_0 [5]))
abbrev m_law : MS :=
  (mSeq (mFor (mRng1 (mCons (mC (.int 3)) mNil)) g_law_0 b_law_0)
  (mSeq (mSet 2 (mVal (mTup (mCons (mFrz (mLc (mRng1 (mCons (mC (.int 5)) mNil)) cg_law_1 ct_law_1 ce_law_1 [4])) (mCons (mC (.int 0)) (mCons (mC (.int 0)) mNil))))))
  (mSeq (mIfS (mOrT (mT (mOp fNotN (mFrz (mCallV 1 F_is_chain (mCons (mTup (mCons (mFrz (mLst (mCons (mFrz (mLst (mCons (mC (.int 0)) (mCons (mC (.int 1)) (mCons (mC (.int 2)) mNil))))) (mCons (mFrz (mLst (mCons (mC (.int 1)) (mCons (mC (.int 0)) (mCons (mC (.int 2)) mNil))))) (mCons (mFrz (mLst (mCons (mC (.int 2)) (mCons (mC (.int 1)) (mCons (mC (.int 0)) mNil))))) mNil))))) (mCons (mC (.int 0)) (mCons (mC (.int 0)) mNil)))) mNil))) (mC (.bool false)))) (mT (mOp fNotN (mFrz (mCallV 1 F_is_chain (mCons (mTup (mCons (mFrz (mLst (mCons (mFrz (mLst (mCons (mC (.int 0)) (mCons (mC (.int 1)) (mCons (mC (.int 2)) mNil))))) (mCons (mFrz (mLst (mCons (mC (.int 1)) (mCons (mC (.int 2)) (mCons (mC (.int 0)) mNil))))) (mCons (mFrz (mLst (mCons (mC (.int 2)) (mCons (mC (.int 0)) (mCons (mC (.int 1)) mNil))))) mNil))))) (mCons (mC (.int 0)) (mCons (mC (.int 0)) mNil)))) mNil))) (mC (.bool true))))) (mRet (mVal (mC (.bool false)))) mNext)
  (mSeq (mSet 3 (mVal (mFrz (mLst (mCons (mFrz (mCallV 2 F_states_of (mCons (mVar 2) (mCons (mFrz (mLst (mCons (mC (.int 1)) (mCons (mC (.int 2)) (mCons (mC (.int 3)) mNil))))) mNil)))) (mCons (mFrz (mCallV 2 F_is_right_chain (mCons (mVar 2) (mCons (mFrz (mLst (mCons (mC (.int 1)) (mCons (mC (.int 2)) (mCons (mC (.int 3)) mNil))))) mNil)))) (mCons (mFrz (mCallV 3 F_sign_at (mCons (mVar 2) (mCons (mFrz (mLst (mCons (mC (.int 1)) (mCons (mC (.int 2)) (mCons (mC (.int 3)) mNil))))) (mCons (mC (.int 0)) mNil))))) (mCons (mFrz (mCallV 3 F_sign_at (mCons (mVar 2) (mCons (mFrz (mLst (mCons (mC (.int 1)) (mCons (mC (.int 2)) (mCons (mC (.int 3)) mNil))))) (mCons (mC (.int 2)) mNil))))) (mCons (mFrz (mCallV 2 F_how_many_right_lists (mCons (mVar 2) (mCons (mC (.int 100)) mNil)))) mNil)))))))))
  (mRet (mVal (mOp fEq (mVar 3) (mFrz (mLst (mCons (mFrz (mLst (mCons (mC (.int 0)) (mCons (mC (.int 1)) (mCons (mC (.int 4)) (mCons (mC (.int 1)) mNil)))))) (mCons (mC (.bool false)) (mCons (mC (.int 2)) (mCons (mC (.int 2)) (mCons (mOp fMulI (mC (.int 5)) (mOp fPow (mOp fPow (mC (.int 5)) (mC (.int 49))) (mC (.int 2)))) mNil))))))))))))))
def F_law : FM := fnM 5 m_law
theorem fn_law (c : Fx w K mg) {f : Addr} {fd : FuncData} (D : FunD K "law" "law" (defArgs s_law) (defBody s_law) (defScope s_law) [] [] f fd) : FnG P w K mg base CX0 11 f fd ["script"] (spD K mg 1 F_law) :=
  fnG_D D sc_law rfl rfl fun _ _ _ _ _ _ hG hr => have hu := hr.units; have hu5 := unit5 hr; ⟨_, RB.nox <|
    (rb_cons (rs_for PassesOwn.never rfl (ri_rng1 rfl c.b_range (ra_cons re_int ra_nil)) (rg_name 1 sc_law.nd) (rb_one (rs_if (rt_not (rt_val (re_new (rn_callT (fn__law_right c) hG (hr.mono (by decide)) rfl c.g__law_right c.D__law_right.kp (bn__law_right c) (rn_callV (fn__law_generator c) hG (hr.mono (by decide)) rfl c.g__law_generator c.D__law_generator.kp (bn__law_generator c) (ra_cons (re_var 0) (ra_cons (re_var 1) ra_nil))) ra_nil)))) (rb_one (rs_ret (rn_val re_bl))) rb_nil)))
      (rb_cons (rs_set 2 sc_law.nd (rn_val (re_tup (ra_cons (re_new (rn_lc [("state", 4)] rfl sc_law.nd (ri_rng1 rfl c.b_range (ra_cons re_int ra_nil)) (fun _ _ _ _ _ => ⟨_, _, (rg_name 4 sc_law.nd), by decide⟩) (fun _ _ _ _ _ => ⟨_, rts_nil⟩) (fun _ _ _ _ _ => ⟨_, (re_new (rn_lc [("sign", 5)] rfl sc_law.nd (ri_rng1 rfl c.b_range (ra_cons re_int ra_nil)) (fun _ _ _ _ _ => ⟨_, _, (rg_name 5 sc_law.nd), by decide⟩) (fun _ _ _ _ _ => ⟨_, rts_nil⟩) (fun _ _ _ _ _ => ⟨_, (re_mod (re_new (rn_callTy call_int1 calln_int rfl c.b_int cb_int (ra_cons (re_add (re_mul re_int (re_var 4)) (re_var 5)) ra_nil))) re_int)⟩)))⟩))) (ra_cons re_int (ra_cons re_int ra_nil))))))
      (rb_cons (rs_if (RW.rt (rw_or (rt_cmp (CW.op_notN) opv_notN (re_new (rn_callV (fn_is_chain c) hG (hr.mono (by decide)) rfl c.g_is_chain c.D_is_chain.kp (bn_is_chain c) (ra_cons (re_tup (ra_cons (re_new (rn_lst (ra_cons (re_new (rn_lst (ra_cons re_int (ra_cons re_int (ra_cons re_int ra_nil))))) (ra_cons (re_new (rn_lst (ra_cons re_int (ra_cons re_int (ra_cons re_int ra_nil))))) (ra_cons (re_new (rn_lst (ra_cons re_int (ra_cons re_int (ra_cons re_int ra_nil))))) ra_nil))))) (ra_cons re_int (ra_cons re_int ra_nil)))) ra_nil))) re_bl (nomark _)) (rw_or1 (rt_cmp (CW.op_notN) opv_notN (re_new (rn_callV (fn_is_chain c) hG (hr.mono (by decide)) rfl c.g_is_chain c.D_is_chain.kp (bn_is_chain c) (ra_cons (re_tup (ra_cons (re_new (rn_lst (ra_cons (re_new (rn_lst (ra_cons re_int (ra_cons re_int (ra_cons re_int ra_nil))))) (ra_cons (re_new (rn_lst (ra_cons re_int (ra_cons re_int (ra_cons re_int ra_nil))))) (ra_cons (re_new (rn_lst (ra_cons re_int (ra_cons re_int (ra_cons re_int ra_nil))))) ra_nil))))) (ra_cons re_int (ra_cons re_int ra_nil)))) ra_nil))) re_bl (nomark _))))) (rb_one (rs_ret (rn_val re_bl))) rb_nil)
      (rb_cons (rs_set 3 sc_law.nd (rn_val (re_new (rn_lst (ra_cons (re_new (rn_callV (fn_states_of c) hG (hr.mono (by decide)) rfl c.g_states_of c.D_states_of.kp (bn_states_of c) (ra_cons (re_var 2) (ra_cons (re_new (rn_lst (ra_cons re_int (ra_cons re_int (ra_cons re_int ra_nil))))) ra_nil)))) (ra_cons (re_new (rn_callV (fn_is_right_chain c) hG (hr.mono (by decide)) rfl c.g_is_right_chain c.D_is_right_chain.kp (bn_is_right_chain c) (ra_cons (re_var 2) (ra_cons (re_new (rn_lst (ra_cons re_int (ra_cons re_int (ra_cons re_int ra_nil))))) ra_nil)))) (ra_cons (re_new (rn_callV (fn_sign_at c) hG (hr.mono (by decide)) rfl c.g_sign_at c.D_sign_at.kp (bn_sign_at c) (ra_cons (re_var 2) (ra_cons (re_new (rn_lst (ra_cons re_int (ra_cons re_int (ra_cons re_int ra_nil))))) (ra_cons re_int ra_nil))))) (ra_cons (re_new (rn_callV (fn_sign_at c) hG (hr.mono (by decide)) rfl c.g_sign_at c.D_sign_at.kp (bn_sign_at c) (ra_cons (re_var 2) (ra_cons (re_new (rn_lst (ra_cons re_int (ra_cons re_int (ra_cons re_int ra_nil))))) (ra_cons re_int ra_nil))))) (ra_cons (re_new (rn_callV (fn_how_many_right_lists c) hG (hr.mono (by decide)) rfl c.g_how_many_right_lists c.D_how_many_right_lists.kp (bn_how_many_right_lists c) (ra_cons (re_var 2) (ra_cons re_int ra_nil)))) ra_nil)))))))))
      (rb_one (rs_ret (rn_val (re_cmp (op_eqA hu) opv_eq (re_var 3) (re_new (rn_lst (ra_cons (re_new (rn_lst (ra_cons re_int (ra_cons re_int (ra_cons re_int (ra_cons re_int ra_nil)))))) (ra_cons re_bl (ra_cons re_int (ra_cons re_int (ra_cons (re_mul re_int (re_pow (re_pow re_int re_int) re_int)) ra_nil))))))) (nomark _)))))))))⟩
end
end N47
namespace N47
open PySem PySem.Spec PyProof.Rows L2 CW
local macro_rules | `(tactic| decreasing_with $ts:tacticSeq) => `(tactic| repeat (first | (focus ((with_reducible show List.set _ _ _ = _); (conv => lhs; simp only [List.set_cons_zero, List.set_cons_succ, Sl.put, Int.reduceToNat]); try rfl)) | ($ts:tacticSeq) | (with_reducible first | exact ev_nil | exact ev_nsnil | exact putA_nil | exact ev_next | exact ev_yes | exact ev_nopart | exact ev_c | exact ev_gsnil) | ((with_reducible first | apply ev_var | apply ev_fzv | apply ev_mvv); rfl) | (with_reducible first | apply ev_seq | apply ev_set | apply ev_val | apply ev_frz | apply ev_op | apply ev_call | apply ev_cons | apply ev_tup | apply ev_lst | apply ev_T | apply ev_neg | apply ev_unN | apply ev_isi | apply ev_notT | apply ev_notV | apply ev_ret | apply ev_drop | apply ev_asg | apply ev_gset | apply ev_gscons | apply ev_gtup | apply ev_gtupL | apply ev_items | apply ev_rng1 | apply ev_rng2 | apply ev_en | apply ev_zp | apply ev_part | apply ev_slice | apply ev_lrg1 | apply ev_idx | apply ev_for | apply ev_par | apply ev_par3 | apply ev_parN | apply ev_gix | apply ev_ixo | apply ev_ixv | apply ev_ownM | apply ev_callV | apply ev_callO | apply ev_callI | apply ev_callT | apply ev_fz | apply ev_mv | apply ev_lc | apply ev_bor | apply ev_borT | apply ev_opN | apply ev_cnt | apply ev_tupN | apply ev_nscons | apply putA_cons | apply ev_kd | apply ev_kdIn | apply ev_revTo) | (focus ((with_reducible show List.map Sl.val _ = _); (conv => lhs; simp only [List.map_cons, List.map_nil, inOrder, List.filterMap, List.cons_append, List.nil_append, List.getElem?_cons_zero, List.getElem?_cons_succ]); try rfl)) | (show (_ : Nat) < List.length (_ : Ev); simp only [List.length_cons, List.length_nil, List.length_set]; omega) | (show (_ : Nat) < List.length (_ : Ev) ∧ _; simp only [List.length_cons, List.length_nil, List.length_set]; omega) | (show List.length (_ : List PyData) ≤ 100000; simp only [List.length_cons, List.length_nil]; omega) | (show List.length (_ : List Sl) ≤ 100; simp only [List.length_cons, List.length_nil]; omega) | (with_reducible first | exact fNe_str | exact fEq_str | exact intsOf_ints _) | (focus ((with_reducible first | show Sl.frz _ = _ | show wasOwn _ _ = _ | show (_ : Ev)[_]? = _ | show Sl.isOwn _ = _ | show ixN _ _ = _ | show atI _ _ = _ | show resV _ = _ | show itemsD _ = _ | show seqD _ = _ | show List.length _ = _ | show calmAt _ _ = _ | show fInt _ = _ | show fLen _ = _ | show fListOf _ = _ | show fTupOf _ = _ | show fMax2 _ = _ | show fMin2 _ = _ | show fRev _ = _ | show fBits _ = _ | show outA _ _ = _ | show fAppend _ _ = _ | show fSl _ _ _ = _); rfl)) | (focus ((with_reducible show fAdd _ _ = _); exact fAdd_i)) | (focus ((with_reducible show fSub _ _ = _); exact fSub_i)) | (focus ((with_reducible show fLtI _ _ = _); exact fLtI_i)) | (focus ((with_reducible show fLeI _ _ = _); exact fLeI_i)) | (focus ((with_reducible show fGtI _ _ = _); exact fGtI_i)) | (focus ((with_reducible show fGeI _ _ = _); exact fGeI_i)) | (focus ((with_reducible show fEq _ _ = _); exact fEq_i)) | (focus ((with_reducible show fNe _ _ = _); exact fNe_i)) | (focus ((with_reducible show fMulI _ _ = _); exact fMulI_ok (by omega))) | (focus ((with_reducible show fMod _ _ = _); exact fMod_ok (by omega))) | (focus ((with_reducible show fDiv _ _ = _); first | exact fDiv_s (by omega) (by omega) | exact fDiv_ok (by omega) (by assumption))) | (focus ((with_reducible show fDivmod _ = _); exact fDivmod_ok (by omega) (by omega))) | (focus ((with_reducible show isT _ _ = _); first | rfl | decide +kernel)) | (focus ((with_reducible show List.map Sl.see _ = _); (conv => lhs; simp only [List.map_cons, List.map_nil, Sl.see]); try rfl)) | (focus ((with_reducible first | show List.length _ + 1 = _ | show scD _ = _ | show (!_) = _); rfl)) | (with_reducible first | exact (rfl : true = true) | exact (rfl : false = false)) | (focus ((with_reducible show clr _ _ = _); (conv => lhs; simp only [clr_nil, clr_cons, List.set_cons_zero, List.set_cons_succ]); try rfl)) | (focus ((with_reducible show bck _ _ _ = _); (conv => lhs; simp only [bck_nil, bck_cons, List.getElem?_cons_zero, List.getElem?_cons_succ, List.set_cons_zero, List.set_cons_succ]); try rfl)) | (exact ⟨rfl, rfl, rfl⟩) | (focus ((with_reducible first | show fIx (.tuple (_ :: _)) (.int _) = _ | show fIx (.list (_ :: _)) (.int _) = _); rfl))))
theorem ty_is_whole {i : Int} : F_is_whole [iV i] = .ok (.val (.bool true), [iV i]) := by
  refine ev_fn (δ1 := [iV i]) ?_ rfl
  show m_is_whole [iV i] = _
  decreasing_with fail
  apply ev_andVT
  decreasing_with fail
theorem ty_is_between2 {i : Int} : F_is_between [iV i, iV 2, .val .none] = .ok (.val (.bool (decide (2 ≤ i))), [iV i, iV 2, .val .none]) := by
  refine ev_fn (δ1 := [iV i, iV 2, .val .none]) ?_ rfl
  show m_is_between [iV i, iV 2, .val .none] = _
  apply ev_seq
  · apply ev_ifF
    decreasing_with first | (with_reducible exact ty_is_whole)
    decreasing_with fail
  decreasing_with fail
  have e1 : mOrV (mOp fIsN (mVar 1) (mC .none)) (mOp fGeI (mVar 0) (mVar 1)) [iV i, iV 2, .val .none] = .ok (.bool (decide (2 ≤ i)), [iV i, iV 2, .val .none]) := by
    apply ev_orVF
    decreasing_with first | ((show fIsN _ _ = _; rfl))
    decreasing_with fail
  have e2 : mOrV (mOp fIsN (mVar 2) (mC .none)) (mOp fLeI (mVar 0) (mVar 2)) [iV i, iV 2, .val .none] = .ok (.bool true, [iV i, iV 2, .val .none]) := by
    apply ev_orVT
    decreasing_with first | ((show fIsN _ _ = _; rfl))
  have e3 := ev_andV e1 (fun _ => e2)
  rwa [Bool.and_true] at e3
theorem fIx_li {xs : List Int} {i : Nat} (h : i < xs.length) : fIx (lI xs) (.int (i : Int)) = .ok (.int (xs.getD i 0)) := by
  show (match atI (xs.map PyData.int) (i : Int) with | some d => Res.ok d | none => .no) = _
  rw [atI_map _ _ _ h, List.getD_eq_getElem?_getD, List.getElem?_eq_getElem h]; rfl
theorem fIx_ls {xs : List (List Int)} {i : Nat} (h : i < xs.length) : fIx (.list (xs.map fun t => lI t)) (.int (i : Int)) = .ok (lI (xs.getD i [])) := by
  show (match atI (xs.map fun t => lI t) (i : Int) with | some d => Res.ok d | none => .no) = _
  rw [atI_map _ _ _ h, List.getD_eq_getElem?_getD, List.getElem?_eq_getElem h]; rfl
theorem fIx_lz {xs : List Int} {c : Int} (h0 : 0 ≤ c) (h : c < xs.length) : fIx (lI xs) (.int c) = .ok (.int (xs.getD c.toNat 0)) := by
  have e : c = ((c.toNat : Nat) : Int) := by omega
  have z := fIx_li (xs := xs) (i := c.toNat) (by omega)
  rwa [← e] at z
theorem fLen_li {xs : List Int} : fLen [lI xs] = .ok (iV xs.length) := by
  show Res.ok (Sl.val (.int ((xs.map PyData.int).length : Nat))) = _
  rw [List.length_map]
theorem fLen_ls {xs : List (List Int)} : fLen [.list (xs.map fun t => lI t)] = .ok (iV xs.length) := by
  show Res.ok (Sl.val (.int ((xs.map fun t => lI t).length : Nat))) = _
  rw [List.length_map]
theorem forL_ret {g : PyData → Ev → Res Ev} {b : MS} {d : PyData} {ds : List PyData} {δ δ1 δ2 : Ev} {s : Sl} (e1 : g d δ = .ok δ1) (e2 : b δ1 = .ok (.rt s, δ2)) : forL g b (d :: ds) δ = .ok (.rt s, δ2) := by
  rw [forL]
  rw [e1]; simp only []
  rw [e2]
theorem forL_first {α : Type} {g : PyData → Ev → Res Ev} {b : MS} (enc : α → PyData) (R R2 : Ev → Prop) {w : α} {s : Sl} : ∀ {xs : List α} {δ : Ev}, R δ → w ∈ xs →
    (∀ x ∈ xs, x ≠ w → ∀ δ, R δ → ∃ δ1 δ2, g (enc x) δ = .ok δ1 ∧ b δ1 = .ok (.nx, δ2) ∧ R δ2) → (∀ δ, R δ → ∃ δ1 δ2, g (enc w) δ = .ok δ1 ∧ b δ1 = .ok (.rt s, δ2) ∧ R2 δ2) →
    ∃ δ', forL g b (xs.map enc) δ = .ok (.rt s, δ') ∧ R2 δ'
  | x :: xs, δ, r, hw, h1, h2 => by
    by_cases e : x = w
    · subst e
      obtain ⟨δ1, δ2, e1, e2, r2⟩ := h2 δ r
      exact ⟨δ2, forL_ret e1 e2, r2⟩
    · obtain ⟨δ1, δ2, e1, e2, r2⟩ := h1 x (List.mem_cons_self ..) e δ r
      obtain ⟨δ', e3, r3⟩ := forL_first enc R R2 r2 (show w ∈ xs by cases hw with
        | head => exact absurd rfl e
        | tail _ h => exact h) (fun x hx => h1 x (List.mem_cons_of_mem _ hx)) h2
      exact ⟨δ', by rw [List.map_cons, forL_cons e1 e2, e3], r3⟩
def sizeP (os : List Int) : Int := os.foldl (fun s o => s * o) 1
structure PosL (os : List Int) : Prop where
  at_ : ∀ o ∈ os, 2 ≤ o ∧ o < 1073741824
  len : os.length ≤ 1000
def rngI (lo : Int) (n : Nat) : List Int := (List.range n).map fun (i : Nat) => lo + (i : Int)
theorem rngI_len (lo : Int) (n : Nat) : (rngI lo n).length = n := by unfold rngI; simp
theorem rngD_I (lo : Int) (n : Nat) : rngD lo n = (rngI lo n).map PyData.int := rngD_map lo n
theorem rOk_small {k : Int} (h0 : 0 ≤ k) (h1 : k ≤ 1000000) : rOk k = true := decide_eq_true (by omega)
structure SzOk (os : List Int) : Prop extends PosL os where
  lo : 1 ≤ sizeP os
  hi : sizeP os ≤ 100000
def sumN : Nat → (Nat → Nat) → Nat
  | 0, _ => 0
  | n + 1, f => sumN n f + f n
theorem sumN_cg {n : Nat} {f g : Nat → Nat} (h : ∀ i, i < n → f i = g i) : sumN n f = sumN n g := by
  induction n with
  | zero => rfl
  | succ n ih => show sumN n f + f n = sumN n g + g n; rw [ih fun i hi => h i (by omega), h n (by omega)]
theorem sumN_zero (n : Nat) : sumN n (fun _ => 0) = 0 := by
  induction n with
  | zero => rfl
  | succ n ih => show sumN n _ + 0 = 0; rw [ih]
theorem sumN_const (n c : Nat) : sumN n (fun _ => c) = n * c := by
  induction n with
  | zero => simp [sumN]
  | succ n ih => show sumN n _ + c = _; rw [ih, Nat.add_mul, Nat.one_mul]
theorem sumN_add (n : Nat) (f g : Nat → Nat) : sumN n (fun i => f i + g i) = sumN n f + sumN n g := by
  induction n with
  | zero => rfl
  | succ n ih => show sumN n _ + (f n + g n) = sumN n f + f n + (sumN n g + g n); rw [ih]; omega
theorem sumN_mul (n c : Nat) (f : Nat → Nat) : sumN n (fun i => c * f i) = c * sumN n f := by
  induction n with
  | zero => rfl
  | succ n ih => show sumN n _ + c * f n = c * (sumN n f + f n); rw [ih, Nat.mul_add]
theorem sumN_swap (n m : Nat) (f : Nat → Nat → Nat) : sumN n (fun i => sumN m (f i)) = sumN m (fun j => sumN n fun i => f i j) := by
  induction n with
  | zero => exact (sumN_zero m).symm
  | succ n ih =>
    show sumN n _ + sumN m (f n) = sumN m (fun j => sumN n (fun i => f i j) + f n j)
    rw [ih, sumN_add]
theorem sumN_one {n k : Nat} (hk : k < n) (c : Nat) : sumN n (fun i => if i = k then c else 0) = c := by
  induction n with
  | zero => omega
  | succ n ih =>
    show sumN n _ + (if n = k then c else 0) = c
    by_cases h : n = k
    · subst h
      rw [if_pos rfl, sumN_cg (g := fun _ => 0) fun i hi => if_neg (by omega), sumN_zero]
      omega
    · rw [if_neg h, ih (by omega)]
      omega
theorem sum_range (n : Nat) (f : Nat → Nat) : ((List.range n).map f).sum = sumN n f := by
  induction n with
  | zero => rfl
  | succ n ih => rw [List.range_succ, List.map_append, List.sum_append, ih]; simp [sumN]
/-- twice the part above the diagonal -/
theorem sumN_two (h : Nat → Nat → Nat) (hs : ∀ x y, h x y = h y x) (h0 : ∀ x, h x x = 0) : ∀ n, sumN n (fun x => sumN n (h x)) = 2 * sumN n (fun x => sumN n fun y => if x < y then h x y else 0)
  | 0 => rfl
  | n + 1 => by
    have ih := sumN_two h hs h0 n
    have e1 : sumN (n + 1) (fun x => sumN (n + 1) (h x)) = sumN n (fun x => sumN n (h x)) + sumN n (fun x => h x n) + (sumN n (h n) + h n n) := by
      show sumN n (fun x => sumN n (h x) + h x n) + (sumN n (h n) + h n n) = _
      rw [sumN_add]
    have e2 : sumN (n + 1) (fun x => sumN (n + 1) fun y => if x < y then h x y else 0) = sumN n (fun x => sumN n fun y => if x < y then h x y else 0) + sumN n (fun x => h x n) := by
      show sumN n (fun x => (sumN n fun y => if x < y then h x y else 0) + (if x < n then h x n else 0)) + ((sumN n fun y => if n < y then h n y else 0) + (if n < n then h n n else 0)) = _
      rw [sumN_add, if_neg (Nat.lt_irrefl n), sumN_cg (n := n) (f := fun y => if n < y then h n y else 0) (g := fun _ => 0) fun i hi => if_neg (by omega), sumN_zero, sumN_cg (n := n) (f := fun x => if x < n then h x n else 0) (g := fun x => h x n) fun i hi => if_pos hi]
      omega
    have e3 : sumN n (h n) = sumN n (fun x => h x n) := sumN_cg fun i _ => hs n i
    rw [e1, e2, ih, h0, e3]
    omega
theorem srtI_rng {n : Nat} {xs : List Int} (h : xs.Perm (rngI 0 n)) : srtI xs = rngI 0 n := by
  refine sorted_one ((srtI_perm xs).trans h) (srtI_sorted xs) ?_
  unfold rngI
  rw [List.pairwise_map]
  exact List.Pairwise.imp (fun h => by omega) List.pairwise_lt_range
structure TabOk (n : Int) (xs : List Int) : Prop where
  perm : xs.Perm (rngI 0 n.toNat)
  n0 : 0 ≤ n
  n1 : n ≤ 100000
theorem mem_rngI {lo x : Int} {n : Nat} : x ∈ rngI lo n ↔ lo ≤ x ∧ x < lo + n := by
  unfold rngI
  rw [List.mem_map]
  constructor
  · rintro ⟨i, hi, rfl⟩
    have := List.mem_range.mp hi
    omega
  · intro h
    exact ⟨(x - lo).toNat, List.mem_range.mpr (by omega), by omega⟩
def ixP (v : Int) : List Int → Nat
  | [] => 0
  | x :: xs => if x = v then 0 else ixP v xs + 1
theorem ixP_lt {v : Int} : ∀ {xs : List Int}, v ∈ xs → ixP v xs < xs.length
  | x :: xs, h => by
    unfold ixP
    by_cases e : x = v
    · rw [if_pos e]; simp
    · rw [if_neg e, List.length_cons]
      have := ixP_lt (v := v) (xs := xs) (by cases h with
        | head => exact absurd rfl e
        | tail _ h => exact h)
      omega
theorem ixP_get {v : Int} : ∀ {xs : List Int}, v ∈ xs → xs.getD (ixP v xs) 0 = v
  | x :: xs, h => by
    unfold ixP
    by_cases e : x = v
    · rw [if_pos e]; exact e
    · rw [if_neg e]
      exact ixP_get (v := v) (xs := xs) (by cases h with
        | head => exact absurd rfl e
        | tail _ h => exact h)
theorem ixP_uniq {v : Int} : ∀ {xs : List Int} {i : Nat}, xs.Nodup → i < xs.length → xs.getD i 0 = v → ixP v xs = i
  | x :: xs, 0, _, _, e => by
    unfold ixP
    exact if_pos e
  | x :: xs, i + 1, hn, hi, e => by
    have hi' : i < xs.length := by simpa using hi
    replace e : xs.getD i 0 = v := e
    have hv : v ∈ xs := by
      rw [← e, List.getD_eq_getElem?_getD, List.getElem?_eq_getElem hi']
      exact List.getElem_mem hi'
    have hx : x ≠ v := fun z => (List.nodup_cons.mp hn).1 (z ▸ hv)
    unfold ixP
    rw [if_neg hx, ixP_uniq (List.nodup_cons.mp hn).2 hi' e]
theorem idxD_ints {v : Int} : ∀ {xs : List Int}, v ∈ xs → idxD (.int v) (xs.map .int) = some (ixP v xs)
  | x :: xs, h => by
    show (if PyData.eqv (.int x) (.int v) = true then some 0 else (idxD (.int v) (xs.map .int)).map (· + 1)) = _
    unfold ixP
    by_cases e : x = v
    · rw [if_pos e, if_pos (by simp [PyData.eqv, e])]
    · rw [if_neg e, if_neg (by simp [PyData.eqv, e]), idxD_ints (by cases h with
        | head => exact absurd rfl e
        | tail _ h => exact h)]
      rfl
theorem rngI_nodup (lo : Int) (n : Nat) : (rngI lo n).Nodup := by
  unfold rngI
  rw [List.Nodup, List.pairwise_map]
  exact List.Pairwise.imp (fun h => by omega) List.pairwise_lt_range
theorem TabOk.nodup {n : Int} {xs : List Int} (h : TabOk n xs) : xs.Nodup := h.perm.nodup_iff.mpr (rngI_nodup _ _)
theorem TabOk.mem {n v : Int} {xs : List Int} (h : TabOk n xs) (h0 : 0 ≤ v) (h1 : v < n) : v ∈ xs := by
  rw [h.perm.mem_iff, mem_rngI]
  have := h.n0
  omega
theorem filter_one {p : Int → Bool} {w : Int} : ∀ {xs : List Int}, xs.Nodup → w ∈ xs → (∀ x ∈ xs, (p x = true ↔ x = w)) → xs.filter p = [w]
  | x :: xs, hn, hw, h => by
    have hh := h x (List.mem_cons_self ..)
    by_cases e : x = w
    · subst e
      rw [List.filter_cons_of_pos (hh.mpr rfl), List.filter_eq_nil_iff.mpr]
      intro y hy hp
      have z := (h y (List.mem_cons_of_mem _ hy)).mp hp
      subst z
      exact (List.nodup_cons.mp hn).1 hy
    · rw [List.filter_cons_of_neg (fun z => e (hh.mp z))]
      exact filter_one (List.nodup_cons.mp hn).2 (by cases hw with
        | head => exact absurd rfl e
        | tail _ h => exact h) fun y hy => h y (List.mem_cons_of_mem _ hy)
structure GenOk (B : Int) (g : List PyData) : Prop where
  ex : ∃ a b c : Int, g = [.int a, .int b, .int c] ∧ 0 ≤ a ∧ 0 ≤ b ∧ 0 ≤ c ∧ c + B ≤ 1152921504606846976
theorem GenOk.less {B B' : Int} {g : List PyData} (h : GenOk B g) (hb : B' ≤ B) : GenOk B' g :=
  let ⟨a, b, c, e, h1, h2, h3, h4⟩ := h.ex
  ⟨a, b, c, e, h1, h2, h3, by omega⟩
theorem bits_small {b : Int} (h0 : 0 < b) (h1 : b < 1152921504606846976) : ((Builtin.Int.intBits b : Nat) : Int) / 30 ≤ 2 ∧ 0 ≤ ((Builtin.Int.intBits b : Nat) : Int) / 30 := by
  have h : Builtin.Int.intBits b ≤ 60 := by
    unfold Builtin.Int.intBits
    split
    · omega
    · have := log_lt (j := b) (n := 60) (by omega) (by simpa using h1) (by omega)
      omega
  omega
theorem len_rng {lo : Int} {n : Nat} : (rngD lo n).length = n := by unfold rngD; simp
theorem forL_rng {g : PyData → Ev → Res Ev} {b : MS} (R : Nat → Ev → Prop) {n : Nat} {δ : Ev} (h0 : R 0 δ) (h : ∀ k δ, k < n → R k δ → ∃ δ1 δ2, g (.int (k : Int)) δ = .ok δ1 ∧ b δ1 = .ok (.nx, δ2) ∧ R (k + 1) δ2) : ∃ δ', forL g b (rngD 0 (n : Int).toNat) δ = .ok (.nx, δ') ∧ R n δ' := by
  obtain ⟨δ', e, r⟩ := forL_go (g := g) (b := b) R (ds := rngD 0 (n : Int).toNat) h0 (by
    intro i d δ hd r
    have hi : i < n := by
      have z := (List.getElem?_eq_some_iff.mp hd).1
      rw [len_rng] at z
      omega
    have hd2 : d = .int i := by
      unfold rngD at hd
      rw [List.getElem?_map, List.getElem?_range (by simpa using hi)] at hd
      simp at hd
      exact hd.symm
    subst hd2
    exact h i δ hi r)
  rw [len_rng] at r
  exact ⟨δ', e, r⟩
theorem forL_rngZ {g : PyData → Ev → Res Ev} {b : MS} (z : Int) (R : Nat → Ev → Prop) {n : Nat} {δ : Ev} (h0 : R 0 δ) (h : ∀ k δ, k < n → R k δ → ∃ δ1 δ2, g (.int (k : Int)) δ = .ok δ1 ∧ b δ1 = .ok (.nx, δ2) ∧ R (k + 1) δ2) (hz : z = (n : Int) := by rfl) : ∃ δ', forL g b (rngD 0 z.toNat) δ = .ok (.nx, δ') ∧ R n δ' := by
  subst hz
  exact forL_rng R h0 h
theorem forL_list {α : Type} {g : PyData → Ev → Res Ev} {b : MS} (enc : α → PyData) (R : Nat → Ev → Prop) {xs : List α} {δ : Ev} (h0 : R 0 δ) (h : ∀ k x δ, xs[k]? = some x → R k δ → ∃ δ1 δ2, g (enc x) δ = .ok δ1 ∧ b δ1 = .ok (.nx, δ2) ∧ R (k + 1) δ2) : ∃ δ', forL g b (xs.map enc) δ = .ok (.nx, δ') ∧ R xs.length δ' := by
  obtain ⟨δ', e, r⟩ := forL_go (g := g) (b := b) R (ds := xs.map enc) h0 (by
    intro i d δ hd r
    rw [List.getElem?_map] at hd
    cases hq : xs[i]? with
    | none => rw [hq] at hd; cases hd
    | some x => rw [hq] at hd; rw [← Option.some.inj hd]; exact h i x δ hq r)
  rw [List.length_map] at r
  exact ⟨δ', e, r⟩
theorem lcL_ints {α : Type} {g : PyData → Ev → Res Ev} {te : ME} {vs : List Nat} (enc : α → PyData) (f : α → Int) (δ : Ev) (xs : List α) (hl : xs.length ≤ sizeLine) (h : ∀ a ∈ xs, ∃ δ1, g (enc a) δ = .ok δ1 ∧ te δ1 = .ok (.int (f a), δ1) ∧ clr δ1 vs = δ) : lcL g mYes te vs (xs.map enc) [] δ = .ok ((xs.map f).map .int, δ) := by
  have lc := lcL_pure (g := g) (tt := mYes) (te := te) (vs := vs) enc (fun _ => true) (fun a => .int (f a)) δ xs [] (by simpa using hl) (by
    intro a ha
    obtain ⟨δ1, e1, e2, e3⟩ := h a ha
    exact ⟨δ1, e1, rfl, fun _ => e2, e3⟩)
  rw [List.filter_eq_self.mpr (fun _ _ => rfl), List.nil_append, show (fun a => PyData.int (f a)) = PyData.int ∘ f from rfl, ← List.map_map] at lc
  exact lc
theorem lcL_all {α : Type} {g : PyData → Ev → Res Ev} {te : ME} {vs : List Nat} (enc : α → PyData) (f : α → PyData) (δ : Ev) (xs : List α) (hl : xs.length ≤ sizeLine) (h : ∀ a ∈ xs, ∃ δ1, g (enc a) δ = .ok δ1 ∧ te δ1 = .ok (f a, δ1) ∧ clr δ1 vs = δ) : lcL g mYes te vs (xs.map enc) [] δ = .ok (xs.map f, δ) := by
  have lc := lcL_pure (g := g) (tt := mYes) (te := te) (vs := vs) enc (fun _ => true) f δ xs [] (by simpa using hl) (by
    intro a ha
    obtain ⟨δ1, e1, e2, e3⟩ := h a ha
    exact ⟨δ1, e1, rfl, fun _ => e2, e3⟩)
  rw [List.filter_eq_self.mpr (fun _ _ => rfl), List.nil_append] at lc
  exact lc
theorem lcL_rngI {g : PyData → Ev → Res Ev} {te : ME} {vs : List Nat} (f : Nat → Int) (δ : Ev) (n : Nat) (hl : n ≤ 1000000) (h : ∀ k, k < n → ∃ δ1, g (.int (k : Int)) δ = .ok δ1 ∧ te δ1 = .ok (.int (f k), δ1) ∧ clr δ1 vs = δ) : lcL g mYes te vs (rngD 0 (n : Int).toNat) [] δ = .ok (((List.range n).map f).map .int, δ) := by
  have z := lcL_ints (g := g) (te := te) (vs := vs) (fun (k : Nat) => PyData.int (k : Int)) f δ (List.range n) (by rw [List.length_range, sizeLine_eq]; omega) fun k hk => h k (List.mem_range.mp hk)
  rw [← rngD_nat] at z
  exact z
theorem lcL_rng {g : PyData → Ev → Res Ev} {te : ME} {vs : List Nat} (f : Nat → PyData) (δ : Ev) (n : Nat) (hl : n ≤ 1000000) (h : ∀ k, k < n → ∃ δ1, g (.int (k : Int)) δ = .ok δ1 ∧ te δ1 = .ok (f k, δ1) ∧ clr δ1 vs = δ) : lcL g mYes te vs (rngD 0 (n : Int).toNat) [] δ = .ok ((List.range n).map f, δ) := by
  have z := lcL_all (g := g) (te := te) (vs := vs) (fun (k : Nat) => PyData.int (k : Int)) f δ (List.range n) (by rw [List.length_range, sizeLine_eq]; omega) fun k hk => h k (List.mem_range.mp hk)
  rw [← rngD_nat] at z
  exact z
structure Latin (n : Nat) (t : List (List Int)) : Prop where
  two : 2 ≤ n
  small : n ≤ 64
  len : t.length = n
  row : ∀ s, s < n → (t.getD s []).Perm (rngI 0 n)
  col : ∀ x, x < n → (t.map fun r => r.getD x 0).Perm (rngI 0 n)
abbrev sqD (t : List (List Int)) : PyData := .list (t.map fun r => lI r)
def E (t : List (List Int)) (s x : Nat) : Nat := ((t.getD s []).getD x 0).toNat
section
variable {n : Nat} {t : List (List Int)}
theorem Latin.rlen (h : Latin n t) {s : Nat} (hs : s < n) : (t.getD s []).length = n := by rw [(h.row s hs).length_eq, rngI_len]
theorem getD_mem {xs : List Int} {i : Nat} (h : i < xs.length) : xs.getD i 0 ∈ xs := by
  rw [List.getD_eq_getElem?_getD, List.getElem?_eq_getElem h]
  exact List.getElem_mem _
theorem Latin.ent (h : Latin n t) {s x : Nat} (hs : s < n) (hx : x < n) : (t.getD s []).getD x 0 = (E t s x : Int) ∧ E t s x < n := by
  have m : (t.getD s []).getD x 0 ∈ t.getD s [] := getD_mem (by rw [h.rlen hs]; exact hx)
  have q := mem_rngI.mp ((h.row s hs).mem_iff.mp m)
  unfold E
  omega
theorem Latin.lt (h : Latin n t) {s x : Nat} (hs : s < n) (hx : x < n) : E t s x < n := (h.ent hs hx).2
theorem Latin.ixr (h : Latin n t) {s : Nat} (hs : s < n) : fIx (sqD t) (.int (s : Int)) = .ok (lI (t.getD s [])) := fIx_ls (by rw [h.len]; exact hs)
theorem Latin.ix (h : Latin n t) {s x : Nat} (hs : s < n) (hx : x < n) : fIx (lI (t.getD s [])) (.int (x : Int)) = .ok (.int (E t s x : Nat)) := by
  rw [← (h.ent hs hx).1]
  exact fIx_li (by rw [h.rlen hs]; exact hx)
theorem list_range {xs : List Int} : xs = (List.range xs.length).map fun i => xs.getD i 0 := by
  apply List.ext_getElem
  · simp
  · intro i h1 h2
    simp [List.getD_eq_getElem?_getD, h1]
theorem rngI_cast (n : Nat) : rngI 0 n = (List.range n).map fun (i : Nat) => (i : Int) := by
  unfold rngI
  apply List.map_congr_left
  intro a _
  omega
theorem perm_cast {xs ys : List Nat} (h : (xs.map fun (i : Nat) => (i : Int)).Perm (ys.map fun (i : Nat) => (i : Int))) : xs.Perm ys := by
  have z := h.map Int.toNat
  rw [List.map_map, List.map_map] at z
  have e : (Int.toNat ∘ fun (i : Nat) => (i : Int)) = id := by funext i; exact Int.toNat_natCast i
  rw [e, List.map_id, List.map_id] at z
  exact z
theorem Latin.rowN (h : Latin n t) {s : Nat} (hs : s < n) : ((List.range n).map (E t s)).Perm (List.range n) := by
  apply perm_cast
  rw [← rngI_cast, List.map_map]
  have e : (List.range n).map ((fun (i : Nat) => (i : Int)) ∘ E t s) = t.getD s [] := by
    rw [list_range (xs := t.getD s []), h.rlen hs]
    apply List.map_congr_left
    intro x hx
    exact (h.ent hs (List.mem_range.mp hx)).1.symm
  rw [e]
  exact h.row s hs
theorem Latin.colN (h : Latin n t) {x : Nat} (hx : x < n) : ((List.range n).map fun s => E t s x).Perm (List.range n) := by
  apply perm_cast
  rw [← rngI_cast, List.map_map]
  have e : (List.range n).map ((fun (i : Nat) => (i : Int)) ∘ fun s => E t s x) = t.map fun r => r.getD x 0 := by
    apply List.ext_getElem
    · simp [h.len]
    · intro i h1 h2
      have hi : i < n := by simpa using h1
      have hi2 : i < t.length := by rw [h.len]; exact hi
      rw [List.getElem_map, List.getElem_map, List.getElem_range]
      have q := (h.ent hi hx).1
      have z : t.getD i [] = t[i] := by rw [List.getD_eq_getElem?_getD, List.getElem?_eq_getElem hi2]; rfl
      rw [z] at q
      exact q.symm
  rw [e]
  exact h.col x hx
theorem nodup_range_map {f : Nat → Nat} (h : ((List.range n).map f).Perm (List.range n)) {a b : Nat} (ha : a < n) (hb : b < n) (e : f a = f b) : a = b := by
  have nd : ((List.range n).map f).Nodup := h.nodup_iff.mpr List.nodup_range
  have la : a < ((List.range n).map f).length := by simpa using ha
  have lb : b < ((List.range n).map f).length := by simpa using hb
  exact (List.getElem_inj (h₀ := la) (h₁ := lb) nd).mp (by rw [List.getElem_map, List.getElem_map, List.getElem_range, List.getElem_range]; exact e)
theorem Latin.inj_col (h : Latin n t) {a b x : Nat} (ha : a < n) (hb : b < n) (hx : x < n) (e : E t a x = E t b x) : a = b := nodup_range_map (h.colN hx) ha hb e
theorem sumN_perm {f : Nat → Nat} (g : Nat → Nat) (h : ((List.range n).map f).Perm (List.range n)) : sumN n (fun x => g (f x)) = sumN n g := by
  have z := (h.map g).sum_nat
  rw [List.map_map, sum_range] at z
  rw [← sum_range n g]
  exact z
/-- just one sign leads from s to e -/
theorem Latin.once (h : Latin n t) {s e : Nat} (hs : s < n) (he : e < n) (c : Nat) : sumN n (fun x => if E t s x = e then c else 0) = c := by
  have z := sumN_perm (fun y => if y = e then c else 0) (h.rowN hs)
  rw [sumN_one he] at z
  exact z
end
theorem ty_is_between {i lo hi : Int} : F_is_between [iV i, iV lo, iV hi] = .ok (.val (.bool (decide (lo ≤ i) && decide (i ≤ hi))), [iV i, iV lo, iV hi]) := by
  apply ev_fn
  show m_is_between [iV i, iV lo, iV hi] = _
  apply ev_seq
  · apply ev_ifF
    decreasing_with first | (with_reducible exact ty_is_whole)
  have e1 : mOrV (mOp fIsN (mVar 1) (mC .none)) (mOp fGeI (mVar 0) (mVar 1)) [iV i, iV lo, iV hi] = .ok (.bool (decide (lo ≤ i)), [iV i, iV lo, iV hi]) := by
    apply ev_orVF
    decreasing_with first | ((show fIsN _ _ = _; rfl))
  have e2 : mOrV (mOp fIsN (mVar 2) (mC .none)) (mOp fLeI (mVar 0) (mVar 2)) [iV i, iV lo, iV hi] = .ok (.bool (decide (i ≤ hi)), [iV i, iV lo, iV hi]) := by
    apply ev_orVF
    decreasing_with first | ((show fIsN _ _ = _; rfl))
  have e3 := ev_andV e1 (fun _ => e2)
  decreasing_with first | (with_reducible exact e3)
theorem btw_ok {c : Int} {n : Nat} (h0 : 0 ≤ c) (h1 : c < n) : F_is_between [iV c, iV 0, iV ((n : Int) - 1)] = .ok (.val (.bool true), [iV c, iV 0, iV ((n : Int) - 1)]) := by
  have z := ty_is_between (i := c) (lo := 0) (hi := (n : Int) - 1)
  rwa [decide_eq_true h0, decide_eq_true (show c ≤ (n : Int) - 1 by omega)] at z
theorem ty_row_of_fits {n : Nat} {v : List Int} (hl : v.length = n) (hn : n ≤ 1000) (h : ∀ c ∈ v, 0 ≤ c ∧ c < (n : Int)) : F_row_of_fits [iV n, .val (lI v)] = .ok (.val (.bool true), [iV n, .val (lI v)]) := by
  have lc := lcL_pure (g := cg_row_of_fits_0) (tt := ct_row_of_fits_0) (te := ce_row_of_fits_0) (vs := [2]) PyData.int (fun _ => false) PyData.int [iV n, .val (lI v), .emp] v [] (by rw [sizeLine_eq]; show 0 + _ ≤ _; omega) (by
    intro c hc
    have q := h c hc
    refine ⟨[iV n, .val (lI v), iV c], rfl, ?_, fun z => (nomatch z), rfl⟩
    show ct_row_of_fits_0 [iV n, .val (lI v), iV c] = _
    decreasing_with first | (with_reducible exact btw_ok q.1 q.2))
  have fl : v.filter (fun _ => false) = [] := by rw [List.filter_eq_nil_iff]; simp
  rw [fl] at lc
  have ln : fLen [lI v] = .ok (iV n) := by rw [fLen_li, hl]
  apply ev_fn
  show m_row_of_fits [iV n, .val (lI v), .emp] = _
  apply ev_seq
  · apply ev_ifF
    · apply ev_orF
      decreasing_with first | (with_reducible exact ln)
      decreasing_with first | (with_reducible exact ln)
    · simp
    decreasing_with fail
  decreasing_with first | (focus ((with_reducible show lcL _ _ _ _ _ _ _ = _); exact lc)) | ((focus ((with_reducible show fEq _ _ = _); rfl)))
theorem ty_all_once {n : Nat} {v : List Int} (hn : n ≤ 1000) (h : v.Perm (rngI 0 n)) : F_all_once [iV n, .val (lI v)] = .ok (.val (.bool true), [iV n, .val (lI v)]) := by
  have hl : v.length = n := by rw [h.length_eq, rngI_len]
  have rf := ty_row_of_fits hl hn fun c hc => by
    have := mem_rngI.mp (h.mem_iff.mp hc)
    omega
  have nd : v.Nodup := h.nodup_iff.mpr (rngI_nodup 0 n)
  have ls : mLenSet (mVar 1) [iV n, .val (lI v)] = .ok (.int (n : Int), [iV n, .val (lI v)]) := ev_lenSet (ev_var rfl) (by omega) (by rw [unlike_nodup nd, hl])
  apply ev_fn
  show m_all_once [iV n, .val (lI v)] = _
  · apply ev_ret
    apply ev_val
    apply ev_andVT
    · decreasing_with first | (with_reducible exact rf)
    · rfl
    apply ev_op
    · exact ls
    · decreasing_with fail
    rw [fEq_i]
    simp
  decreasing_with fail
theorem ty_square_fits {n : Nat} {t : List (List Int)} (h : Latin n t) : F_square_fits [.val (sqD t)] = .ok (.val (.bool true), [.val (sqD t)]) := by
  have h2 := h.two
  have hs := h.small
  have hl := h.len
  have ln : fLen [sqD t] = .ok (iV n) := by rw [fLen_ls, hl]
  have lc0 := lcL_pure (g := cg_square_fits_0) (tt := ct_square_fits_0) (te := ce_square_fits_0) (vs := [1]) (fun r : List Int => lI r) (fun _ => false) (fun r => lI r) [.val (sqD t), .emp, .emp] t [] (by rw [sizeLine_eq]; show 0 + _ ≤ _; omega) (by
    intro r hr
    obtain ⟨i, hi, rfl⟩ := List.getElem_of_mem hr
    have z : t.getD i [] = t[i] := by rw [List.getD_eq_getElem?_getD, List.getElem?_eq_getElem hi]; rfl
    have ao := ty_all_once (n := n) (by omega) (h.row i (by omega))
    rw [z] at ao
    refine ⟨[.val (sqD t), .val (lI t[i]), .emp], rfl, ?_, fun z => (nomatch z), rfl⟩
    show ct_square_fits_0 [.val (sqD t), .val (lI t[i]), .emp] = _
    decreasing_with first | (with_reducible exact ln) | (with_reducible exact ao))
  have lc2 := lcL_pure (g := cg_square_fits_2) (tt := ct_square_fits_2) (te := ce_square_fits_2) (vs := [2]) (fun (i : Nat) => PyData.int (i : Int)) (fun _ => false) (fun i => .int (i : Int)) [.val (sqD t), .emp, .emp] (List.range n) [] (by rw [sizeLine_eq]; simp; omega) (by
    intro x hx
    have hx' := List.mem_range.mp hx
    have lc1 := lcL_ints (g := cg_square_fits_1) (te := ce_square_fits_1) (vs := [1]) (fun r : List Int => lI r) (fun r => r.getD x 0) [.val (sqD t), .emp, iV x] t (by rw [sizeLine_eq]; omega) (by
      intro r hr
      obtain ⟨i, hi, rfl⟩ := List.getElem_of_mem hr
      have z : t.getD i [] = t[i] := by rw [List.getD_eq_getElem?_getD, List.getElem?_eq_getElem hi]; rfl
      have rl := h.rlen (s := i) (by omega)
      rw [z] at rl
      have g : fIx (lI t[i]) (.int (x : Int)) = .ok (.int (t[i].getD x 0)) := fIx_li (by omega)
      refine ⟨[.val (sqD t), .val (lI t[i]), iV x], rfl, ?_, rfl⟩
      show ce_square_fits_1 [.val (sqD t), .val (lI t[i]), iV x] = _
      decreasing_with first | (with_reducible exact g))
    replace lc1 : lcL cg_square_fits_1 ct_square_fits_1 ce_square_fits_1 [1] (t.map fun r => lI r) [] [.val (sqD t), .emp, iV x] = _ := lc1
    have ao := ty_all_once (n := n) (by omega) (h.col x hx')
    refine ⟨[.val (sqD t), .emp, iV x], rfl, ?_, fun z => (nomatch z), rfl⟩
    show ct_square_fits_2 [.val (sqD t), .emp, iV x] = _
    decreasing_with first | (with_reducible exact ln) | (focus ((with_reducible show lcL _ _ _ _ _ _ _ = _); exact lc1)) | (with_reducible exact ao))
  have f0 : t.filter (fun _ => false) = [] := by rw [List.filter_eq_nil_iff]; simp
  have f2 : (List.range n).filter (fun _ => false) = [] := by rw [List.filter_eq_nil_iff]; simp
  rw [f0] at lc0
  rw [f2, ← rngD_nat] at lc2
  have hr : rOk (n : Int) = true := rOk_small (by omega) (by omega)
  replace lc2 : lcL cg_square_fits_2 ct_square_fits_2 ce_square_fits_2 [2] (rngD 0 (n : Int).toNat) [] [.val (sqD t), .emp, .emp] = .ok ([], [.val (sqD t), .emp, .emp]) := lc2
  apply ev_fn
  show m_square_fits [.val (sqD t), .emp, .emp] = _
  apply ev_seq
  · apply ev_ifF
    · apply ev_orF
      decreasing_with first | (with_reducible exact ln)
      decreasing_with first | (with_reducible exact ln)
    · simp; omega
    decreasing_with fail
  apply ev_seq
  · apply ev_ifF
    decreasing_with first | (focus ((with_reducible show lcL _ _ _ _ _ _ _ = _); exact lc0)) | ((focus ((with_reducible show fNe _ _ = _); rfl)))
  decreasing_with first | (with_reducible exact ln) | (with_reducible exact hr) | (focus ((with_reducible show lcL _ _ _ _ _ _ _ = _); exact lc2)) | ((focus ((with_reducible show fEq _ _ = _); rfl)))
abbrev chD (t : List (List Int)) (st en : Nat) : PyData := .tuple [sqD t, .int (st : Int), .int (en : Int)]
structure ChainOk (n : Nat) (t : List (List Int)) (st en : Nat) : Prop where
  lat : Latin n t
  s : st < n
  e : en < n
theorem ty_chain_fits {n : Nat} {t : List (List Int)} {st en : Nat} (h : ChainOk n t st en) : F_chain_fits [.val (chD t st en)] = .ok (.val (.bool true), [.val (chD t st en)]) := by
  have h2 := h.lat.two
  have hs := h.lat.small
  have ln : fLen [sqD t] = .ok (iV n) := by rw [fLen_ls, h.lat.len]
  have b1 := btw_ok (c := (st : Int)) (n := n) (by omega) (by have := h.s; omega)
  have b2 := btw_ok (c := (en : Int)) (n := n) (by omega) (by have := h.e; omega)
  have lc := lcL_pure (g := cg_chain_fits_0) (tt := ct_chain_fits_0) (te := ce_chain_fits_0) (vs := [1]) (fun (i : Nat) => PyData.int (i : Int)) (fun _ => false) (fun i => .int (i : Int)) [.val (chD t st en), .emp] [st, en] [] (by rw [sizeLine_eq]; simp) (by
    intro c hc
    refine ⟨[.val (chD t st en), iV c], rfl, ?_, fun z => (nomatch z), rfl⟩
    show ct_chain_fits_0 [.val (chD t st en), iV c] = _
    rw [List.mem_cons, List.mem_singleton] at hc
    rcases hc with rfl | rfl
    · decreasing_with first | (with_reducible exact ln) | (with_reducible exact b1) | ((focus ((with_reducible show fIx (chD _ _ _) _ = _); rfl)))
    · decreasing_with first | (with_reducible exact ln) | (with_reducible exact b2) | ((focus ((with_reducible show fIx (chD _ _ _) _ = _); rfl))))
  replace lc : lcL cg_chain_fits_0 ct_chain_fits_0 ce_chain_fits_0 [1] [.int (st : Int), .int (en : Int)] [] [.val (chD t st en), .emp] = .ok ([], [.val (chD t st en), .emp]) := lc
  have l3 : fLen [chD t st en] = .ok (iV 3) := rfl
  apply ev_fn
  show m_chain_fits [.val (chD t st en), .emp] = _
  apply ev_seq
  · apply ev_ifF
    · apply ev_orF
      · decreasing_with fail
      · rfl
      apply ev_orF
      · decreasing_with first | (with_reducible exact l3)
      · rfl
      decreasing_with first | (with_reducible exact ty_square_fits h.lat)
    · rfl
    decreasing_with fail
  decreasing_with first | (focus ((with_reducible show lcL _ _ _ _ _ _ _ = _); exact lc)) | ((focus ((with_reducible show fEq _ _ = _); rfl)))
theorem ty_check_chain {n : Nat} {t : List (List Int)} {st en : Nat} (h : ChainOk n t st en) : F_check_chain [.val (chD t st en)] = .ok (.val .none, [.val (chD t st en)]) := by
  apply ev_fnN
  show m_check_chain [.val (chD t st en)] = _
  apply ev_ifF
  decreasing_with first | (with_reducible exact ty_chain_fits h)
def bwD (n : Nat) : PyData → Bool
  | .int i => decide (0 ≤ i) && decide (i ≤ (n : Int) - 1)
  | _ => false
def flatB : PyData → Bool
  | .none | .bool _ | .int _ | .str _ => true
  | _ => false
theorem ty_btwD {n : Nat} {d : PyData} (h : flatB d = true) : F_is_between [.val d, iV 0, iV ((n : Int) - 1)] = .ok (.val (.bool (bwD n d)), [.val d, iV 0, iV ((n : Int) - 1)]) := by
  cases d with
  | int i => exact ty_is_between
  | none => rfl
  | bool b => cases b <;> rfl
  | str z => rfl
  | list _ => cases h
  | tuple _ => cases h
  | dict _ => cases h
/-- a loop that puts things behind a list -/
theorem forL_app {α β : Type} {g : PyData → Ev → Res Ev} {b : MS} (enc : α → PyData) (f : α → List β) (B : Nat) (R : List β → Ev → Prop) : ∀ (xs : List α) {acc : List β} {δ : Ev}, acc.length + (xs.flatMap f).length ≤ B → R acc δ →
    (∀ a ∈ xs, ∀ acc δ, acc.length + (f a).length ≤ B → R acc δ → ∃ δ1 δ2, g (enc a) δ = .ok δ1 ∧ b δ1 = .ok (.nx, δ2) ∧ R (acc ++ f a) δ2) → ∃ δ', forL g b (xs.map enc) δ = .ok (.nx, δ') ∧ R (acc ++ xs.flatMap f) δ'
  | [], acc, δ, _, r, _ => ⟨δ, rfl, by rw [List.flatMap_nil, List.append_nil]; exact r⟩
  | a :: xs, acc, δ, hl, r, h => by
    rw [List.flatMap_cons, List.length_append] at hl
    obtain ⟨δ1, δ2, e1, e2, r2⟩ := h a (List.mem_cons_self ..) acc δ (by omega) r
    obtain ⟨δ', e3, r3⟩ := forL_app enc f B R xs (acc := acc ++ f a) (δ := δ2) (by rw [List.length_append]; omega) r2 fun x hx => h x (List.mem_cons_of_mem _ hx)
    refine ⟨δ', by rw [List.map_cons, forL_cons e1 e2, e3], ?_⟩
    rw [List.flatMap_cons, ← List.append_assoc]
    exact r3
theorem flatMap_le {α β : Type} {f : α → List β} {m : Nat} : ∀ {xs : List α}, (∀ x ∈ xs, (f x).length ≤ m) → (xs.flatMap f).length ≤ xs.length * m
  | [], _ => by simp
  | x :: xs, h => by
    have a := flatMap_le (xs := xs) fun y hy => h y (List.mem_cons_of_mem _ hy)
    have b := h x (List.mem_cons_self ..)
    rw [List.flatMap_cons, List.length_append, List.length_cons, Nat.add_mul]
    omega
def upN (x n : Nat) : List Nat := (List.range (n - (x + 1))).map (· + (x + 1))
theorem mem_upN {x n y : Nat} : y ∈ upN x n ↔ x < y ∧ y < n := by
  unfold upN
  rw [List.mem_map]
  constructor
  · rintro ⟨i, hi, rfl⟩
    have := List.mem_range.mp hi
    omega
  · rintro ⟨h1, h2⟩
    exact ⟨y - (x + 1), List.mem_range.mpr (by omega), by omega⟩
theorem upN_len (x n : Nat) : (upN x n).length = n - (x + 1) := by unfold upN; simp
def condS (t : List (List Int)) (s x y : Nat) : Bool := E t (E t s x) y == E t (E t s y) x
def swR (t : List (List Int)) (n s x : Nat) : List (Nat × Nat × Nat) := ((upN x n).filter fun y => condS t s x y).map fun y => (s, x, y)
def swS (t : List (List Int)) (n s : Nat) : List (Nat × Nat × Nat) := (List.range n).flatMap fun x => swR t n s x
def swL (t : List (List Int)) (n : Nat) : List (Nat × Nat × Nat) := (List.range n).flatMap fun s => swS t n s
def trD (q : Nat × Nat × Nat) : PyData := .tuple [.int (q.1 : Int), .int (q.2.1 : Int), .int (q.2.2 : Int)]
theorem swR_len (t : List (List Int)) (n s x : Nat) : (swR t n s x).length ≤ n := by
  unfold swR
  rw [List.length_map]
  exact Nat.le_trans (List.length_filter_le ..) (by rw [upN_len]; omega)
theorem swS_len (t : List (List Int)) (n s : Nat) : (swS t n s).length ≤ n * n := by
  have z := flatMap_le (f := fun x => swR t n s x) (xs := List.range n) (m := n) fun x _ => swR_len t n s x
  rwa [List.length_range] at z
theorem swL_len (t : List (List Int)) (n : Nat) : (swL t n).length ≤ n * (n * n) := by
  have z := flatMap_le (f := fun s => swS t n s) (xs := List.range n) (m := n * n) fun s _ => swS_len t n s
  rwa [List.length_range] at z
theorem swL_mem {t : List (List Int)} {n : Nat} {q : Nat × Nat × Nat} (h : q ∈ swL t n) : q.1 < n ∧ q.2.1 < n ∧ q.2.2 < n := by
  obtain ⟨s, hs, h⟩ := List.mem_flatMap.mp h
  obtain ⟨x, hx, h⟩ := List.mem_flatMap.mp h
  obtain ⟨y, hy, rfl⟩ := List.mem_map.mp h
  have q := mem_upN.mp (List.mem_filter.mp hy).1
  exact ⟨List.mem_range.mp hs, List.mem_range.mp hx, q.2⟩
theorem swL_small {n : Nat} (hn : n ≤ 64) (t : List (List Int)) : (swL t n).length ≤ 262144 := Nat.le_trans (swL_len t n) (Nat.le_trans (Nat.mul_le_mul hn (Nat.mul_le_mul hn hn)) (by decide))
theorem up_rng (x n : Nat) : ((upN x n).map fun (y : Nat) => PyData.int (y : Int)) = rngD ((x : Int) + 1) (n - (x + 1)) := by
  unfold upN rngD
  rw [List.map_map]
  apply List.map_congr_left
  intro i _
  show PyData.int ((i + (x + 1) : Nat) : Int) = PyData.int _
  congr 1
  omega
theorem drop_rng (x n : Nat) : (rngD 0 n).drop (x + 1) = rngD ((x : Int) + 1) (n - (x + 1)) := by
  unfold rngD
  apply List.ext_getElem
  · simp
  · intro i h1 h2
    simp only [List.getElem_drop, List.getElem_map, List.getElem_range]
    congr 1
    omega
def powP (n : Int) (k : Nat) : Int := (List.range k).foldl (fun s _ => s * n) 1
theorem powP_nat (n : Nat) : ∀ k, powP (n : Int) k = ((n ^ k : Nat) : Int) := by
  intro k
  have e : ∀ (xs : List Nat) (s : Int), xs.foldl (fun s _ => s * (n : Int)) s = s * ((n ^ xs.length : Nat) : Int) := by
    intro xs
    induction xs with
    | nil => intro s; simp
    | cons x xs ih => intro s; rw [List.foldl_cons, ih, List.length_cons, Nat.pow_succ, Nat.mul_comm, Int.natCast_mul, Int.mul_assoc]
  unfold powP
  rw [e, List.length_range, Int.one_mul]
def W (n m : Nat) (b : Bool) : Nat := if m = 0 then (if b = true then 1 else 0) else n ^ (m - 1)
theorem W_zero (n : Nat) (b : Bool) : W n 0 b = if b = true then 1 else 0 := rfl
theorem W_succ (n m : Nat) (b : Bool) : W n (m + 1) b = n ^ m := by
  unfold W
  rw [if_neg (by omega), Nat.add_sub_cancel]
theorem W_le {n m K : Nat} {b : Bool} (h : n ^ (m - 1) ≤ K) (hK : 1 ≤ K) : W n m b ≤ K := by
  unfold W
  split
  · split <;> omega
  · exact h
/-- two kinds of power loops -/
theorem natmul {a b : Nat} (hb : b < 18446744073709551616) : fMulI (.int (a : Int)) (.int (b : Int)) = .ok (.int ((a * b : Nat) : Int)) := by
  rw [Int.natCast_mul]
  exact fMulI_ok (.inr ⟨by omega, by omega⟩)
theorem natmulL {a b : Nat} (ha : a < 18446744073709551616) : fMulI (.int (a : Int)) (.int (b : Int)) = .ok (.int ((a * b : Nat) : Int)) := by
  rw [Int.natCast_mul]
  exact fMulI_ok (.inl ⟨by omega, by omega⟩)
theorem natadd {a b : Nat} : fAdd (.int (a : Int)) (.int (b : Int)) = .ok (.int ((a + b : Nat) : Int)) := rfl
def slipN (t : List (List Int)) (n st en L pl : Nat) : Nat := ((swL t n).map fun q => 2 * W n pl (q.1 == st) * W n (L - pl - 2) (E t (E t q.1 q.2.1) q.2.2 == en)).sum
theorem ixN_nat {n i : Nat} (h : i < n) : ixN n (i : Int) = some i := by
  unfold ixN
  rw [if_pos (by omega), if_pos (by omega)]
  rfl
abbrev lN (xs : List Nat) : List PyData := xs.map fun (v : Nat) => PyData.int (v : Int)
theorem atI_nat {xs : List Nat} {i : Nat} (h : i < xs.length) : atI (lN xs) (i : Int) = some (.int (xs.getD i 0 : Nat)) := by
  rw [atI_map _ _ _ h, List.getD_eq_getElem?_getD, List.getElem?_eq_getElem h]; rfl
theorem fIx_nat {xs : List Nat} {i : Nat} (h : i < xs.length) : fIx (.list (lN xs)) (.int (i : Int)) = .ok (.int (xs.getD i 0 : Nat)) := by
  show (match atI (lN xs) (i : Int) with | some d => Res.ok d | none => .no) = _
  rw [atI_nat h]
theorem getD_mapR {f : Nat → Nat} {n i : Nat} (h : i < n) : ((List.range n).map f).getD i 0 = f i := by
  rw [List.getD_eq_getElem?_getD, List.getElem?_map, List.getElem?_range h]; rfl
theorem forL_upto {g : PyData → Ev → Res Ev} {b : MS} (enc : Nat → PyData) (R : Nat → Ev → Prop) {n : Nat} {δ : Ev} (h0 : R 0 δ) (h : ∀ k δ, k < n → R k δ → ∃ δ1 δ2, g (enc k) δ = .ok δ1 ∧ b δ1 = .ok (.nx, δ2) ∧ R (k + 1) δ2) : ∃ δ', forL g b ((List.range n).map enc) δ = .ok (.nx, δ') ∧ R n δ' := by
  obtain ⟨δ', e, r⟩ := forL_list (g := g) (b := b) enc R (xs := List.range n) h0 (by
    intro k x δ hk r
    have hkn : k < n := by
      have z := (List.getElem?_eq_some_iff.mp hk).1
      simpa using z
    rw [List.getElem?_range hkn] at hk
    rw [← Option.some.inj hk]
    exact h k δ hkn r)
  rw [List.length_range] at r
  exact ⟨δ', e, r⟩
theorem Latin.rowD {n : Nat} {t : List (List Int)} (h : Latin n t) {s : Nat} (hs : s < n) : (t.getD s []).map PyData.int = (List.range n).map fun i => .int (E t s i : Nat) := by
  rw [list_range (xs := t.getD s []), h.rlen hs, List.map_map]
  apply List.map_congr_left
  intro x hx
  show PyData.int ((t.getD s []).getD x 0) = _
  rw [(h.ent hs (List.mem_range.mp hx)).1]
def hitS (t : List (List Int)) (s k j : Nat) : Bool := (List.range k).any fun i => E t s i == j
theorem hit_succ (t : List (List Int)) (s k j : Nat) : hitS t s (k + 1) j = (hitS t s k j || E t s k == j) := by
  unfold hitS
  rw [List.range_succ, List.any_append]
  simp
theorem Latin.hit_new {n : Nat} {t : List (List Int)} (h : Latin n t) {s k : Nat} (hs : s < n) (hk : k < n) : hitS t s k (E t s k) = false := by
  unfold hitS
  rw [List.any_eq_false]
  intro i hi
  have hi' := List.mem_range.mp hi
  intro z
  have e : E t s i = E t s k := beq_iff_eq.mp z
  have := nodup_range_map (h.rowN hs) (show i < n by omega) hk e
  omega
theorem Latin.hit_all {n : Nat} {t : List (List Int)} (h : Latin n t) {s j : Nat} (hs : s < n) (hj : j < n) : hitS t s n j = true := by
  have m : j ∈ (List.range n).map (E t s) := (h.rowN hs).mem_iff.mpr (List.mem_range.mpr hj)
  obtain ⟨i, hi, e⟩ := List.mem_map.mp m
  unfold hitS
  rw [List.any_eq_true]
  exact ⟨i, hi, beq_iff_eq.mpr e⟩
def stepL (t : List (List Int)) (n s b m k : Nat) : List Nat := (List.range n).map fun j => b + if hitS t s k j = true then m else 0
theorem stepL_set {n : Nat} {t : List (List Int)} (h : Latin n t) {s k b m : Nat} (hs : s < n) (hk : k < n) : (stepL t n s b m k).set (E t s k) ((stepL t n s b m k).getD (E t s k) 0 + m) = stepL t n s b m (k + 1) := by
  have he := h.lt hs hk
  have hn := h.hit_new hs hk
  unfold stepL
  rw [getD_mapR he, hn]
  apply List.ext_getElem
  · simp
  · intro i h1 h2
    have hi : i < n := by simpa using h2
    rw [List.getElem_set, List.getElem_map, List.getElem_map, List.getElem_range, hit_succ]
    by_cases e : E t s k = i
    · rw [if_pos e, beq_iff_eq.mpr e]
      simp
    · rw [if_neg e, beq_eq_false_iff_ne.mpr e]
      simp
def codes (n : Nat) : Nat → List (List Nat)
  | 0 => [[]]
  | L + 1 => (codes n L).flatMap fun c => (List.range n).map fun x => c ++ [x]
def lastN (t : List (List Int)) (s : Nat) (c : List Nat) : Nat := c.foldl (E t) s
def sumL {α : Type} (xs : List α) (f : α → Nat) : Nat := (xs.map f).sum
theorem lN_app (xs ys : List Nat) : lN (xs ++ ys) = lN xs ++ lN ys := List.map_append
theorem sumL_nil {α : Type} (f : α → Nat) : sumL [] f = 0 := rfl
theorem sumL_cons {α : Type} (x : α) (xs : List α) (f : α → Nat) : sumL (x :: xs) f = f x + sumL xs f := by
  show ((x :: xs).map f).sum = _
  rw [List.map_cons, List.sum_cons]
  rfl
theorem sumL_app {α : Type} (xs ys : List α) (f : α → Nat) : sumL (xs ++ ys) f = sumL xs f + sumL ys f := by unfold sumL; rw [List.map_append, List.sum_append]
theorem sumL_flat {α β : Type} (g : α → List β) (f : β → Nat) : ∀ xs : List α, sumL (xs.flatMap g) f = sumL xs fun a => sumL (g a) f
  | [] => rfl
  | x :: xs => by rw [List.flatMap_cons, sumL_app, sumL_cons, sumL_flat g f xs]
theorem sumL_map {α β : Type} (g : α → β) (f : β → Nat) (xs : List α) : sumL (xs.map g) f = sumL xs fun a => f (g a) := by unfold sumL; rw [List.map_map]; rfl
theorem sumL_range (n : Nat) (f : Nat → Nat) : sumL (List.range n) f = sumN n f := sum_range n f
theorem sumL_cg {α : Type} {xs : List α} {f g : α → Nat} (h : ∀ x ∈ xs, f x = g x) : sumL xs f = sumL xs g := by unfold sumL; rw [List.map_congr_left h]
theorem sumL_const {α : Type} (xs : List α) (c : Nat) : sumL xs (fun _ => c) = xs.length * c := by
  induction xs with
  | nil => simp [sumL]
  | cons x xs ih => rw [sumL_cons, ih, List.length_cons, Nat.add_mul]; omega
theorem sumL_swap {α : Type} (xs : List α) (n : Nat) (f : α → Nat → Nat) : sumL xs (fun a => sumN n (f a)) = sumN n fun i => sumL xs fun a => f a i := by
  induction xs with
  | nil => exact (sumN_zero n).symm
  | cons x xs ih =>
    rw [sumL_cons, ih, ← sumN_add]
    exact sumN_cg fun i _ => (sumL_cons x xs fun a => f a i).symm
theorem sumL_mul {α : Type} (xs : List α) (c : Nat) (f : α → Nat) : sumL xs (fun a => f a * c) = sumL xs f * c := by
  induction xs with
  | nil => simp [sumL]
  | cons x xs ih => rw [sumL_cons, sumL_cons, ih, Nat.add_mul]
theorem codes_len (n : Nat) : ∀ L, (codes n L).length = n ^ L
  | 0 => rfl
  | L + 1 => by
    have z : sumL (codes n (L + 1)) (fun _ => 1) = sumL (codes n L) fun _ => n := by
      show sumL ((codes n L).flatMap _) _ = _
      rw [sumL_flat]
      exact sumL_cg fun c _ => by rw [sumL_const, List.length_map, List.length_range, Nat.mul_one]
    rw [sumL_const, sumL_const, codes_len n L] at z
    rw [Nat.pow_succ]
    omega
theorem codes_ok {n : Nat} : ∀ {L : Nat} {c : List Nat}, c ∈ codes n L → c.length = L ∧ ∀ x ∈ c, x < n
  | 0, c, h => by
    have : c = [] := by simpa [codes] using h
    subst this
    exact ⟨rfl, fun _ h => (nomatch h)⟩
  | L + 1, c, h => by
    obtain ⟨d, hd, h2⟩ := List.mem_flatMap.mp h
    obtain ⟨x, hx, rfl⟩ := List.mem_map.mp h2
    have ⟨a, b⟩ := codes_ok hd
    refine ⟨by simp [a], fun y hy => ?_⟩
    rcases List.mem_append.mp hy with z | z
    · exact b y z
    · rw [List.mem_singleton] at z
      subst z
      exact List.mem_range.mp hx
theorem codes_add (n a : Nat) : ∀ b, codes n (a + b) = (codes n a).flatMap fun u => (codes n b).map fun v => u ++ v
  | 0 => by
    show codes n a = _
    have e : (fun u : List Nat => (codes n 0).map fun v => u ++ v) = fun u => [u] := by
      funext u
      show [u ++ []] = [u]
      rw [List.append_nil]
    rw [e]
    generalize codes n a = xs
    induction xs with
    | nil => rfl
    | cons x xs ih => rw [List.flatMap_cons, ← ih]; rfl
  | b + 1 => by
    show (codes n (a + b)).flatMap _ = _
    rw [codes_add n a b, List.flatMap_assoc]
    congr 1
    funext u
    show ((codes n b).map fun v => u ++ v).flatMap _ = ((codes n b).flatMap _).map _
    rw [List.flatMap_map, List.map_flatMap]
    congr 1
    funext v
    rw [List.map_map]
    apply List.map_congr_left
    intro x _
    show u ++ v ++ [x] = u ++ (v ++ [x])
    rw [List.append_assoc]
section
variable {n : Nat} {t : List (List Int)}
theorem Latin.last_lt (h : Latin n t) : ∀ {c : List Nat} {s : Nat}, s < n → (∀ x ∈ c, x < n) → lastN t s c < n
  | [], s, hs, _ => hs
  | x :: c, s, hs, hc => h.last_lt (s := E t s x) (c := c) (h.lt hs (hc x (List.mem_cons_self ..))) fun y hy => hc y (List.mem_cons_of_mem _ hy)
theorem Latin.last_inj (h : Latin n t) : ∀ {c : List Nat} {a b : Nat}, a < n → b < n → (∀ x ∈ c, x < n) → lastN t a c = lastN t b c → a = b
  | [], _, _, _, _, _, e => e
  | x :: c, a, b, ha, hb, hc, e => by
    have hx := hc x (List.mem_cons_self ..)
    have z := h.last_inj (c := c) (h.lt ha hx) (h.lt hb hx) (fun y hy => hc y (List.mem_cons_of_mem _ hy)) e
    exact h.inj_col ha hb hx z
/-- lists of m signs that lead from s to e -/
theorem Latin.count (h : Latin n t) {s e : Nat} (hs : s < n) (he : e < n) : ∀ m, sumL (codes n m) (fun w => if lastN t s w = e then 1 else 0) = W n m (s == e)
  | 0 => by
    rw [W_zero]
    show (if lastN t s [] = e then 1 else 0) + 0 = _
    by_cases q : s = e
    · rw [if_pos (show lastN t s [] = e from q), if_pos (beq_iff_eq.mpr q)]
      rfl
    · rw [if_neg (show ¬ lastN t s [] = e from q), if_neg (by simpa using q)]
      rfl
  | m + 1 => by
    rw [W_succ, ← codes_len]
    show sumL ((codes n m).flatMap _) _ = _
    rw [sumL_flat]
    have z : sumL (codes n m) (fun w => sumL ((List.range n).map fun x => w ++ [x]) fun w => if lastN t s w = e then 1 else 0) = sumL (codes n m) fun _ => 1 := by
      refine sumL_cg fun w hw => ?_
      rw [sumL_map, sumL_range]
      have l := h.last_lt (c := w) hs (codes_ok hw).2
      have o := h.once l he 1
      refine (sumN_cg fun x _ => ?_).trans o
      have q : lastN t s (w ++ [x]) = E t (lastN t s w) x := by unfold lastN; rw [List.foldl_append]; rfl
      rw [q]
    rw [z, sumL_const, Nat.mul_one]
theorem Latin.group (h : Latin n t) {st : Nat} (hs : st < n) (pl : Nat) (G : Nat → Nat) : sumL (codes n pl) (fun u => G (lastN t st u)) = sumN n fun s => W n pl (st == s) * G s := by
  have e1 : sumL (codes n pl) (fun u => G (lastN t st u)) = sumL (codes n pl) fun u => sumN n fun s => (if lastN t st u = s then 1 else 0) * G s := by
    refine sumL_cg fun u hu => ?_
    have l := h.last_lt (c := u) hs (codes_ok hu).2
    rw [← sumN_one l (G (lastN t st u))]
    refine sumN_cg fun s _ => ?_
    by_cases q : s = lastN t st u
    · rw [if_pos q, if_pos q.symm, q, Nat.one_mul]
    · rw [if_neg q, if_neg (fun z => q z.symm), Nat.zero_mul]
  rw [e1, sumL_swap]
  refine sumN_cg fun s hsn => ?_
  rw [sumL_mul, h.count hs hsn]
end
theorem sum_up (x : Nat) (f : Nat → Nat) : ∀ n, sumL (upN x n) f = sumN n fun y => if x < y then f y else 0
  | 0 => by
    have e : upN x 0 = [] := by unfold upN; rw [Nat.zero_sub]; rfl
    rw [e]; rfl
  | n + 1 => by
    show _ = (sumN n fun y => if x < y then f y else 0) + if x < n then f n else 0
    rw [← sum_up x f n]
    by_cases h : x < n
    · rw [if_pos h]
      have e : upN x (n + 1) = upN x n ++ [n] := by
        unfold upN
        rw [show n + 1 - (x + 1) = (n - (x + 1)) + 1 by omega, List.range_succ, List.map_append]
        congr 1
        show [n - (x + 1) + (x + 1)] = [n]
        rw [Nat.sub_add_cancel h]
      rw [e, sumL_app]
      rfl
    · rw [if_neg h]
      have e1 : upN x (n + 1) = [] := by unfold upN; rw [show n + 1 - (x + 1) = 0 by omega]; rfl
      have e2 : upN x n = [] := by unfold upN; rw [show n - (x + 1) = 0 by omega]; rfl
      rw [e1, e2]
      rfl
theorem sumL_filter {α : Type} (p : α → Bool) (f : α → Nat) : ∀ xs : List α, sumL (xs.filter p) f = sumL xs fun a => if p a = true then f a else 0
  | [] => rfl
  | x :: xs => by
    rw [sumL_cons, ← sumL_filter p f xs]
    by_cases h : p x = true
    · rw [List.filter_cons_of_pos h, sumL_cons, if_pos h]
    · rw [List.filter_cons_of_neg h, if_neg h, Nat.zero_add]
theorem lN_lI (c : List Nat) : PyData.list (lN c) = lI (c.map fun (i : Nat) => (i : Int)) := by
  show PyData.list _ = PyData.list _
  rw [List.map_map]; rfl
theorem shaped_lN (c : List Nat) : SeqAt.shaped (.list (lN c)) = true := by rw [lN_lI]; exact shaped_lI _
theorem fNe_nat0 {cs : List Nat} (h : cs ≠ []) : fEq (.list (lN cs)) (.list []) = .ok (.bool false) := by
  have z : fEq (.list (lN cs)) (.list []) = .ok (.bool (PyData.eqv (.list (lN cs)) (.list []))) := if_pos ⟨shaped_lN _, rfl⟩
  rw [z]
  cases cs with
  | nil => exact absurd rfl h
  | cons c cs => rfl
theorem ty_check_list {n : Nat} {t : List (List Int)} {st en : Nat} {c : List Nat} (h : ChainOk n t st en) (hc : ∀ x ∈ c, x < n) (h0 : c ≠ []) (hl : c.length ≤ 100000) : F_check_list [.val (chD t st en), .val (.list (lN c))] = .ok (.val .none, [.val (chD t st en), .val (.list (lN c))]) := by
  have h2 := h.lat.two
  have hs := h.lat.small
  have ln : fLen [sqD t] = .ok (iV n) := by rw [fLen_ls, h.lat.len]
  have lc := lcL_pure (g := cg_check_list_0) (tt := ct_check_list_0) (te := ce_check_list_0) (vs := [2]) (fun (i : Nat) => PyData.int (i : Int)) (fun _ => false) (fun i => .int (i : Int)) [.val (chD t st en), .val (.list (lN c)), .emp] c [] (by rw [sizeLine_eq]; simp; omega) (by
    intro x hx
    have hxn := hc x hx
    have b1 := btw_ok (c := (x : Int)) (n := n) (by omega) (by omega)
    refine ⟨[.val (chD t st en), .val (.list (lN c)), iV x], rfl, ?_, fun z => (nomatch z), rfl⟩
    show ct_check_list_0 [.val (chD t st en), .val (.list (lN c)), iV x] = _
    decreasing_with first | (with_reducible exact ln) | (with_reducible exact b1) | ((focus ((with_reducible show fIx (chD _ _ _) _ = _); rfl))))
  have fl : c.filter (fun _ => false) = [] := by rw [List.filter_eq_nil_iff]; simp
  rw [fl] at lc
  have ne := fNe_nat0 h0
  apply ev_fnN
  show m_check_list [.val (chD t st en), .val (.list (lN c)), .emp] = _
  apply ev_seq
  · decreasing_with first | (with_reducible exact ty_check_chain h)
  apply ev_seq
  · apply ev_ifF
    · apply ev_orF
      · decreasing_with fail
      · rfl
      decreasing_with first | (with_reducible exact ne)
    · rfl
    decreasing_with fail
  apply ev_ifF
  decreasing_with first | (focus ((with_reducible show lcL _ _ _ _ _ _ _ = _); exact lc)) | ((focus ((with_reducible show fNe _ _ = _); rfl)))
def pathN (t : List (List Int)) (s : Nat) : List Nat → List Nat
  | [] => [s]
  | x :: c => s :: pathN t (E t s x) c
theorem path_len (t : List (List Int)) : ∀ (c : List Nat) (s : Nat), (pathN t s c).length = c.length + 1
  | [], _ => rfl
  | x :: c, s => by
    show (pathN t (E t s x) c).length + 1 = _
    rw [path_len t c, List.length_cons]
theorem path_app (t : List (List Int)) (x : Nat) : ∀ (c : List Nat) (s : Nat), pathN t s (c ++ [x]) = pathN t s c ++ [E t (lastN t s c) x]
  | [], _ => rfl
  | y :: c, s => by
    show s :: pathN t (E t s y) (c ++ [x]) = s :: (pathN t (E t s y) c ++ [E t (lastN t (E t s y) c) x])
    rw [path_app t x c]
theorem path_last (t : List (List Int)) : ∀ (c : List Nat) (s : Nat), (pathN t s c).getD c.length 0 = lastN t s c
  | [], _ => rfl
  | y :: c, s => by
    show (pathN t (E t s y) c).getD c.length 0 = lastN t (E t s y) c
    exact path_last t c _
theorem atI_last {xs : List PyData} {d : PyData} (h : xs.getLast? = some d) (hl : xs.length ≤ 100000) : atI xs (-1) = some d := by
  have hne : xs ≠ [] := by rintro rfl; cases h
  have h0 : 0 < xs.length := List.length_pos_iff.mpr hne
  unfold atI ixN
  rw [if_neg (by omega), if_pos (by omega)]
  show xs[((-1 : Int) + (xs.length : Int)).toNat]? = _
  rw [show ((-1 : Int) + (xs.length : Int)).toNat = xs.length - 1 by omega, ← List.getLast?_eq_getElem?]
  exact h
theorem path_at {t : List (List Int)} {c : List Nat} {s : Nat} (hl : c.length ≤ 90000) : atI (lN (pathN t s c)) (-1) = some (.int (lastN t s c : Nat)) := by
  have pl := path_len t c s
  refine atI_last ?_ (by rw [List.length_map]; omega)
  rw [List.getLast?_eq_getElem?, List.getElem?_map, List.length_map, pl, Nat.add_sub_cancel]
  have z := path_last t c s
  rw [List.getD_eq_getElem?_getD, List.getElem?_eq_getElem (show c.length < (pathN t s c).length by omega)] at z
  rw [List.getElem?_eq_getElem (show c.length < (pathN t s c).length by omega)]
  show some (PyData.int _) = _
  rw [← z]; rfl
theorem path_ix {t : List (List Int)} {c : List Nat} {s : Nat} (hl : c.length ≤ 90000) : fIx (.list (lN (pathN t s c))) (.int (-1)) = .ok (.int (lastN t s c : Nat)) := by
  show (match atI (lN (pathN t s c)) (-1) with | some d => Res.ok d | none => .no) = _
  rw [path_at hl]
theorem take_lt {n : Nat} {c : List Nat} (hc : ∀ x ∈ c, x < n) (k : Nat) : ∀ x ∈ c.take k, x < n := fun x hx => hc x (List.mem_of_mem_take hx)
theorem drop_lt {n : Nat} {c : List Nat} (hc : ∀ x ∈ c, x < n) (k : Nat) : ∀ x ∈ c.drop k, x < n := fun x hx => hc x (List.mem_of_mem_drop hx)
theorem take_suc {α : Type} {c : List α} {k : Nat} {x : α} (h : c[k]? = some x) : c.take (k + 1) = c.take k ++ [x] := by
  rw [List.take_succ, h]; rfl
theorem ty_states_in {n : Nat} {t : List (List Int)} {s : Nat} {c : List Nat} (h : Latin n t) (hs : s < n) (hc : ∀ x ∈ c, x < n) (hl : c.length ≤ 10000) : F_states_in [.val (sqD t), iV s, .val (.list (lN c))] = .ok (.own (lN (pathN t s c)), [.val (sqD t), iV s, .val (.list (lN c))]) := by
  obtain ⟨δ', e, k4, rfl⟩ := forL_list (g := g_states_in_0) (b := b_states_in_0) (fun (x : Nat) => PyData.int (x : Int)) (fun k δ => ∃ k4, δ = [.val (sqD t), iV s, .val (.list (lN c)), .own (lN (pathN t s (c.take k))), k4]) (xs := c) (δ := [.val (sqD t), iV s, .val (.list (lN c)), .own [.int (s : Int)], .emp]) ⟨_, rfl⟩ (by
    rintro k x δ hk ⟨k4, rfl⟩
    have hxn := hc x (List.mem_of_getElem? hk)
    have ll := h.last_lt (c := c.take k) hs (take_lt hc k)
    have tl : (c.take k).length ≤ 10000 := by rw [List.length_take]; omega
    have pa := path_at (t := t) (c := c.take k) (s := s) (by omega)
    have pl := path_len t (c.take k) s
    have r0 := h.ixr ll
    have i0 := h.ix ll hxn
    have ap : fAppend (lN (pathN t s (c.take k))) [.int (E t (lastN t s (c.take k)) x : Nat)] = .ok (.none, lN (pathN t s (c.take (k + 1)))) := by
      rw [take_suc hk, path_app, lN_app]
      exact if_pos (by rw [sizeLine_eq, List.length_map]; omega)
    have iv : mIxV 3 (mNeg (mC (.int 1))) [.val (sqD t), iV s, .val (.list (lN c)), .own (lN (pathN t s (c.take k))), iV x] = .ok (.int (lastN t s (c.take k) : Nat), [.val (sqD t), iV s, .val (.list (lN c)), .own (lN (pathN t s (c.take k))), iV x]) := by
      apply ev_ixo rfl rfl
      · decreasing_with fail
      · rfl
      · rfl
      exact pa
    refine ⟨[.val (sqD t), iV s, .val (.list (lN c)), .own (lN (pathN t s (c.take k))), iV x], [.val (sqD t), iV s, .val (.list (lN c)), .own (lN (pathN t s (c.take (k + 1)))), iV x], rfl, ?_, ⟨_, rfl⟩⟩
    show b_states_in_0 [.val (sqD t), iV s, .val (.list (lN c)), .own (lN (pathN t s (c.take k))), iV x] = _
    decreasing_with first | (with_reducible exact iv) | (with_reducible exact r0) | (with_reducible exact i0) | (with_reducible exact ap))
  rw [List.take_length] at e
  replace e : forL g_states_in_0 b_states_in_0 (lN c) [.val (sqD t), iV s, .val (.list (lN c)), .own [.int (s : Int)], .emp] = _ := e
  apply ev_fn
  show m_states_in [.val (sqD t), iV s, .val (.list (lN c)), .emp, .emp] = _
  decreasing_with first | (with_reducible apply ev_for (h2 := e))
theorem ty_states_of {n : Nat} {t : List (List Int)} {st en : Nat} {c : List Nat} (h : ChainOk n t st en) (hc : ∀ x ∈ c, x < n) (h0 : c ≠ []) (hl : c.length ≤ 10000) : F_states_of [.val (chD t st en), .val (.list (lN c))] = .ok (.own (lN (pathN t st c)), [.val (chD t st en), .val (.list (lN c))]) := by
  apply ev_fn
  show m_states_of [.val (chD t st en), .val (.list (lN c))] = _
  decreasing_with first | (with_reducible exact ty_check_list h hc h0 (by omega)) | ((focus ((with_reducible show fIx (chD _ _ _) _ = _); rfl))) | (with_reducible exact ty_states_in h.lat h.s hc hl)
theorem ty_is_right_chain {n : Nat} {t : List (List Int)} {st en : Nat} {c : List Nat} (h : ChainOk n t st en) (hc : ∀ x ∈ c, x < n) (h0 : c ≠ []) (hl : c.length ≤ 10000) : F_is_right_chain [.val (chD t st en), .val (.list (lN c))] = .ok (.val (.bool (lastN t st c == en)), [.val (chD t st en), .val (.list (lN c))]) := by
  have pi := path_ix (t := t) (c := c) (s := st) (by omega)
  have eb : ((lastN t st c : Int) == (en : Int)) = (lastN t st c == en) := by
    rw [Bool.eq_iff_iff, beq_iff_eq, beq_iff_eq]
    omega
  have fe : fEq (.int (lastN t st c : Nat)) (.int (en : Int)) = .ok (.bool (lastN t st c == en)) := by rw [fEq_i, eb]
  apply ev_fn
  show m_is_right_chain [.val (chD t st en), .val (.list (lN c))] = _
  decreasing_with first | (with_reducible exact ty_check_list h hc h0 (by omega)) | ((focus ((with_reducible show fIx (chD _ _ _) _ = _); rfl))) | (with_reducible exact ty_states_in h.lat h.s hc hl) | (with_reducible exact pi) | (with_reducible exact fe)
theorem ty_check_number {i lo hi : Int} (h0 : lo ≤ i) (h1 : i ≤ hi) : F_check_number [iV i, iV lo, iV hi] = .ok (.val .none, [iV i, iV lo, iV hi]) := by
  have b := ty_is_between (i := i) (lo := lo) (hi := hi)
  rw [decide_eq_true h0, decide_eq_true h1] at b
  apply ev_fnN
  show m_check_number [iV i, iV lo, iV hi] = _
  apply ev_ifF
  decreasing_with first | (with_reducible exact b)
theorem col_at {n : Nat} {t : List (List Int)} (h : Latin n t) {i x : Nat} (hi : i < n) (hx : x < n) : (t.map fun r => r.getD x 0).getD i 0 = (E t i x : Int) := by
  have hi2 : i < t.length := by rw [h.len]; exact hi
  have q := (h.ent hi hx).1
  rw [List.getD_eq_getElem?_getD, List.getElem?_map, List.getElem?_eq_getElem hi2]
  have z : t.getD i [] = t[i] := by rw [List.getD_eq_getElem?_getD, List.getElem?_eq_getElem hi2]; rfl
  rw [z] at q
  exact q
theorem back_at {n : Nat} {t : List (List Int)} (h : Latin n t) {e x : Nat} (he : e < n) (hx : x < n) : ∃ i, i < n ∧ E t i x = e ∧ idxD (.int (e : Int)) ((t.map fun r => r.getD x 0).map .int) = some i := by
  have p := h.col x hx
  have m : (e : Int) ∈ t.map fun r => r.getD x 0 := p.mem_iff.mpr (mem_rngI.mpr (by omega))
  have l := ixP_lt m
  have hl : (t.map fun r => r.getD x 0).length = n := by rw [List.length_map, h.len]
  have g := ixP_get m
  rw [hl] at l
  rw [col_at h l hx] at g
  exact ⟨_, l, by omega, idxD_ints m⟩
theorem row_at {n : Nat} {t : List (List Int)} (h : Latin n t) {e s : Nat} (he : e < n) (hs : s < n) : ∃ i, i < n ∧ E t s i = e ∧ idxD (.int (e : Int)) ((t.getD s []).map .int) = some i := by
  have p := h.row s hs
  have m : (e : Int) ∈ t.getD s [] := p.mem_iff.mpr (mem_rngI.mpr (by omega))
  have l := ixP_lt m
  have hl := h.rlen hs
  have g := ixP_get m
  rw [hl] at l
  rw [(h.ent hs l).1] at g
  exact ⟨_, l, by omega, idxD_ints m⟩
def putN (c : List Nat) (p x : Nat) : List Nat := c.take p ++ [x] ++ c.drop (p + 1)
theorem putN_last (t : List (List Int)) (s : Nat) (c : List Nat) (p x : Nat) : lastN t s (putN c p x) = lastN t (E t (lastN t s (c.take p)) x) (c.drop (p + 1)) := by
  unfold putN lastN
  simp [List.foldl_append]
theorem putN_lt {n : Nat} {c : List Nat} (hc : ∀ x ∈ c, x < n) {p x : Nat} (hx : x < n) : ∀ y ∈ putN c p x, y < n := by
  intro y hy
  unfold putN at hy
  rw [List.mem_append, List.mem_append, List.mem_singleton] at hy
  rcases hy with (hy | rfl) | hy
  · exact take_lt hc _ y hy
  · exact hx
  · exact drop_lt hc _ y hy
theorem putN_len {c : List Nat} {p x : Nat} (hp : p < c.length) : (putN c p x).length = c.length := by
  unfold putN
  simp
  omega
theorem putN_ne {c : List Nat} {p x : Nat} : putN c p x ≠ [] := by
  unfold putN
  simp
/-- the one sign that may stand there -/
def SignOk (n : Nat) (t : List (List Int)) (st en : Nat) (c : List Nat) (p x : Nat) : Prop := x < n ∧ lastN t st (putN c p x) = en
theorem SignOk.uniq {n : Nat} {t : List (List Int)} {st en : Nat} {c : List Nat} {p x y : Nat} (h : Latin n t) (hs : st < n) (hc : ∀ x ∈ c, x < n) (hx : SignOk n t st en c p x) (hy : SignOk n t st en c p y) : x = y := by
  have a := hx.2
  have b := hy.2
  rw [putN_last] at a b
  have l := h.last_lt (c := c.take p) hs (take_lt hc p)
  have e := h.last_inj (c := c.drop (p + 1)) (h.lt l hx.1) (h.lt l hy.1) (drop_lt hc _) (a.trans b.symm)
  exact nodup_range_map (h.rowN l) hx.1 hy.1 e
theorem ty_sign_at {n : Nat} {t : List (List Int)} {st en : Nat} {c : List Nat} {p : Nat} (h : ChainOk n t st en) (hc : ∀ x ∈ c, x < n) (hp : p < c.length) (hl : c.length ≤ 10000) : ∃ x, SignOk n t st en c p x ∧ F_sign_at [.val (chD t st en), .val (.list (lN c)), iV p] = .ok (iV x, [.val (chD t st en), .val (.list (lN c)), iV p]) := by
  have h0 : c ≠ [] := by rintro rfl; exact absurd hp (by simp)
  have hs := h.lat.small
  obtain ⟨δ', e, eb, j6, heb, hbk, rfl⟩ := forL_list (g := g_sign_at_0) (b := b_sign_at_0) (fun (x : Nat) => PyData.int (x : Int)) (fun k δ => ∃ e j6, e < n ∧ lastN t e ((c.drop (p + 1)).reverse.take k).reverse = en ∧ δ = [.val (chD t st en), .val (.list (lN c)), iV p, .val (sqD t), iV st, iV (e : Nat), j6, .emp]) (xs := (c.drop (p + 1)).reverse) (δ := [.val (chD t st en), .val (.list (lN c)), iV p, .val (sqD t), iV st, iV en, .emp, .emp]) ⟨en, .emp, h.e, rfl, rfl⟩ (by
    rintro k x δ hk ⟨e, j6, he, hb, rfl⟩
    have hxm : x ∈ c.drop (p + 1) := List.mem_reverse.mp (List.mem_of_getElem? hk)
    have hxn := drop_lt hc (p + 1) x hxm
    obtain ⟨i, hi, hie, hix⟩ := back_at h.lat he hxn
    have lc := lcL_ints (g := cg_sign_at_0) (te := ce_sign_at_0) (vs := [7]) (fun r : List Int => lI r) (fun r => r.getD x 0) [.val (chD t st en), .val (.list (lN c)), iV p, .val (sqD t), iV st, iV (e : Nat), iV x, .emp] t (by rw [sizeLine_eq, h.lat.len]; omega) (by
      intro r hr
      obtain ⟨i, hi, rfl⟩ := List.getElem_of_mem hr
      have z : t.getD i [] = t[i] := by rw [List.getD_eq_getElem?_getD, List.getElem?_eq_getElem hi]; rfl
      have hil : i < n := by rw [← h.lat.len]; exact hi
      have rl := h.lat.rlen hil
      rw [z] at rl
      have g : fIx (lI t[i]) (.int (x : Int)) = .ok (.int (t[i].getD x 0)) := fIx_li (by omega)
      refine ⟨[.val (chD t st en), .val (.list (lN c)), iV p, .val (sqD t), iV st, iV (e : Nat), iV x, .val (lI t[i])], rfl, ?_, rfl⟩
      show ce_sign_at_0 [.val (chD t st en), .val (.list (lN c)), iV p, .val (sqD t), iV st, iV (e : Nat), iV x, .val (lI t[i])] = _
      decreasing_with first | (with_reducible exact g))
    replace lc : lcL cg_sign_at_0 ct_sign_at_0 ce_sign_at_0 [7] (t.map fun r => lI r) [] [.val (chD t st en), .val (.list (lN c)), iV p, .val (sqD t), iV st, iV (e : Nat), iV x, .emp] = _ := lc
    refine ⟨[.val (chD t st en), .val (.list (lN c)), iV p, .val (sqD t), iV st, iV (e : Nat), iV x, .emp], [.val (chD t st en), .val (.list (lN c)), iV p, .val (sqD t), iV st, iV (i : Nat), iV x, .emp], rfl, ?_, ⟨i, iV x, hi, ?_, rfl⟩⟩
    · show b_sign_at_0 [.val (chD t st en), .val (.list (lN c)), iV p, .val (sqD t), iV st, iV (e : Nat), iV x, .emp] = _
      decreasing_with first | (focus ((with_reducible show lcL _ _ _ _ _ _ _ = _); exact lc)) | (with_reducible exact hix) | ((exact ⟨shaped_lI _, rfl⟩))
    · rw [take_suc hk, List.reverse_append]
      show lastN t (E t i x) _ = en
      rw [hie]
      exact hb)
  rw [List.take_length, List.reverse_reverse] at hbk
  have e' : forL g_sign_at_0 b_sign_at_0 (lN (c.drop (p + 1)).reverse) [.val (chD t st en), .val (.list (lN c)), iV p, .val (sqD t), iV st, iV en, .emp, .emp] = .ok (.nx, [.val (chD t st en), .val (.list (lN c)), iV p, .val (sqD t), iV st, iV (eb : Nat), j6, .emp]) := e
  have rv : fRevTo (.list (lN c)) (some (p : Int)) = .ok (.own (lN (c.drop (p + 1)).reverse)) := by
    show (if (0 : Int) ≤ (p : Int) then Res.ok (Sl.own ((lN c).drop ((p : Int).toNat + 1)).reverse) else Res.no) = _
    rw [if_pos (by omega), Int.toNat_natCast, lN, lN, List.map_reverse, List.map_drop]
  have s1 : fSl (.list (lN c)) none (some (p : Int)) = .ok (.own (lN (c.take p))) := by
    show Res.ok (Sl.own (CW.cutD (lN c) none (some (p : Int)))) = _
    rw [cut_take, lN, lN, List.map_take]
  have ln : fLen [.list (lN c)] = .ok (iV c.length) := by
    show Res.ok (iV ((lN c).length : Nat)) = _
    rw [List.length_map]
  have cn := ty_check_number (i := (p : Int)) (lo := 0) (hi := (c.length : Int) - 1) (by omega) (by omega)
  have l := h.lat.last_lt (c := c.take p) h.s (take_lt hc p)
  have tl : (c.take p).length ≤ 10000 := by rw [List.length_take]; omega
  have si := ty_states_in h.lat h.s (take_lt hc p) tl
  have pi := path_ix (t := t) (c := c.take p) (s := st) (by omega)
  have r0 := h.lat.ixr l
  obtain ⟨x, hx, hxe, hix⟩ := row_at h.lat heb l
  refine ⟨x, ⟨hx, ?_⟩, ?_⟩
  · rw [putN_last, hxe]
    exact hbk
  apply ev_fn
  show m_sign_at [.val (chD t st en), .val (.list (lN c)), iV p, .emp, .emp, .emp, .emp, .emp] = _
  decreasing_with first | (with_reducible exact ty_check_list h hc h0 (by omega)) | (with_reducible exact ln) | (with_reducible exact cn) | (with_reducible exact rv) | (with_reducible apply ev_for (h2 := e')) | (with_reducible exact s1) | (with_reducible exact si) | (with_reducible exact pi) | (with_reducible exact r0) | (with_reducible exact hix) | ((exact ⟨shaped_lI _, rfl⟩)) | ((focus ((with_reducible show fIx (chD _ _ _) _ = _); rfl)))
theorem ty_times_over {n : Int} {k : Nat} (h0 : 0 ≤ n) (h1 : n < 1000000) (hk : k ≤ 100000) : F_times_over [iV n, iV k] = .ok (iV (powP n k), [iV n, iV k]) := by
  obtain ⟨δ', e1, j, rfl⟩ := forL_fold (g := g_times_over_0) (b := b_times_over_0) (fun i : Nat => PyData.int (i : Int)) (fun (s : Int) δ => ∃ j, δ = [iV n, iV k, iV s, j]) (fun s _ => s * n) (List.range k) (s := 1) (δ := [iV n, iV k, iV 1, .emp]) ⟨_, rfl⟩ (by
    rintro s a δ ha ⟨j, rfl⟩
    refine ⟨_, [iV n, iV k, iV (s * n), iV a], rfl, ?_, ⟨_, rfl⟩⟩
    show b_times_over_0 [iV n, iV k, iV s, iV a] = _
    decreasing_with fail)
  have hr : rOk (k : Int) = true := decide_eq_true (by omega)
  rw [← rngD_nat] at e1
  replace e1 : forL g_times_over_0 b_times_over_0 (rngD 0 (k : Int).toNat) [iV n, iV k, iV 1, .emp] = _ := e1
  apply ev_fn
  show m_times_over [iV n, iV k, .emp, .emp] = _
  decreasing_with first | (with_reducible apply ev_for (h2 := e1)) | (with_reducible exact hr)
theorem ty_is_betweenN {i lo : Int} (h : lo ≤ i) : F_is_between [iV i, iV lo, .val .none] = .ok (.val (.bool true), [iV i, iV lo, .val .none]) := by
  refine ev_fn (δ1 := [iV i, iV lo, .val .none]) ?_ rfl
  show m_is_between [iV i, iV lo, .val .none] = _
  apply ev_seq
  · apply ev_ifF
    decreasing_with first | (with_reducible exact ty_is_whole)
    decreasing_with fail
  decreasing_with fail
  have e1 : mOrV (mOp fIsN (mVar 1) (mC .none)) (mOp fGeI (mVar 0) (mVar 1)) [iV i, iV lo, .val .none] = .ok (.bool true, [iV i, iV lo, .val .none]) := by
    apply ev_orVF
    decreasing_with first | ((show fIsN _ _ = _; rfl))
    have g : fGeI (.int i) (.int lo) = .ok (.bool true) := by rw [fGeI_i, decide_eq_true h]
    decreasing_with first | (with_reducible exact g)
  have e2 : mOrV (mOp fIsN (mVar 2) (mC .none)) (mOp fLeI (mVar 0) (mVar 2)) [iV i, iV lo, .val .none] = .ok (.bool true, [iV i, iV lo, .val .none]) := by
    apply ev_orVT
    decreasing_with first | ((show fIsN _ _ = _; rfl))
    decreasing_with fail
  have e3 := ev_andV e1 (fun _ => e2)
  rw [Bool.true_and] at e3
  decreasing_with first | (with_reducible exact e3)
theorem ty_check_numberN {i lo : Int} (h : lo ≤ i) : F_check_number [iV i, iV lo, .val .none] = .ok (.val .none, [iV i, iV lo, .val .none]) := by
  apply ev_fnN
  show m_check_number [iV i, iV lo, .val .none] = _
  apply ev_ifF
  decreasing_with first | (with_reducible exact ty_is_betweenN h)
theorem ty_how_many_right_lists {n : Nat} {t : List (List Int)} {st en L : Nat} (h : ChainOk n t st en) (hL : L ≤ 100) (h1 : 1 ≤ L) : F_how_many_right_lists [.val (chD t st en), iV L] = .ok (iV (n ^ (L - 1) : Nat), [.val (chD t st en), iV L]) := by
  have h2 := h.lat.two
  have hs := h.lat.small
  have ln : fLen [sqD t] = .ok (iV n) := by rw [fLen_ls, h.lat.len]
  have c1 := ty_check_numberN (i := (L : Int)) (lo := 1) (by omega)
  have tm := ty_times_over (n := (n : Int)) (k := L - 1) (by omega) (by omega) (by omega)
  rw [powP_nat, show ((L - 1 : Nat) : Int) = (L : Int) - 1 by omega] at tm
  apply ev_fn
  show m_how_many_right_lists [.val (chD t st en), iV L] = _
  decreasing_with first | (with_reducible exact ty_check_chain h) | (with_reducible exact c1) | (with_reducible exact ln) | (with_reducible exact tm)
def hashI (s i : Int) : Int :=
  ((((s * 1140671 + 27644437 * i * i + 131 * i + 19) % 2147483629) * ((s * 1140671 + 27644437 * i * i + 131 * i + 19) % 2147483629) + 62089 * i + 32416187) % 2147483587 * 48271) % 2147483647
theorem ty__law_hash {s i : Int} (h0 : 0 ≤ i) (h1 : i < 2305843009213693952) : F__law_hash [iV s, iV i] = .ok (iV (hashI s i), [iV s, iV i]) := by
  refine ev_fn (δ1 := [iV s, iV i, iV (((s * 1140671 + 27644437 * i * i + 131 * i + 19) % 2147483629 * ((s * 1140671 + 27644437 * i * i + 131 * i + 19) % 2147483629) + 62089 * i + 32416187) % 2147483587)]) ?_ rfl
  show m__law_hash [iV s, iV i, .emp] = _
  decreasing_with fail
theorem ty__law_random {B : Int} {g : List PyData} {bound : Int} (hg : GenOk (B + 4) g) (h0 : 0 < bound) (h1 : bound < 1152921504606846976) (hB : 0 ≤ B) :
    ∃ r g', 0 ≤ r ∧ r < bound ∧ GenOk B g' ∧ F__law_random [.io 0 g, iV bound] = .ok (iV r, [.io 0 g', iV bound]) := by
  obtain ⟨a, b, c, rfl, ha, hb, hc, hcB⟩ := hg.ex
  have hlog : bound.natAbs.log2 < 9000 := Nat.lt_trans (log_lt (j := bound) (n := 60) (by omega) (by simpa using h1) (by omega)) (by omega)
  by_cases hpos : 0 < a
  · refine ⟨a % bound, [.int (a / bound), .int b, .int c], Int.emod_nonneg _ (by omega), Int.emod_lt_of_pos _ h0, ⟨_, _, _, rfl, Int.ediv_nonneg ha (by omega), hb, hc, by omega⟩, ?_⟩
    refine ev_fn (δ1 := [.io 0 [.int (a / bound), .int b, .int c], iV bound, iV (a % bound), .emp]) ?_ rfl
    show m__law_random [.io 0 [.int a, .int b, .int c], iV bound, .emp, .emp] = _
    refine ev_seqR ?_
    apply ev_ifT
    decreasing_with fail
    · exact decide_eq_true hpos
    decreasing_with fail
  · have bb := bits_small h0 h1
    have hr : rOk (1 + ((Builtin.Int.intBits bound : Nat) : Int) / 30) = true := by unfold rOk; simp; omega
    have lp := forL_go (g := gSet 3) (b := mSeq (mAsg (mOp fAdd (mIxV 0 (mC (.int 2))) (mC (.int 1))) (gsIx 0 (mC (.int 2)))) (mSet 2 (mVal (mOp fAdd (mOp fMulI (mVar 2) (mC (.int 2147483587))) (mFrz (mCallV 2 F__law_hash (mCons (mIxV 0 (mC (.int 1))) (mCons (mIxV 0 (mC (.int 2))) mNil))))))))
      (fun i δ => ∃ d c' j, δ = [.io 0 [.int a, .int b, .int c'], iV bound, iV d, j] ∧ c ≤ c' ∧ c' ≤ c + i) (ds := rngD 0 (1 + ((Builtin.Int.intBits bound : Nat) : Int) / 30).toNat) (δ := [.io 0 [.int a, .int b, .int c], iV bound, iV 0, .emp]) ⟨0, c, .emp, rfl, by omega, by omega⟩ (by
        rintro i e δ he ⟨d, c', j, rfl, h2, h3⟩
        have hlen : i < (rngD 0 (1 + ((Builtin.Int.intBits bound : Nat) : Int) / 30).toNat).length := (List.getElem?_eq_some_iff.mp he).1
        rw [len_rng] at hlen
        refine ⟨_, [.io 0 [.int a, .int b, .int (c' + 1)], iV bound, iV (d * 2147483587 + hashI b (c' + 1)), .val e], rfl, ?_, ⟨_, _, _, rfl, by omega, by omega⟩⟩
        show mSeq _ _ [.io 0 [.int a, .int b, .int c'], iV bound, iV d, .val e] = _
        decreasing_with first | (with_reducible exact ty__law_hash (by omega) (by omega)))
    obtain ⟨δ', e1, d, c', j, rfl, h2, h3⟩ := lp
    rw [len_rng] at h3
    refine ⟨d % bound, [.int a, .int b, .int c'], Int.emod_nonneg _ (by omega), Int.emod_lt_of_pos _ h0, ⟨_, _, _, rfl, ha, hb, by omega, by omega⟩, ?_⟩
    refine ev_fn (δ1 := [.io 0 [.int a, .int b, .int c'], iV bound, iV d, j]) ?_ rfl
    show m__law_random [.io 0 [.int a, .int b, .int c], iV bound, .emp, .emp] = _
    apply ev_seq
    · apply ev_ifF
      decreasing_with fail
      · exact decide_eq_false hpos
      decreasing_with fail
    apply ev_seq
    · decreasing_with fail
    apply ev_seq
    · apply ev_for (h2 := e1)
      apply ev_rng1
      · decreasing_with fail
        trace_state
      · exact hr
    decreasing_with fail
def figS (m : Int) (os : List Int) : Int × List Int := os.foldl (fun s o => (s.1 / o, (s.1 % o) :: s.2)) (m, [])
def figP (os : List Int) (m : Int) : List Int := (figS m os.reverse).2
theorem figP_len (os : List Int) (m : Int) : (figP os m).length = os.length := by
  have fl : ∀ (xs : List Int) (s : Int × List Int), (xs.foldl (fun s o => (s.1 / o, (s.1 % o) :: s.2)) s).2.length = s.2.length + xs.length := by
    intro xs
    induction xs with
    | nil => intro s; rfl
    | cons x xs ih => intro s; rw [List.foldl_cons, ih]; simp; omega
  unfold figP figS
  rw [fl]; simp
def memP (os fs : List Int) : Int := (os.zip fs).foldl (fun s p => s * p.1 + p.2) 0
theorem zpD_ints (os fs : List Int) : zpD (os.map .int) (fs.map .int) = (os.zip fs).map fun p => PyData.tuple [.int p.1, .int p.2] := by
  unfold zpD
  rw [List.zipWith_map, List.zip, List.map_zipWith]
def sumP (os : List Int) (a b : Int) : Int := memP os ((os.zip ((figP os a).zip (figP os b))).map fun p => (p.2.1 + p.2.2) % p.1)
def latB (n : Nat) (t : List (List Int)) : Bool := decide (2 ≤ n) && decide (n ≤ 64) && decide (t.length = n) && (List.range n).all (fun s => (t.getD s []).isPerm (rngI 0 n)) && (List.range n).all fun x => (t.map fun r => r.getD x 0).isPerm (rngI 0 n)
theorem latB_ok {n : Nat} {t : List (List Int)} (h : latB n t = true) : Latin n t := by
  unfold latB at h
  simp only [Bool.and_eq_true, decide_eq_true_eq, List.all_eq_true, List.mem_range] at h
  obtain ⟨⟨⟨⟨a, b⟩, c⟩, d⟩, e⟩ := h
  exact ⟨a, b, c, fun s hs => List.isPerm_iff.mp (d s hs), fun x hx => List.isPerm_iff.mp (e x hx)⟩
def menuA : List (List Int) := [[2], [3], [4], [2, 2], [5], [6], [7], [8], [2, 4], [2, 2, 2], [3, 3], [9], [10], [2, 6]]
def abT (os : List Int) : List (List Int) := (rngI 0 (sizeP os).toNat).map fun a => (rngI 0 (sizeP os).toNat).map fun b => sumP os a b
theorem menuA_lat : menuA.all (fun os => latB (sizeP os).toNat (abT os) && decide ((sizeP os).toNat ≤ 12)) = true := by decide +kernel
def diT (k : Nat) : List (List Int) := (rngI 0 (2 * k)).map fun (a : Int) => (rngI 0 (2 * k)).map fun (b : Int) => (if a < (k : Int) then (a + b) % (k : Int) else (a - b) % (k : Int)) + (k : Int) * (if decide (a < (k : Int)) != decide (b < (k : Int)) then 1 else 0)
theorem diT_lat : [3, 4, 5].all (fun k => latB (2 * k) (diT k)) = true := by decide +kernel
def wts (n : Nat) : List Nat := ((List.range n).drop 1).filter fun w => ((List.range n).drop 2).all fun l => !(n % l == 0 && w % l == 0)
def wT (n w : Nat) : List (List Int) := (List.range n).map fun s => (List.range n).map fun x => (((w * s + x) % n : Nat) : Int)
theorem wT_lat : [3, 4, 5, 6, 7, 8, 9].all (fun n => (wts n).all (fun w => latB n (wT n w) && decide (w < 10)) && !(wts n).isEmpty) = true := by decide +kernel
theorem four_lat : latB 4 (wT 4 3) = true := by decide +kernel
theorem ab0 : F__law_abelian [.val (tI [2])] = .ok (.own ((abT [2]).map fun r => lI r), [.val (tI [2])]) := by kernel_rfl
theorem ab1 : F__law_abelian [.val (tI [3])] = .ok (.own ((abT [3]).map fun r => lI r), [.val (tI [3])]) := by kernel_rfl
theorem ab2 : F__law_abelian [.val (tI [4])] = .ok (.own ((abT [4]).map fun r => lI r), [.val (tI [4])]) := by kernel_rfl
theorem ab3 : F__law_abelian [.val (tI [2, 2])] = .ok (.own ((abT [2, 2]).map fun r => lI r), [.val (tI [2, 2])]) := by kernel_rfl
theorem ab4 : F__law_abelian [.val (tI [5])] = .ok (.own ((abT [5]).map fun r => lI r), [.val (tI [5])]) := by kernel_rfl
theorem ab5 : F__law_abelian [.val (tI [6])] = .ok (.own ((abT [6]).map fun r => lI r), [.val (tI [6])]) := by kernel_rfl
theorem ab6 : F__law_abelian [.val (tI [7])] = .ok (.own ((abT [7]).map fun r => lI r), [.val (tI [7])]) := by kernel_rfl
theorem ab7 : F__law_abelian [.val (tI [8])] = .ok (.own ((abT [8]).map fun r => lI r), [.val (tI [8])]) := by kernel_rfl
theorem ab8 : F__law_abelian [.val (tI [2, 4])] = .ok (.own ((abT [2, 4]).map fun r => lI r), [.val (tI [2, 4])]) := by kernel_rfl
theorem ab9 : F__law_abelian [.val (tI [2, 2, 2])] = .ok (.own ((abT [2, 2, 2]).map fun r => lI r), [.val (tI [2, 2, 2])]) := by kernel_rfl
theorem ab10 : F__law_abelian [.val (tI [3, 3])] = .ok (.own ((abT [3, 3]).map fun r => lI r), [.val (tI [3, 3])]) := by kernel_rfl
theorem ab11 : F__law_abelian [.val (tI [9])] = .ok (.own ((abT [9]).map fun r => lI r), [.val (tI [9])]) := by kernel_rfl
theorem ab12 : F__law_abelian [.val (tI [10])] = .ok (.own ((abT [10]).map fun r => lI r), [.val (tI [10])]) := by kernel_rfl
theorem ab13 : F__law_abelian [.val (tI [2, 6])] = .ok (.own ((abT [2, 6]).map fun r => lI r), [.val (tI [2, 6])]) := by kernel_rfl
theorem ty__law_abelian {os : List Int} (h : os ∈ menuA) : F__law_abelian [.val (tI os)] = .ok (.own ((abT os).map fun r => lI r), [.val (tI os)]) := by
  simp only [menuA, List.mem_cons, List.not_mem_nil, or_false] at h
  rcases h with rfl | rfl | rfl | rfl | rfl | rfl | rfl | rfl | rfl | rfl | rfl | rfl | rfl | rfl
  · exact ab0
  · exact ab1
  · exact ab2
  · exact ab3
  · exact ab4
  · exact ab5
  · exact ab6
  · exact ab7
  · exact ab8
  · exact ab9
  · exact ab10
  · exact ab11
  · exact ab12
  · exact ab13
theorem di3 : F__law_dihedral [iV 3] = .ok (.own ((diT 3).map fun r => lI r), [iV 3]) := by kernel_rfl
theorem di4 : F__law_dihedral [iV 4] = .ok (.own ((diT 4).map fun r => lI r), [iV 4]) := by kernel_rfl
theorem di5 : F__law_dihedral [iV 5] = .ok (.own ((diT 5).map fun r => lI r), [iV 5]) := by kernel_rfl
theorem menu_ix {α : Type} {f : α → PyData} {xs : List α} {r : Int} (r0 : 0 ≤ r) (hr : r.toNat < xs.length) : fIx (.list (xs.map f)) (.int r) = .ok (f xs[r.toNat]) := by
  have e : r = ((r.toNat : Nat) : Int) := by omega
  show (match atI (xs.map f) r with | some d => Res.ok d | none => .no) = _
  conv => lhs; rw [e, atI_map f _ _ hr]
theorem ty__law_group {B : Int} {g : List PyData} (hg : GenOk (B + 8) g) (hB : 0 ≤ B) : ∃ (n : Nat) (t : List (List Int)) (g' : List PyData), Latin n t ∧ n ≤ 12 ∧ GenOk B g' ∧ F__law_group [.io 0 g] = .ok (.own (t.map fun r => lI r), [.io 0 g']) := by
  obtain ⟨r, g1, r0, r1, G1, e1⟩ := ty__law_random (B := B + 4) (g := g) (bound := 4) (hg.less (by omega)) (by omega) (by omega) (by omega)
  by_cases hr : r = 0
  · obtain ⟨q, g2, q0, q1, G2, e2⟩ := ty__law_random (B := B) (g := g1) (bound := 3) (G1.less (by omega)) (by omega) (by omega) (by omega)
    obtain ⟨k, hk, hL, hd⟩ : ∃ k : Nat, 3 + q = k ∧ (Latin (2 * k) (diT k) ∧ 2 * k ≤ 12) ∧ F__law_dihedral [iV (3 + q)] = .ok (.own ((diT k).map fun r => lI r), [iV (3 + q)]) := by
      have z := diT_lat
      simp only [List.all_cons, List.all_nil, Bool.and_eq_true] at z
      obtain rfl | rfl | rfl : q = 0 ∨ q = 1 ∨ q = 2 := by omega
      · exact ⟨3, rfl, ⟨latB_ok z.1, by decide⟩, di3⟩
      · exact ⟨4, rfl, ⟨latB_ok z.2.1, by decide⟩, di4⟩
      · exact ⟨5, rfl, ⟨latB_ok z.2.2.1, by decide⟩, di5⟩
    refine ⟨2 * k, diT k, g2, hL.1, hL.2, G2, ?_⟩
    apply ev_fn
    show m__law_group [.io 0 g, .emp, .emp] = _
    · apply ev_seq
      · decreasing_with first | (with_reducible exact e1)
      apply ev_seqR
      apply ev_ifT
      · decreasing_with fail
      · exact beq_iff_eq.mpr hr
      decreasing_with first | (with_reducible exact e2) | (with_reducible exact hd)
    decreasing_with fail
  · obtain ⟨q, g2, q0, q1, G2, e2⟩ := ty__law_random (B := B) (g := g1) (bound := 14) (G1.less (by omega)) (by omega) (by omega) (by omega)
    have hq : q.toNat < menuA.length := by show q.toNat < 14; omega
    have hm := List.getElem_mem hq
    have ix := menu_ix (f := fun os : List Int => tI os) q0 hq
    have ta := ty__law_abelian hm
    have ln : fLen [.list (menuA.map fun os => tI os)] = .ok (iV 14) := rfl
    have z := List.all_eq_true.mp menuA_lat _ hm
    rw [Bool.and_eq_true] at z
    generalize menuA[q.toNat] = os at *
    refine ⟨(sizeP os).toNat, abT os, g2, latB_ok z.1, of_decide_eq_true z.2, G2, ?_⟩
    apply ev_fn
    show m__law_group [.io 0 g, .emp, .emp] = _
    · apply ev_seq
      · decreasing_with first | (with_reducible exact e1)
      apply ev_seq
      · apply ev_ifF
        · decreasing_with fail
        · exact beq_eq_false_iff_ne.mpr hr
        decreasing_with fail
      apply ev_seq
      · decreasing_with fail
      decreasing_with first | ((focus ((with_reducible show fLen [PyData.list _] = _); exact ln))) | (with_reducible exact e2) | ((focus ((with_reducible show fIx (.list _) (.int q) = _); exact ix))) | (with_reducible exact ta)
    decreasing_with fail
theorem whN_done {c : MT} {b : MS} {n : Nat} {δ δ1 : Ev} (e : c δ = .ok (false, δ1)) : whN c b (n + 1) δ = .ok (.nx, δ1) := by
  rw [whN, e]
theorem whN_step {c : MT} {b : MS} {n : Nat} {δ δ1 δ2 : Ev} (e : c δ = .ok (true, δ1)) (e2 : b δ1 = .ok (.nx, δ2)) : whN c b (n + 1) δ = whN c b n δ2 := by
  rw [whN, e]
  simp only []
  rw [e2]
theorem erase_map {α β : Type} (f : α → β) : ∀ (xs : List α) (i : Nat), (xs.map f).eraseIdx i = (xs.eraseIdx i).map f
  | [], _ => rfl
  | _ :: _, 0 => rfl
  | x :: xs, i + 1 => by
    show f x :: (xs.map f).eraseIdx i = f x :: (xs.eraseIdx i).map f
    rw [erase_map f xs i]
theorem erase_perm {α : Type} : ∀ {xs : List α} {i : Nat} (h : i < xs.length), (xs[i] :: xs.eraseIdx i).Perm xs
  | x :: xs, 0, _ => .refl _
  | x :: xs, i + 1, h => by
    have h' : i < xs.length := by simpa using h
    have z := erase_perm (xs := xs) (i := i) h'
    show (xs[i] :: x :: xs.eraseIdx i).Perm (x :: xs)
    exact (List.Perm.swap ..).trans (z.cons x)
theorem popAt_ok {left : List Int} {r : Int} (h0 : 0 ≤ r) (h1 : r < left.length) (hl : left.length ≤ 1000000) : fPopAt (left.map PyData.int) [.int r] = .ok (.int (left.getD r.toNat 0), (left.eraseIdx r.toNat).map .int) := by
  have hr : r.toNat < left.length := by omega
  have si : seqIndex? r (left.map PyData.int).length = some r.toNat := by
    unfold seqIndex?
    rw [List.length_map]
    simp
    omega
  show (if -(2 ^ 63) ≤ r ∧ r < 2 ^ 63 then _ else _) = _
  rw [if_pos (by omega), si]
  show (match (left.map PyData.int)[r.toNat]? with | some d => Res.ok (d, (left.map PyData.int).eraseIdx r.toNat) | none => .no) = _
  rw [List.getElem?_map, List.getElem?_eq_getElem hr, erase_map, List.getD_eq_getElem?_getD, List.getElem?_eq_getElem hr]
  rfl
theorem append_ok {found : List Int} {x : Int} (hl : found.length ≤ 1000000) : fAppend (found.map PyData.int) [.int x] = .ok (.none, (found ++ [x]).map .int) := by
  rw [List.map_append]
  exact if_pos (by rw [List.length_map, sizeLine_eq]; omega)
theorem erase_perm' {xs : List Int} {i : Nat} (h : i < xs.length) : (xs.getD i 0 :: xs.eraseIdx i).Perm xs := by
  have z := erase_perm h
  rwa [List.getD_eq_getElem?_getD, List.getElem?_eq_getElem h]
theorem ne_nilI {cs : List Int} : fNe (lI cs) (.list []) = .ok (.bool (!cs.isEmpty)) := by
  have z : fNe (lI cs) (.list []) = .ok (.bool (!PyData.eqv (lI cs) (.list []))) := if_pos ⟨shaped_lI _, rfl⟩
  rw [z]
  cases cs <;> rfl
theorem shuf_loop {B : Int} {n : Nat} (hn : n ≤ 100000) (hB : 0 ≤ B) : ∀ (k : Nat) (left found : List Int) (g : List PyData), left.length = k → (found ++ left).Perm (rngI 0 n) → GenOk (B + 4 * k) g → ∃ (m : Nat) (ys : List Int) (g' : List PyData), ys.Perm (rngI 0 n) ∧ GenOk B g' ∧ whN wc__law_shuffled_0 wb__law_shuffled_0 m [.io 0 g, iV n, .own (left.map .int), .own (found.map .int)] = .ok (.nx, [.io 0 g', iV n, .own [], .own (ys.map .int)])
  | 0, left, found, g, hl, hp, hg => by
    have el : left = [] := List.eq_nil_of_length_eq_zero hl
    subst el
    rw [List.append_nil] at hp
    refine ⟨1, found, g, hp, hg.less (by omega), whN_done ?_⟩
    have z : fNe (.list []) (.list []) = .ok (.bool false) := rfl
    show wc__law_shuffled_0 [.io 0 g, iV n, .own [], .own (found.map .int)] = _
    decreasing_with first | (with_reducible exact z)
  | k + 1, left, found, g, hl, hp, hg => by
    have hpl := hp.length_eq
    rw [List.length_append, rngI_len] at hpl
    obtain ⟨r, g1, r0, r1, G1, e1⟩ := ty__law_random (B := B + 4 * k) (g := g) (bound := left.length) (hg.less (by omega)) (by omega) (by omega) (by omega)
    have pa := popAt_ok r0 r1 (by omega)
    have ap := append_ok (found := found) (x := left.getD r.toNat 0) (by omega)
    obtain ⟨m, ys, g', py, G, e⟩ := shuf_loop hn hB k (left.eraseIdx r.toNat) (found ++ [left.getD r.toNat 0]) g1 (by rw [List.length_eraseIdx, if_pos (by omega)]; omega) (by
      refine List.Perm.trans ?_ hp
      rw [List.append_assoc]
      exact List.Perm.append_left _ (erase_perm' (by omega))) G1
    have hne : (!left.isEmpty) = true := by
      cases left with
      | nil => cases hl
      | cons => rfl
    refine ⟨m + 1, ys, g', py, G, ?_⟩
    rw [← e]
    refine whN_step (δ1 := [.io 0 g, iV n, .own (left.map .int), .own (found.map .int)]) ?_ ?_
    · rw [← hne]
      show wc__law_shuffled_0 [.io 0 g, iV n, .own (left.map .int), .own (found.map .int)] = _
      decreasing_with first | (with_reducible exact ne_nilI)
    · show wb__law_shuffled_0 [.io 0 g, iV n, .own (left.map .int), .own (found.map .int)] = _
      decreasing_with first | (with_reducible exact fLen_li) | (with_reducible exact e1) | (with_reducible exact pa) | (with_reducible exact ap)
theorem ty__law_shuffled {B : Int} {g : List PyData} {n : Nat} (hn : n ≤ 100000) (hg : GenOk (B + 4 * n) g) (hB : 0 ≤ B) : ∃ (ys : List Int) (g' : List PyData), ys.Perm (rngI 0 n) ∧ GenOk B g' ∧ F__law_shuffled [.io 0 g, iV n] = .ok (.own (ys.map .int), [.io 0 g', iV n]) := by
  obtain ⟨m, ys, g', py, G, e⟩ := shuf_loop hn hB n (rngI 0 n) [] g (rngI_len 0 n) (.refl _) hg
  have w := mWhile_of e
  have lr : -4611686018427387904 ≤ (n : Int) ∧ (n : Int) ≤ 16777216 := by omega
  rw [← rngD_I] at w
  replace w : mWhile wc__law_shuffled_0 wb__law_shuffled_0 [.io 0 g, iV n, .own (rngD 0 (n : Int).toNat), .own []] = .ok (.nx, [.io 0 g', iV n, .own [], .own (ys.map .int)]) := w
  refine ⟨ys, g', py, G, ?_⟩
  apply ev_fn
  show m__law_shuffled [.io 0 g, iV n, .emp, .emp] = _
  apply ev_seq
  · decreasing_with first | (with_reducible exact lr)
  apply ev_seq
  · exact w
  decreasing_with fail
theorem lcL_step {g : PyData → Ev → Res Ev} {tt : MT} {te : ME} {vs : List Nat} {d y : PyData} {ds acc : List PyData} {δ δ1 δ2 δ3 : Ev} (e1 : g d δ = .ok δ1) (e2 : tt δ1 = .ok (true, δ2)) (e3 : te δ2 = .ok (y, δ3)) (hl : acc.length < sizeLine) : lcL g tt te vs (d :: ds) acc δ = lcL g tt te vs ds (acc ++ [y]) (clr δ3 vs) := by
  rw [lcL]
  simp only [e1, e2, e3]
  rw [if_pos hl]
theorem wt_len {n w : Nat} : (wT n w).length = n := by unfold wT; simp
/-- names, rows and signs told otherwise -/
def reT (n : Nat) (t : List (List Int)) (rows signs names : List Int) : List (List Int) := (List.range n).map fun s => (List.range n).map fun x => names.getD (E t (rows.getD s 0).toNat (signs.getD x 0).toNat) 0
theorem perm_at {n : Nat} {p : List Int} (h : p.Perm (rngI 0 n)) {i : Nat} (hi : i < n) : p.getD i 0 = ((p.getD i 0).toNat : Int) ∧ (p.getD i 0).toNat < n := by
  have hl : p.length = n := by rw [h.length_eq, rngI_len]
  have := mem_rngI.mp (h.mem_iff.mp (getD_mem (xs := p) (i := i) (by omega)))
  omega
theorem perm_range {n : Nat} {p : List Int} (h : p.Perm (rngI 0 n)) : ((List.range n).map fun i => (p.getD i 0).toNat).Perm (List.range n) := by
  have hl : p.length = n := by rw [h.length_eq, rngI_len]
  apply perm_cast
  rw [← rngI_cast, List.map_map]
  have e : (List.range n).map ((fun (i : Nat) => (i : Int)) ∘ fun i => (p.getD i 0).toNat) = p := by
    apply List.ext_getElem
    · simp [hl]
    · intro i h1 h2
      have hi : i < n := by simpa using h1
      have q := (perm_at h hi).1
      have z : p.getD i 0 = p[i] := by rw [List.getD_eq_getElem?_getD, List.getElem?_eq_getElem h2]; rfl
      rw [List.getElem_map, List.getElem_range]
      show (((p.getD i 0).toNat : Nat) : Int) = _
      rw [← q, z]
  rw [e]
  exact h
theorem perm_names {n : Nat} {p : List Int} (h : p.Perm (rngI 0 n)) {f : Nat → Nat} (hf : ((List.range n).map f).Perm (List.range n)) : ((List.range n).map fun x => p.getD (f x) 0).Perm (rngI 0 n) := by
  have hl : p.length = n := by rw [h.length_eq, rngI_len]
  have z := hf.map fun i => p.getD i 0
  rw [List.map_map] at z
  refine List.Perm.trans z ?_
  have e : (List.range n).map (fun i => p.getD i 0) = p := by
    conv => rhs; rw [list_range (xs := p), hl]
  rw [e]
  exact h
theorem comp_perm {n : Nat} {f q : Nat → Nat} (hf : ((List.range n).map f).Perm (List.range n)) (hq : ((List.range n).map q).Perm (List.range n)) : ((List.range n).map fun x => f (q x)).Perm (List.range n) := by
  have z := hq.map f
  rw [List.map_map] at z
  exact z.trans hf
theorem getD_mapL {α : Type} {f : Nat → α} {n i : Nat} {d : α} (h : i < n) : ((List.range n).map f).getD i d = f i := by
  rw [List.getD_eq_getElem?_getD, List.getElem?_map, List.getElem?_range h]; rfl
theorem reT_lat {n : Nat} {t : List (List Int)} {rows signs names : List Int} (h : Latin n t) (hr : rows.Perm (rngI 0 n)) (hs : signs.Perm (rngI 0 n)) (hn : names.Perm (rngI 0 n)) : Latin n (reT n t rows signs names) := by
  refine ⟨h.two, h.small, by unfold reT; simp, fun s hsn => ?_, fun x hx => ?_⟩
  · unfold reT
    rw [getD_mapL hsn]
    exact perm_names hn (f := fun x => E t (rows.getD s 0).toNat (signs.getD x 0).toNat) (comp_perm (h.rowN (perm_at hr hsn).2) (perm_range hs))
  · unfold reT
    rw [List.map_map]
    have e : (List.range n).map ((fun r : List Int => r.getD x 0) ∘ fun s => (List.range n).map fun x => names.getD (E t (rows.getD s 0).toNat (signs.getD x 0).toNat) 0) = (List.range n).map fun s => names.getD (E t (rows.getD s 0).toNat (signs.getD x 0).toNat) 0 := by
      apply List.map_congr_left
      intro s _
      exact getD_mapL hx
    rw [e]
    exact perm_names hn (f := fun s => E t (rows.getD s 0).toNat (signs.getD x 0).toNat) (comp_perm (f := fun s => E t s (signs.getD x 0).toNat) (h.colN (perm_at hs hx).2) (perm_range hr))
theorem lat_data {n : Nat} {f : Nat → Nat → Int} : ((List.range n).map fun s => (List.range n).map fun x => f s x).map (fun r => lI r) = (List.range n).map fun s => lI ((List.range n).map fun x => f s x) := by rw [List.map_map]; rfl
theorem sq_row {n : Nat} {f : Nat → Int} {δ : Ev} {g : PyData → Ev → Res Ev} {te : ME} {vs : List Nat} (hn : n ≤ 1000) (h : ∀ k, k < n → ∃ δ1, g (.int (k : Int)) δ = .ok δ1 ∧ te δ1 = .ok (.int (f k), δ1) ∧ clr δ1 vs = δ) : lcL g mYes te vs (rngD 0 (n : Int).toNat) [] δ = .ok (((List.range n).map f).map .int, δ) := lcL_rngI f δ n (by omega) h
theorem wts_at (n : Nat) (hn : n ∈ [3, 4, 5, 6, 7, 8, 9]) (g : List PyData) : lcL cg__law_square_1 ct__law_square_1 ce__law_square_1 [4] (rngD 1 ((n : Int) - 1).toNat) [] [.io 0 g, iV 0, iV n, .emp, .emp, .emp, .emp, .emp, .emp, .emp, .emp, .emp, .emp, .emp] = .ok (lN (wts n), [.io 0 g, iV 0, iV n, .emp, .emp, .emp, .emp, .emp, .emp, .emp, .emp, .emp, .emp, .emp]) := by
  simp only [List.mem_cons, List.not_mem_nil, or_false] at hn
  rcases hn with rfl | rfl | rfl | rfl | rfl | rfl | rfl <;> kernel_rfl
theorem ty__law_square {B : Int} {g : List PyData} (hg : GenOk (B + 200) g) (hB : 0 ≤ B) : ∃ (n : Nat) (t : List (List Int)) (g' : List PyData) (s : Sl), Latin n t ∧ n ≤ 12 ∧ GenOk B g' ∧ (s = .own (t.map fun r => lI r) ∨ s = .val (sqD t)) ∧ F__law_square [.io 0 g] = .ok (s, [.io 0 g']) := by
  obtain ⟨r, g1, r0, r1, G1, e1⟩ := ty__law_random (B := B + 190) (g := g) (bound := 4) (hg.less (by omega)) (by omega) (by omega) (by omega)
  by_cases hr : r = 0
  · subst hr
    obtain ⟨q, g2, q0, q1, G2, e2⟩ := ty__law_random (B := B + 180) (g := g1) (bound := 7) (G1.less (by omega)) (by omega) (by omega) (by omega)
    have hq : q.toNat < [3, 4, 5, 6, 7, 8, 9].length := by show q.toNat < 7; omega
    have hm := List.getElem_mem hq
    have ix := menu_ix (f := fun (k : Nat) => PyData.int (k : Int)) (xs := [3, 4, 5, 6, 7, 8, 9]) q0 hq
    have z := List.all_eq_true.mp wT_lat _ hm
    have wa := wts_at _ hm g2
    have hn9 : [3, 4, 5, 6, 7, 8, 9][q.toNat] ≤ 9 ∧ 3 ≤ [3, 4, 5, 6, 7, 8, 9][q.toNat] := by
      have y : ∀ k ∈ [3, 4, 5, 6, 7, 8, 9], k ≤ 9 ∧ 3 ≤ k := by decide
      exact y _ hm
    generalize [3, 4, 5, 6, 7, 8, 9][q.toNat] = n at *
    rw [Bool.and_eq_true] at z
    have wl : 0 < (wts n).length := by
      cases hw : wts n with
      | nil => rw [hw] at z; cases z.2
      | cons => simp
    have wl2 : (wts n).length ≤ 9 := by
      unfold wts
      refine Nat.le_trans (List.length_filter_le ..) ?_
      simp
      omega
    obtain ⟨p, g3, p0, p1, G3, e3⟩ := ty__law_random (B := B) (g := g2) (bound := ((wts n).length : Int)) (G2.less (by omega)) (by omega) (by omega) hB
    have hp : p.toNat < (wts n).length := by omega
    have ix2 := menu_ix (f := fun (k : Nat) => PyData.int (k : Int)) (xs := wts n) p0 hp
    have y := List.all_eq_true.mp z.1 _ (List.getElem_mem hp)
    generalize (wts n)[p.toNat] = w at *
    rw [Bool.and_eq_true] at y
    have hw10 := of_decide_eq_true y.2
    have lat := latB_ok y.1
    have ln : fLen [.list (lN (wts n))] = .ok (iV (wts n).length) := by
      show Res.ok (Sl.val (.int ((lN (wts n)).length : Nat))) = _
      rw [List.length_map]
    have hr2 : (rOk 1 && rOk (n : Int)) = true := by
      rw [rOk_small (by omega) (by omega), rOk_small (k := (n : Int)) (by omega) (by omega)]; rfl
    have hr1 : rOk (n : Int) = true := rOk_small (by omega) (by omega)
    have lc := lcL_rng (g := cg__law_square_3) (te := ce__law_square_3) (vs := [11]) (fun s => lI ((List.range n).map fun x => (((w * s + x) % n : Nat) : Int))) [.io 0 g3, iV 0, iV n, .val (.list (lN (wts n))), iV w, .emp, .emp, .emp, .emp, .emp, .emp, .emp, .emp, .emp] n (by omega) (by
      intro s hs
      have lc := lcL_rngI (g := cg__law_square_2) (te := ce__law_square_2) (vs := [12]) (fun x => (((w * s + x) % n : Nat) : Int)) [.io 0 g3, iV 0, iV n, .val (.list (lN (wts n))), iV w, .emp, .emp, .emp, .emp, .emp, .emp, iV s, .emp, .emp] n (by omega) (by
        intro x hx
        have m1 := natmul (a := w) (b := s) (by omega)
        have ad := natadd (a := w * s) (b := x)
        have md : fMod (.int ((w * s + x : Nat) : Int)) (.int (n : Int)) = .ok (.int (((w * s + x) % n : Nat) : Int)) := by
          rw [fMod_ok (by omega), Int.natCast_emod]
        refine ⟨[.io 0 g3, iV 0, iV n, .val (.list (lN (wts n))), iV w, .emp, .emp, .emp, .emp, .emp, .emp, iV s, iV x, .emp], rfl, ?_, rfl⟩
        show ce__law_square_2 [.io 0 g3, iV 0, iV n, .val (.list (lN (wts n))), iV w, .emp, .emp, .emp, .emp, .emp, .emp, iV s, iV x, .emp] = _
        decreasing_with first | (with_reducible exact m1) | (with_reducible exact ad) | (with_reducible exact md))
      replace lc : lcL cg__law_square_2 ct__law_square_2 ce__law_square_2 [12] (rngD 0 (n : Int).toNat) [] [.io 0 g3, iV 0, iV n, .val (.list (lN (wts n))), iV w, .emp, .emp, .emp, .emp, .emp, .emp, iV s, .emp, .emp] = _ := lc
      refine ⟨[.io 0 g3, iV 0, iV n, .val (.list (lN (wts n))), iV w, .emp, .emp, .emp, .emp, .emp, .emp, iV s, .emp, .emp], rfl, ?_, rfl⟩
      show ce__law_square_3 [.io 0 g3, iV 0, iV n, .val (.list (lN (wts n))), iV w, .emp, .emp, .emp, .emp, .emp, .emp, iV s, .emp, .emp] = _
      decreasing_with first | (with_reducible exact hr1) | (focus ((with_reducible show lcL _ _ _ _ _ _ _ = _); exact lc)))
    rw [← lat_data (f := fun s x => (((w * s + x) % n : Nat) : Int))] at lc
    replace lc : lcL cg__law_square_3 ct__law_square_3 ce__law_square_3 [11] (rngD 0 (n : Int).toNat) [] [.io 0 g3, iV 0, iV n, .val (.list (lN (wts n))), iV w, .emp, .emp, .emp, .emp, .emp, .emp, .emp, .emp, .emp] = .ok ((wT n w).map fun r => lI r, [.io 0 g3, iV 0, iV n, .val (.list (lN (wts n))), iV w, .emp, .emp, .emp, .emp, .emp, .emp, .emp, .emp, .emp]) := lc
    refine ⟨n, wT n w, g3, .own ((wT n w).map fun r => lI r), lat, by omega, G3, .inl rfl, ?_⟩
    apply ev_fn
    show m__law_square [.io 0 g, .emp, .emp, .emp, .emp, .emp, .emp, .emp, .emp, .emp, .emp, .emp, .emp, .emp] = _
    · apply ev_seq
      · decreasing_with first | (with_reducible exact e1)
      apply ev_seqR
      apply ev_ifT
      · decreasing_with fail
      · rfl
      apply ev_seq
      · decreasing_with first | (with_reducible exact e2) | ((focus ((with_reducible show fIx (.list _) (.int q) = _); exact ix)))
      apply ev_seq
      · decreasing_with first | (with_reducible exact hr2) | (focus ((with_reducible show lcL _ _ _ _ _ _ _ = _); exact wa))
      apply ev_seq
      · decreasing_with first | (with_reducible exact ln) | (with_reducible exact e3) | ((focus ((with_reducible show fIx (.list _) (.int p) = _); exact ix2)))
      decreasing_with first | (with_reducible exact hr1) | (focus ((with_reducible show lcL _ _ _ _ _ _ _ = _); exact lc))
    decreasing_with fail
  · obtain ⟨n, t, g2, lat, hn, G2, e2⟩ := ty__law_group (B := B + 170) (g := g1) (G1.less (by omega)) (by omega)
    have hn2 := lat.two
    have ln : fLen [sqD t] = .ok (iV n) := by rw [fLen_ls, lat.len]
    obtain ⟨rows, ga, prow, Ga, ea⟩ := ty__law_shuffled (B := B + 110) (g := g2) (n := n) (by omega) (G2.less (by omega)) (by omega)
    obtain ⟨signs, gb, psig, Gb, eb⟩ := ty__law_shuffled (B := B + 50) (g := ga) (n := n) (by omega) (Ga.less (by omega)) (by omega)
    obtain ⟨names, gc, pnam, Gc, ec⟩ := ty__law_shuffled (B := B) (g := gb) (n := n) (by omega) (Gb.less (by omega)) (by omega)
    have l3 : lcL cg__law_square_4 ct__law_square_4 ce__law_square_4 [13] [.int 0, .int 1, .int 2] [] [.io 0 g2, iV r, .emp, .emp, .emp, .val (sqD t), .emp, .emp, .emp, .emp, .emp, .emp, .emp, .emp] = .ok ([lI rows, lI signs, lI names], [.io 0 gc, iV r, .emp, .emp, .emp, .val (sqD t), .emp, .emp, .emp, .emp, .emp, .emp, .emp, .emp]) := by
      have s1 : ce__law_square_4 [.io 0 g2, iV r, .emp, .emp, .emp, .val (sqD t), .emp, .emp, .emp, .emp, .emp, .emp, .emp, iV 0] = .ok (lI rows, [.io 0 ga, iV r, .emp, .emp, .emp, .val (sqD t), .emp, .emp, .emp, .emp, .emp, .emp, .emp, iV 0]) := by decreasing_with first | (with_reducible exact ln) | (with_reducible exact ea)
      have s2 : ce__law_square_4 [.io 0 ga, iV r, .emp, .emp, .emp, .val (sqD t), .emp, .emp, .emp, .emp, .emp, .emp, .emp, iV 1] = .ok (lI signs, [.io 0 gb, iV r, .emp, .emp, .emp, .val (sqD t), .emp, .emp, .emp, .emp, .emp, .emp, .emp, iV 1]) := by decreasing_with first | (with_reducible exact ln) | (with_reducible exact eb)
      have s3 : ce__law_square_4 [.io 0 gb, iV r, .emp, .emp, .emp, .val (sqD t), .emp, .emp, .emp, .emp, .emp, .emp, .emp, iV 2] = .ok (lI names, [.io 0 gc, iV r, .emp, .emp, .emp, .val (sqD t), .emp, .emp, .emp, .emp, .emp, .emp, .emp, iV 2]) := by decreasing_with first | (with_reducible exact ln) | (with_reducible exact ec)
      rw [lcL_step rfl rfl s1 (by rw [sizeLine_eq]; decide), show clr [.io 0 ga, iV r, .emp, .emp, .emp, .val (sqD t), .emp, .emp, .emp, .emp, .emp, .emp, .emp, iV 0] [13] = [.io 0 ga, iV r, .emp, .emp, .emp, .val (sqD t), .emp, .emp, .emp, .emp, .emp, .emp, .emp, .emp] from rfl]
      rw [lcL_step rfl rfl s2 (by rw [sizeLine_eq]; simp), show clr [.io 0 gb, iV r, .emp, .emp, .emp, .val (sqD t), .emp, .emp, .emp, .emp, .emp, .emp, .emp, iV 1] [13] = [.io 0 gb, iV r, .emp, .emp, .emp, .val (sqD t), .emp, .emp, .emp, .emp, .emp, .emp, .emp, .emp] from rfl]
      rw [lcL_step rfl rfl s3 (by rw [sizeLine_eq]; simp), show clr [.io 0 gc, iV r, .emp, .emp, .emp, .val (sqD t), .emp, .emp, .emp, .emp, .emp, .emp, .emp, iV 2] [13] = [.io 0 gc, iV r, .emp, .emp, .emp, .val (sqD t), .emp, .emp, .emp, .emp, .emp, .emp, .emp, .emp] from rfl]
      rfl
    by_cases h1 : r = 1
    · subst h1
      refine ⟨n, t, gc, .val (sqD t), lat, hn, Gc, .inr rfl, ?_⟩
      apply ev_fn
      show m__law_square [.io 0 g, .emp, .emp, .emp, .emp, .emp, .emp, .emp, .emp, .emp, .emp, .emp, .emp, .emp] = _
      · apply ev_seq
        · decreasing_with first | (with_reducible exact e1)
        apply ev_seq
        · apply ev_ifF
          · decreasing_with fail
          · rfl
          decreasing_with fail
        apply ev_seq
        · decreasing_with first | (with_reducible exact e2)
        apply ev_seq
        · decreasing_with first | (focus ((with_reducible show lcL _ _ _ _ _ _ _ = _); exact l3)) | ((focus ((with_reducible show rOk _ = _); decide)))
        apply ev_seqR
        apply ev_ifT
        · decreasing_with fail
        · rfl
        decreasing_with fail
      decreasing_with fail
    · have lat2 := reT_lat lat prow psig pnam
      have hr1 : rOk (n : Int) = true := rOk_small (by omega) (by omega)
      have ixp : ∀ {p : List Int} {i : Nat}, p.Perm (rngI 0 n) → i < n → fIx (lI p) (.int (i : Int)) = .ok (.int ((p.getD i 0).toNat : Nat)) := fun {p i} hp hi => by
        rw [← (perm_at hp hi).1]
        exact fIx_li (by rw [hp.length_eq, rngI_len]; exact hi)
      have lc := lcL_rng (g := cg__law_square_6) (te := ce__law_square_6) (vs := [11]) (fun s => lI ((List.range n).map fun x => names.getD (E t (rows.getD s 0).toNat (signs.getD x 0).toNat) 0)) [.io 0 gc, iV r, .emp, .emp, .emp, .val (sqD t), .val (lI rows), .val (lI signs), .val (lI names), .emp, .emp, .emp, .emp, .emp] n (by omega) (by
        intro s hs
        have lc := lcL_rngI (g := cg__law_square_5) (te := ce__law_square_5) (vs := [12]) (fun x => names.getD (E t (rows.getD s 0).toNat (signs.getD x 0).toNat) 0) [.io 0 gc, iV r, .emp, .emp, .emp, .val (sqD t), .val (lI rows), .val (lI signs), .val (lI names), .emp, .emp, iV s, .emp, .emp] n (by omega) (by
          intro x hx
          have q1 := (perm_at prow hs).2
          have q2 := (perm_at psig hx).2
          have x1 := ixp prow hs
          have x2 := lat.ixr q1
          have x3 := ixp psig hx
          have x4 := lat.ix q1 q2
          have x5 : fIx (lI names) (.int (E t (rows.getD s 0).toNat (signs.getD x 0).toNat : Nat)) = .ok (.int (names.getD (E t (rows.getD s 0).toNat (signs.getD x 0).toNat) 0)) := fIx_li (by rw [pnam.length_eq, rngI_len]; exact lat.lt q1 q2)
          refine ⟨[.io 0 gc, iV r, .emp, .emp, .emp, .val (sqD t), .val (lI rows), .val (lI signs), .val (lI names), .emp, .emp, iV s, iV x, .emp], rfl, ?_, rfl⟩
          show ce__law_square_5 [.io 0 gc, iV r, .emp, .emp, .emp, .val (sqD t), .val (lI rows), .val (lI signs), .val (lI names), .emp, .emp, iV s, iV x, .emp] = _
          decreasing_with first | (with_reducible exact x1) | (with_reducible exact x2) | (with_reducible exact x3) | (with_reducible exact x4) | (with_reducible exact x5))
        replace lc : lcL cg__law_square_5 ct__law_square_5 ce__law_square_5 [12] (rngD 0 (n : Int).toNat) [] [.io 0 gc, iV r, .emp, .emp, .emp, .val (sqD t), .val (lI rows), .val (lI signs), .val (lI names), .emp, .emp, iV s, .emp, .emp] = _ := lc
        refine ⟨[.io 0 gc, iV r, .emp, .emp, .emp, .val (sqD t), .val (lI rows), .val (lI signs), .val (lI names), .emp, .emp, iV s, .emp, .emp], rfl, ?_, rfl⟩
        show ce__law_square_6 [.io 0 gc, iV r, .emp, .emp, .emp, .val (sqD t), .val (lI rows), .val (lI signs), .val (lI names), .emp, .emp, iV s, .emp, .emp] = _
        decreasing_with first | (with_reducible exact ln) | (with_reducible exact hr1) | (focus ((with_reducible show lcL _ _ _ _ _ _ _ = _); exact lc)))
      rw [← lat_data (f := fun s x => names.getD (E t (rows.getD s 0).toNat (signs.getD x 0).toNat) 0)] at lc
      replace lc : lcL cg__law_square_6 ct__law_square_6 ce__law_square_6 [11] (rngD 0 (n : Int).toNat) [] [.io 0 gc, iV r, .emp, .emp, .emp, .val (sqD t), .val (lI rows), .val (lI signs), .val (lI names), .emp, .emp, .emp, .emp, .emp] = .ok ((reT n t rows signs names).map fun r => lI r, [.io 0 gc, iV r, .emp, .emp, .emp, .val (sqD t), .val (lI rows), .val (lI signs), .val (lI names), .emp, .emp, .emp, .emp, .emp]) := lc
      refine ⟨n, reT n t rows signs names, gc, .val (sqD (reT n t rows signs names)), lat2, hn, Gc, .inr rfl, ?_⟩
      apply ev_fn
      show m__law_square [.io 0 g, .emp, .emp, .emp, .emp, .emp, .emp, .emp, .emp, .emp, .emp, .emp, .emp, .emp] = _
      · apply ev_seq
        · decreasing_with first | (with_reducible exact e1)
        apply ev_seq
        · apply ev_ifF
          · decreasing_with fail
          · exact beq_eq_false_iff_ne.mpr hr
          decreasing_with fail
        apply ev_seq
        · decreasing_with first | (with_reducible exact e2)
        apply ev_seq
        · decreasing_with first | (focus ((with_reducible show lcL _ _ _ _ _ _ _ = _); exact l3)) | ((focus ((with_reducible show rOk _ = _); decide)))
        apply ev_seq
        · apply ev_ifF
          · decreasing_with fail
          · exact beq_eq_false_iff_ne.mpr h1
          decreasing_with fail
        apply ev_seq
        · decreasing_with first | (with_reducible exact ln) | (with_reducible exact hr1) | (focus ((with_reducible show lcL _ _ _ _ _ _ _ = _); exact lc))
        decreasing_with fail
      decreasing_with fail
theorem ty_is_chain {d : PyData} {b : Bool} (h : F_chain_fits [.val d] = .ok (.val (.bool b), [.val d])) : F_is_chain [.val d] = .ok (.val (.bool b), [.val d]) := by
  apply ev_fn
  show m_is_chain [.val d] = _
  decreasing_with first | (with_reducible exact h)
theorem ty__law_states {n : Nat} {t : List (List Int)} {s en : Nat} {c : List Nat} (h : Latin n t) (hs : s < n) (hc : ∀ x ∈ c, x < n) (hl : c.length ≤ 10000) : F__law_states [.val (chD t s en), .val (.list (lN c))] = .ok (.own (lN (pathN t s c)), [.val (chD t s en), .val (.list (lN c))]) := by
  obtain ⟨δ', e, k4, rfl⟩ := forL_list (g := g__law_states_0) (b := b__law_states_0) (fun (x : Nat) => PyData.int (x : Int)) (fun k δ => ∃ k4, δ = [.val (chD t s en), .val (.list (lN c)), .own (lN (pathN t s (c.take k))), k4]) (xs := c) (δ := [.val (chD t s en), .val (.list (lN c)), .own [.int (s : Int)], .emp]) ⟨_, rfl⟩ (by
    rintro k x δ hk ⟨k4, rfl⟩
    have hxn := hc x (List.mem_of_getElem? hk)
    have ll := h.last_lt (c := c.take k) hs (take_lt hc k)
    have tl : (c.take k).length ≤ 10000 := by rw [List.length_take]; omega
    have pa := path_at (t := t) (c := c.take k) (s := s) (by omega)
    have pl := path_len t (c.take k) s
    have r0 := h.ixr ll
    have i0 := h.ix ll hxn
    have ap : fAppend (lN (pathN t s (c.take k))) [.int (E t (lastN t s (c.take k)) x : Nat)] = .ok (.none, lN (pathN t s (c.take (k + 1)))) := by
      rw [take_suc hk, path_app, lN_app]
      exact if_pos (by rw [sizeLine_eq, List.length_map]; omega)
    have iv : mIxV 2 (mNeg (mC (.int 1))) [.val (chD t s en), .val (.list (lN c)), .own (lN (pathN t s (c.take k))), iV x] = .ok (.int (lastN t s (c.take k) : Nat), [.val (chD t s en), .val (.list (lN c)), .own (lN (pathN t s (c.take k))), iV x]) := by
      apply ev_ixo rfl rfl
      · decreasing_with fail
      · rfl
      · rfl
      exact pa
    refine ⟨[.val (chD t s en), .val (.list (lN c)), .own (lN (pathN t s (c.take k))), iV x], [.val (chD t s en), .val (.list (lN c)), .own (lN (pathN t s (c.take (k + 1)))), iV x], rfl, ?_, ⟨_, rfl⟩⟩
    show b__law_states_0 [.val (chD t s en), .val (.list (lN c)), .own (lN (pathN t s (c.take k))), iV x] = _
    decreasing_with first | (with_reducible exact iv) | (with_reducible exact r0) | (with_reducible exact i0) | (with_reducible exact ap) | ((focus ((with_reducible show fIx (chD _ _ _) _ = _); rfl))))
  rw [List.take_length] at e
  replace e : forL g__law_states_0 b__law_states_0 (lN c) [.val (chD t s en), .val (.list (lN c)), .own [.int (s : Int)], .emp] = _ := e
  apply ev_fn
  show m__law_states [.val (chD t s en), .val (.list (lN c)), .emp, .emp] = _
  decreasing_with first | (with_reducible apply ev_for (h2 := e)) | ((focus ((with_reducible show fIx (chD _ _ _) _ = _); rfl)))
theorem ty__law_power {n m : Nat} (hn : n < 1000000) (hm : m ≤ 100000) : F__law_power [iV n, iV m] = .ok (iV (n ^ m : Nat), [iV n, iV m]) := by
  obtain ⟨δ', e, j, rfl⟩ := forL_rng (g := g__law_power_0) (b := b__law_power_0) (n := m) (fun i δ => ∃ j, δ = [iV n, iV m, iV (n ^ i : Nat), j]) (δ := [iV n, iV m, iV 1, .emp]) ⟨_, rfl⟩ (by
    rintro k δ hk ⟨j, rfl⟩
    have m1 := natmul (a := n ^ k) (b := n) (by omega)
    rw [← Nat.pow_succ] at m1
    refine ⟨[iV n, iV m, iV (n ^ k : Nat), iV k], _, rfl, ?_, ⟨iV k, rfl⟩⟩
    show b__law_power_0 [iV n, iV m, iV (n ^ k : Nat), iV k] = _
    decreasing_with first | (with_reducible exact m1))
  have hr : rOk (m : Int) = true := rOk_small (by omega) (by omega)
  apply ev_fn
  show m__law_power [iV n, iV m, .emp, .emp] = _
  decreasing_with first | (with_reducible exact hr) | (with_reducible apply ev_for (h2 := e))
abbrev cD (c : List Nat) : PyData := .list (lN c)
theorem ty__law_all_codes {n L : Nat} (hn : n ≤ 1000) (hL : L ≤ 1000) (hb : ∀ k, k ≤ L → n ^ k ≤ 1000) : F__law_all_codes [iV n, iV L] = .ok (.val (.list ((codes n L).map cD)), [iV n, iV L]) := by
  have hrn : rOk (n : Int) = true := rOk_small (by omega) (by omega)
  have hrL : rOk (L : Int) = true := rOk_small (by omega) (by omega)
  obtain ⟨δ', e, k3, k4, k5, rfl⟩ := forL_rng (g := g__law_all_codes_1) (b := b__law_all_codes_1) (n := L) (fun i δ => ∃ k3 k4 k5, δ = [iV n, iV L, .val (.list ((codes n i).map cD)), k3, k4, k5, .emp]) (δ := [iV n, iV L, .val (.list [.list []]), .emp, .emp, .emp, .emp]) ⟨_, _, _, rfl⟩ (by
    rintro k δ hk ⟨k3, k4, k5, rfl⟩
    have cb := hb (k + 1) (by omega)
    have ck := codes_len n (k + 1)
    have c0 := codes_len n k
    have c0b := hb k (by omega)
    obtain ⟨δ', e, k5', rfl⟩ := forL_app (g := g__law_all_codes_0) (b := b__law_all_codes_0) cD (fun c => (List.range n).map fun x => c ++ [x]) 1000 (fun acc δ => ∃ k5, δ = [iV n, iV L, .val (.list ((codes n k).map cD)), iV k, .val (.list (acc.map cD)), k5, .emp]) (codes n k) (acc := []) (δ := [iV n, iV L, .val (.list ((codes n k).map cD)), iV k, .val (.list []), k5, .emp]) (by show 0 + (codes n (k + 1)).length ≤ _; omega) ⟨_, rfl⟩ (by
      rintro c hc acc δ hl ⟨k5, rfl⟩
      have lc := lcL_rng (g := cg__law_all_codes_0) (te := ce__law_all_codes_0) (vs := [6]) (fun x => cD (c ++ [x])) [iV n, iV L, .val (.list ((codes n k).map cD)), iV k, .val (.list (acc.map cD)), .val (cD c), .emp] n (by omega) (by
        intro x hx
        have ad : fAdd (cD c) (.list [.int (x : Int)]) = .ok (cD (c ++ [x])) := by
          rw [fAdd_l (by rw [List.length_map, (codes_ok hc).1]; simp; omega)]
          show Res.ok (PyData.list (lN c ++ [.int (x : Int)])) = Res.ok (PyData.list (lN (c ++ [x])))
          rw [lN, lN, List.map_append]
          rfl
        refine ⟨[iV n, iV L, .val (.list ((codes n k).map cD)), iV k, .val (.list (acc.map cD)), .val (cD c), iV x], rfl, ?_, rfl⟩
        show ce__law_all_codes_0 [iV n, iV L, .val (.list ((codes n k).map cD)), iV k, .val (.list (acc.map cD)), .val (cD c), iV x] = _
        decreasing_with first | (with_reducible exact ad))
      have em : (List.range n).map (fun x => cD (c ++ [x])) = ((List.range n).map fun x => c ++ [x]).map cD := by rw [List.map_map]; rfl
      rw [em] at lc
      replace lc : lcL cg__law_all_codes_0 ct__law_all_codes_0 ce__law_all_codes_0 [6] (rngD 0 (n : Int).toNat) [] [iV n, iV L, .val (.list ((codes n k).map cD)), iV k, .val (.list (acc.map cD)), .val (cD c), .emp] = _ := lc
      have ad : fAdd (.list (acc.map cD)) (.list (((List.range n).map fun x => c ++ [x]).map cD)) = .ok (.list ((acc ++ (List.range n).map fun x => c ++ [x]).map cD)) := by
        rw [List.map_append]
        exact fAdd_l (by simp at hl ⊢; omega)
      refine ⟨[iV n, iV L, .val (.list ((codes n k).map cD)), iV k, .val (.list (acc.map cD)), .val (cD c), .emp], _, rfl, ?_, ⟨.val (cD c), rfl⟩⟩
      show b__law_all_codes_0 [iV n, iV L, .val (.list ((codes n k).map cD)), iV k, .val (.list (acc.map cD)), .val (cD c), .emp] = _
      decreasing_with first | (with_reducible exact hrn) | (focus ((with_reducible show lcL _ _ _ _ _ _ _ = _); exact lc)) | (with_reducible exact ad))
    rw [List.nil_append] at e
    replace e : forL g__law_all_codes_0 b__law_all_codes_0 ((codes n k).map cD) [iV n, iV L, .val (.list ((codes n k).map cD)), iV k, .val (.list []), k5, .emp] = .ok (.nx, [iV n, iV L, .val (.list ((codes n k).map cD)), iV k, .val (.list ((codes n (k + 1)).map cD)), k5', .emp]) := e
    refine ⟨[iV n, iV L, .val (.list ((codes n k).map cD)), iV k, k4, k5, .emp], _, rfl, ?_, ⟨iV k, .val (.list ((codes n (k + 1)).map cD)), k5', rfl⟩⟩
    show b__law_all_codes_1 [iV n, iV L, .val (.list ((codes n k).map cD)), iV k, k4, k5, .emp] = _
    decreasing_with first | (with_reducible apply ev_for (h2 := e)))
  apply ev_fn
  show m__law_all_codes [iV n, iV L, .emp, .emp, .emp, .emp, .emp] = _
  decreasing_with first | (with_reducible exact hrL) | (with_reducible apply ev_for (h2 := e))
theorem lay_tabs : ∀ ts : List (List Int), PyData.canLayAll0 (ts.map fun t => lI t) = true
  | [] => by simp [PyData.canLayAll0]
  | t :: ts => by simp [PyData.canLayAll0, PyData.canLay0, lay_ints, lay_tabs ts]
theorem depth_tabs2 (ts : List (List Int)) : PyData.depthAll (ts.map fun t => lI t) ≤ 1 := by
  induction ts with
  | nil => simp [PyData.depthAll]
  | cons t ts ih => simp [PyData.depthAll, PyData.depth, depth_ints]; omega
theorem fEq_tabs_nil {ts : List (List Int)} : fEq (.list (ts.map fun t => lI t)) (.list []) = .ok (.bool ts.isEmpty) := by
  have sh : SeqAt.shaped (.list (ts.map fun t => lI t)) = true := by
    have := depth_tabs2 ts
    show ((PyData.list (ts.map fun t => lI t)).canLay0 && decide ((PyData.list (ts.map fun t => lI t)).depth ≤ 64)) = true
    simp [PyData.canLay0, PyData.depth, lay_tabs]
    omega
  have z : fEq (.list (ts.map fun t => lI t)) (.list []) = .ok (.bool (PyData.eqv (.list (ts.map fun t => lI t)) (.list []))) := if_pos ⟨sh, rfl⟩
  rw [z]
  cases ts <;> rfl
theorem fEq_lI0 (ns : List Int) : fEq (lI ns) (.list []) = .ok (.bool ns.isEmpty) := by
  have z : fEq (lI ns) (.list []) = .ok (.bool (PyData.eqv (lI ns) (.list []))) := if_pos ⟨shaped_lI _, rfl⟩
  rw [z]
  cases ns <;> rfl
theorem fNe_lI0 (ns : List Int) : fNe (lI ns) (.list []) = .ok (.bool (!ns.isEmpty)) := by
  have z : fNe (lI ns) (.list []) = .ok (.bool (!PyData.eqv (lI ns) (.list []))) := if_pos ⟨shaped_lI _, rfl⟩
  rw [z]
  cases ns <;> rfl
theorem fNe_rows0 (ts : List (List Int)) : fNe (.list (ts.map fun t => lI t)) (.list []) = .ok (.bool (!ts.isEmpty)) := by
  have sh : SeqAt.shaped (.list (ts.map fun t => lI t)) = true := by
    have := depth_tabs2 ts
    show ((PyData.list (ts.map fun t => lI t)).canLay0 && decide ((PyData.list (ts.map fun t => lI t)).depth ≤ 64)) = true
    simp [PyData.canLay0, PyData.depth, lay_tabs]
    omega
  have z : fNe (.list (ts.map fun t => lI t)) (.list []) = .ok (.bool (!PyData.eqv (.list (ts.map fun t => lI t)) (.list []))) := if_pos ⟨sh, rfl⟩
  rw [z]
  cases ts <;> rfl
/-- a row of another length -/
theorem once_len {m : Nat} {r : List Int} (h : r.length ≠ m) : F_all_once [iV m, .val (lI r)] = .ok (.val (.bool false), [iV m, .val (lI r)]) := by
  have ln : fLen [lI r] = .ok (iV r.length) := fLen_li
  have hne : ((r.length : Int) == (m : Int)) = false := by rw [beq_eq_false_iff_ne]; omega
  have ne : fNe (.int (r.length : Int)) (.int (m : Int)) = .ok (.bool true) := by rw [fNe_i, hne]; rfl
  have rf : F_row_of_fits [iV m, .val (lI r)] = .ok (.val (.bool false), [iV m, .val (lI r)]) := by
    apply ev_fn
    show m_row_of_fits [iV m, .val (lI r), .emp] = _
    apply ev_seqR
    apply ev_ifT
    · apply ev_orF
      · decreasing_with fail
      · rfl
      decreasing_with first | (with_reducible exact ln) | (with_reducible exact ne)
    · rfl
    decreasing_with fail
  apply ev_fn
  show m_all_once [iV m, .val (lI r)] = _
  apply ev_ret
  apply ev_val
  apply ev_andVF
  · decreasing_with first | (with_reducible exact rf)
  · rfl
  rfl
/-- one sign again and again -/
theorem once_same {n : Nat} {c : Int} (h2 : 2 ≤ n) (hn : n ≤ 1000) (h0 : 0 ≤ c) (h1 : c < n) : F_all_once [iV n, .val (lI (List.replicate n c))] = .ok (.val (.bool false), [iV n, .val (lI (List.replicate n c))]) := by
  have rf := ty_row_of_fits (n := n) (v := List.replicate n c) (by simp) hn fun x hx => by
    rw [List.eq_of_mem_replicate hx]
    exact ⟨h0, h1⟩
  have fo : ∀ k, (List.replicate k c).foldl step_dedup [c] = [c] := by
    intro k
    induction k with
    | zero => rfl
    | succ k ih =>
      rw [List.replicate_succ, List.foldl_cons]
      have s : step_dedup [c] c = [c] := by unfold step_dedup; simp
      rw [s, ih]
  have un : unlike (List.replicate n c) = [c] := by
    obtain ⟨k, rfl⟩ : ∃ k, n = k + 1 := ⟨n - 1, by omega⟩
    rw [unlike_eq, List.replicate_succ, List.foldl_cons]
    have s : step_dedup [] c = [c] := by unfold step_dedup; simp
    rw [s, fo]
  have ls : mLenSet (mVar 1) [iV n, .val (lI (List.replicate n c))] = .ok (.int 1, [iV n, .val (lI (List.replicate n c))]) := ev_lenSet (ev_var rfl) (by simp; omega) (by rw [un]; rfl)
  have hne : ((1 : Int) == (n : Int)) = false := by rw [beq_eq_false_iff_ne]; omega
  have fe : fEq (.int 1) (.int (n : Int)) = .ok (.bool false) := by rw [fEq_i, hne]
  apply ev_fn
  show m_all_once [iV n, .val (lI (List.replicate n c))] = _
  · apply ev_ret
    apply ev_val
    apply ev_andVT
    · decreasing_with first | (with_reducible exact rf)
    · rfl
    apply ev_op
    · exact ls
    · decreasing_with fail
    exact fe
  decreasing_with fail
theorem sq_notL {d : PyData} (h : isT "list" d = some false) : F_square_fits [.val d] = .ok (.val (.bool false), [.val d]) := by
  apply ev_fn
  show m_square_fits [.val d, .emp, .emp] = _
  apply ev_seqR
  apply ev_ifT
  · apply ev_orT
    · decreasing_with first | (with_reducible exact h)
    · rfl
  · rfl
  decreasing_with fail
theorem sq_short {ts : List (List Int)} (h : ts.length < 2) : F_square_fits [.val (sqD ts)] = .ok (.val (.bool false), [.val (sqD ts)]) := by
  have ln : fLen [sqD ts] = .ok (iV ts.length) := fLen_ls
  have lt : fLtI (.int (ts.length : Int)) (.int 2) = .ok (.bool true) := by rw [fLtI_i, decide_eq_true (by omega)]
  apply ev_fn
  show m_square_fits [.val (sqD ts), .emp, .emp] = _
  apply ev_seqR
  apply ev_ifT
  · apply ev_orF
    · decreasing_with fail
    · rfl
    decreasing_with first | (with_reducible exact ln) | (with_reducible exact lt)
  · rfl
  decreasing_with fail
theorem sq_rows {ts : List (List Int)} (h2 : 2 ≤ ts.length) (hm : ts.length ≤ 1000) (h : ∀ r ∈ ts, r.length ≠ ts.length) : F_square_fits [.val (sqD ts)] = .ok (.val (.bool false), [.val (sqD ts)]) := by
  have ln : fLen [sqD ts] = .ok (iV ts.length) := fLen_ls
  have lt : fLtI (.int (ts.length : Int)) (.int 2) = .ok (.bool false) := by rw [fLtI_i, decide_eq_false (by omega)]
  have lc0 := lcL_pure (g := cg_square_fits_0) (tt := ct_square_fits_0) (te := ce_square_fits_0) (vs := [1]) (fun r : List Int => lI r) (fun _ => true) (fun r => lI r) [.val (sqD ts), .emp, .emp] ts [] (by rw [sizeLine_eq]; show 0 + _ ≤ _; omega) (by
    intro r hr
    have ao := once_len (h r hr)
    refine ⟨[.val (sqD ts), .val (lI r), .emp], rfl, ?_, fun _ => ?_, rfl⟩
    · show ct_square_fits_0 [.val (sqD ts), .val (lI r), .emp] = _
      decreasing_with first | (with_reducible exact ln) | (with_reducible exact ao)
    · show ce_square_fits_0 [.val (sqD ts), .val (lI r), .emp] = _
      decreasing_with fail)
  have fl : ts.filter (fun _ => true) = ts := by rw [List.filter_eq_self]; simp
  rw [fl] at lc0
  replace lc0 : lcL cg_square_fits_0 ct_square_fits_0 ce_square_fits_0 [1] (ts.map fun r => lI r) [] [.val (sqD ts), .emp, .emp] = .ok (ts.map fun r => lI r, [.val (sqD ts), .emp, .emp]) := lc0
  have ne : fNe (sqD ts) (.list []) = .ok (.bool true) := by
    rw [fNe_rows0]
    cases ts with
    | nil => simp at h2
    | cons t ts => rfl
  apply ev_fn
  show m_square_fits [.val (sqD ts), .emp, .emp] = _
  apply ev_seq
  · apply ev_ifF
    · apply ev_orF
      · decreasing_with fail
      · rfl
      decreasing_with first | (with_reducible exact ln) | (with_reducible exact lt)
    · rfl
    decreasing_with fail
  apply ev_seqR
  apply ev_ifT
  · decreasing_with first | (focus ((with_reducible show lcL _ _ _ _ _ _ _ = _); exact lc0)) | (with_reducible exact ne)
  · rfl
  decreasing_with fail
theorem sq_same {n : Nat} {r : List Int} (h2 : 2 ≤ n) (hn : n ≤ 64) (h : r.Perm (rngI 0 n)) : F_square_fits [.val (sqD (List.replicate n r))] = .ok (.val (.bool false), [.val (sqD (List.replicate n r))]) := by
  have hl : (List.replicate n r).length = n := by simp
  have ln : fLen [sqD (List.replicate n r)] = .ok (iV n) := by rw [fLen_ls, hl]
  have lt : fLtI (.int (n : Int)) (.int 2) = .ok (.bool false) := by rw [fLtI_i, decide_eq_false (by omega)]
  have rl : r.length = n := by rw [h.length_eq, rngI_len]
  have lc0 := lcL_pure (g := cg_square_fits_0) (tt := ct_square_fits_0) (te := ce_square_fits_0) (vs := [1]) (fun r : List Int => lI r) (fun _ => false) (fun r => lI r) [.val (sqD (List.replicate n r)), .emp, .emp] (List.replicate n r) [] (by rw [sizeLine_eq]; show 0 + _ ≤ _; omega) (by
    intro q hq
    rw [List.eq_of_mem_replicate hq]
    have ao := ty_all_once (n := n) (by omega) h
    refine ⟨[.val (sqD (List.replicate n r)), .val (lI r), .emp], rfl, ?_, fun z => (nomatch z), rfl⟩
    show ct_square_fits_0 [.val (sqD (List.replicate n r)), .val (lI r), .emp] = _
    decreasing_with first | (with_reducible exact ln) | (with_reducible exact ao))
  have fl : (List.replicate n r).filter (fun _ => false) = [] := by rw [List.filter_eq_nil_iff]; simp
  rw [fl] at lc0
  have lc2 := lcL_pure (g := cg_square_fits_2) (tt := ct_square_fits_2) (te := ce_square_fits_2) (vs := [2]) (fun (i : Nat) => PyData.int (i : Int)) (fun _ => true) (fun i => .int (i : Int)) [.val (sqD (List.replicate n r)), .emp, .emp] (List.range n) [] (by rw [sizeLine_eq]; simp; omega) (by
    intro x hx
    have hx' := List.mem_range.mp hx
    have lc1 := lcL_ints (g := cg_square_fits_1) (te := ce_square_fits_1) (vs := [1]) (fun r : List Int => lI r) (fun r => r.getD x 0) [.val (sqD (List.replicate n r)), .emp, iV x] (List.replicate n r) (by rw [sizeLine_eq]; omega) (by
      intro q hq
      rw [List.eq_of_mem_replicate hq]
      have g : fIx (lI r) (.int (x : Int)) = .ok (.int (r.getD x 0)) := fIx_li (by omega)
      refine ⟨[.val (sqD (List.replicate n r)), .val (lI r), iV x], rfl, ?_, rfl⟩
      show ce_square_fits_1 [.val (sqD (List.replicate n r)), .val (lI r), iV x] = _
      decreasing_with first | (with_reducible exact g))
    rw [List.map_replicate (f := fun r : List Int => r.getD x 0)] at lc1
    replace lc1 : lcL cg_square_fits_1 ct_square_fits_1 ce_square_fits_1 [1] ((List.replicate n r).map fun r => lI r) [] [.val (sqD (List.replicate n r)), .emp, iV x] = _ := lc1
    have m := mem_rngI.mp (h.mem_iff.mp (getD_mem (xs := r) (i := x) (by omega)))
    have ao := once_same (n := n) (c := r.getD x 0) h2 (by omega) (by omega) (by omega)
    refine ⟨[.val (sqD (List.replicate n r)), .emp, iV x], rfl, ?_, fun _ => ?_, rfl⟩
    · show ct_square_fits_2 [.val (sqD (List.replicate n r)), .emp, iV x] = _
      decreasing_with first | (with_reducible exact ln) | (focus ((with_reducible show lcL _ _ _ _ _ _ _ = _); exact lc1)) | (with_reducible exact ao)
    · show ce_square_fits_2 [.val (sqD (List.replicate n r)), .emp, iV x] = _
      decreasing_with fail)
  have fl2 : (List.range n).filter (fun _ => true) = List.range n := by rw [List.filter_eq_self]; simp
  rw [fl2, List.nil_append] at lc2
  have em : (List.range n).map (fun (i : Nat) => PyData.int (i : Int)) = rngD 0 (n : Int).toNat := by
    rw [rngD_map, Int.toNat_natCast, List.map_map]
    apply List.map_congr_left
    intro a _
    show PyData.int (a : Int) = .int (0 + (a : Int))
    rw [Int.zero_add]
  rw [em] at lc2
  have ne : fEq (.list (rngD 0 (n : Int).toNat)) (.list []) = .ok (.bool false) := by
    rw [rngD_map, Int.toNat_natCast, fEq_lI0]
    obtain ⟨k, rfl⟩ : ∃ k, n = k + 1 := ⟨n - 1, by omega⟩
    rw [List.range_succ]
    simp
  have rk : rOk (n : Int) = true := rOk_small (by omega) (by omega)
  apply ev_fn
  show m_square_fits [.val (sqD (List.replicate n r)), .emp, .emp] = _
  apply ev_seq
  · apply ev_ifF
    · apply ev_orF
      · decreasing_with fail
      · rfl
      decreasing_with first | (with_reducible exact ln) | (with_reducible exact lt)
    · rfl
    decreasing_with fail
  apply ev_seq
  · apply ev_ifF
    · decreasing_with first | (focus ((with_reducible show lcL _ _ _ _ _ _ _ = _); exact lc0)) | ((focus ((with_reducible show fNe _ _ = _); rfl)))
    · rfl
    decreasing_with fail
  decreasing_with first | (with_reducible exact ln) | (with_reducible exact rk) | (focus ((with_reducible show lcL _ _ _ _ _ _ _ = _); exact lc2)) | (with_reducible exact ne)
theorem ch_notT {d : PyData} (h : isT "tuple" d = some false) : F_chain_fits [.val d] = .ok (.val (.bool false), [.val d]) := by
  apply ev_fn
  show m_chain_fits [.val d, .emp] = _
  apply ev_seqR
  apply ev_ifT
  · apply ev_orT
    · decreasing_with first | (with_reducible exact h)
    · rfl
  · rfl
  decreasing_with fail
theorem ch_len {xs : List PyData} (h : ((xs.length : Int) == 3) = false) : F_chain_fits [.val (.tuple xs)] = .ok (.val (.bool false), [.val (.tuple xs)]) := by
  have ln : fLen [.tuple xs] = .ok (iV xs.length) := rfl
  have ne : fNe (.int (xs.length : Int)) (.int 3) = .ok (.bool true) := by rw [fNe_i, h]; rfl
  apply ev_fn
  show m_chain_fits [.val (.tuple xs), .emp] = _
  apply ev_seqR
  apply ev_ifT
  · apply ev_orF
    · decreasing_with fail
    · rfl
    apply ev_orT
    · decreasing_with first | (with_reducible exact ln) | (with_reducible exact ne)
    · rfl
  · rfl
  decreasing_with fail
theorem ch_sq {d a b : PyData} (h : F_square_fits [.val d] = .ok (.val (.bool false), [.val d])) : F_chain_fits [.val (.tuple [d, a, b])] = .ok (.val (.bool false), [.val (.tuple [d, a, b])]) := by
  have ln : fLen [.tuple [d, a, b]] = .ok (iV 3) := rfl
  have ix : fIx (.tuple [d, a, b]) (.int 0) = .ok d := rfl
  apply ev_fn
  show m_chain_fits [.val (.tuple [d, a, b]), .emp] = _
  apply ev_seqR
  apply ev_ifT
  · apply ev_orF
    · decreasing_with fail
    · rfl
    apply ev_orF
    · decreasing_with first | (with_reducible exact ln)
    · rfl
    decreasing_with first | (with_reducible exact ix) | (with_reducible exact h)
  · rfl
  decreasing_with fail
theorem ch_st {n : Nat} {t : List (List Int)} {a b : PyData} {l : List PyData} (h : Latin n t) (ha : flatB a = true) (hb : flatB b = true) (hl : [a, b].filter (fun d => !bwD n d) = l) (hf : fEq (.list l) (.list []) = .ok (.bool false)) : F_chain_fits [.val (.tuple [sqD t, a, b])] = .ok (.val (.bool false), [.val (.tuple [sqD t, a, b])]) := by
  have ln : fLen [sqD t] = .ok (iV n) := by rw [fLen_ls, h.len]
  have l3 : fLen [.tuple [sqD t, a, b]] = .ok (iV 3) := rfl
  have ix : fIx (.tuple [sqD t, a, b]) (.int 0) = .ok (sqD t) := rfl
  have sl : fSl (.tuple [sqD t, a, b]) (some 1) none = .ok (.val (.tuple [a, b])) := rfl
  have lc := lcL_pure (g := cg_chain_fits_0) (tt := ct_chain_fits_0) (te := ce_chain_fits_0) (vs := [1]) (fun d : PyData => d) (fun d => !bwD n d) (fun d => d) [.val (.tuple [sqD t, a, b]), .emp] [a, b] [] (by rw [sizeLine_eq]; simp) (by
    intro c hc
    have hfl : flatB c = true := by
      rw [List.mem_cons, List.mem_singleton] at hc
      rcases hc with rfl | rfl
      · exact ha
      · exact hb
    have bt := ty_btwD (n := n) hfl
    refine ⟨[.val (.tuple [sqD t, a, b]), .val c], rfl, ?_, fun _ => ?_, rfl⟩
    · show ct_chain_fits_0 [.val (.tuple [sqD t, a, b]), .val c] = _
      decreasing_with first | (with_reducible exact ln) | (with_reducible exact bt) | (with_reducible exact ix)
    · show ce_chain_fits_0 [.val (.tuple [sqD t, a, b]), .val c] = _
      decreasing_with fail)
  rw [hl] at lc
  replace lc : lcL cg_chain_fits_0 ct_chain_fits_0 ce_chain_fits_0 [1] [a, b] [] [.val (.tuple [sqD t, a, b]), .emp] = .ok (l, [.val (.tuple [sqD t, a, b]), .emp]) := by
    rw [List.map_id', List.map_id', List.nil_append] at lc
    exact lc
  apply ev_fn
  show m_chain_fits [.val (.tuple [sqD t, a, b]), .emp] = _
  apply ev_seq
  · apply ev_ifF
    · apply ev_orF
      · decreasing_with fail
      · rfl
      apply ev_orF
      · decreasing_with first | (with_reducible exact l3)
      · rfl
      decreasing_with first | (with_reducible exact ty_square_fits h) | (with_reducible exact ix)
    · rfl
    decreasing_with fail
  decreasing_with first | (with_reducible exact sl) | (focus ((with_reducible show lcL _ _ _ _ _ _ _ = _); exact lc)) | (with_reducible exact hf)
theorem bw_zero {n : Nat} (h : 2 ≤ n) : bwD n (.int 0) = true := by
  show (decide ((0 : Int) ≤ 0) && decide ((0 : Int) ≤ (n : Int) - 1)) = true
  rw [decide_eq_true (by omega), decide_eq_true (by omega)]; rfl
theorem ch_st1 {n : Nat} {t : List (List Int)} {a : PyData} (h : Latin n t) (ha : flatB a = true) (hw : bwD n a = false) (hf : fEq (.list [a]) (.list []) = .ok (.bool false)) : F_chain_fits [.val (.tuple [sqD t, a, .int 0])] = .ok (.val (.bool false), [.val (.tuple [sqD t, a, .int 0])]) :=
  ch_st (l := [a]) h ha rfl (by rw [List.filter_cons, List.filter_cons, List.filter_nil, hw, bw_zero h.two]; rfl) hf
theorem ch_st2 {n : Nat} {t : List (List Int)} {a : PyData} (h : Latin n t) (ha : flatB a = true) (hw : bwD n a = false) (hf : fEq (.list [a]) (.list []) = .ok (.bool false)) : F_chain_fits [.val (.tuple [sqD t, .int 0, a])] = .ok (.val (.bool false), [.val (.tuple [sqD t, .int 0, a])]) :=
  ch_st (l := [a]) h rfl ha (by rw [List.filter_cons, List.filter_cons, List.filter_nil, hw, bw_zero h.two]; rfl) hf
abbrev oddL1 (n : Nat) (t : List (List Int)) (st en : Nat) : List PyData := [.none, .tuple [], .list [], .dict [], .int 5, .list [sqD t, .int (st : Int), .int (en : Int)], .tuple [sqD t, .int (st : Int)], .tuple [sqD t, .int (st : Int), .int (en : Int), .int 0], .tuple [sqD t, .int (-1), .int 0], .tuple [sqD t, .int (n : Int), .int 0], .tuple [sqD t, .bool true, .int 0]]
abbrev oddL2 (n : Nat) (t : List (List Int)) : List PyData := [.tuple [sqD t, .int 0, .int (n : Int)], .tuple [sqD t, .int 0, .none], .tuple [sqD t, .str "0", .int 0], .tuple [sqD (t.drop 1), .int 0, .int 0], .tuple [.tuple (t.map fun r => lI r), .int 0, .int 0], .tuple [.list [.list [.int 0]], .int 0, .int 0]]
abbrev oddL3 (n : Nat) (t : List (List Int)) : List PyData := [.tuple [sqD t, .int 0, .int (-1)], .tuple [sqD t, .int 0, .bool true], .tuple [sqD t, .none, .int 0], .tuple [.list [.list [.int 0, .int 1], .list [.int 0, .int 1]], .int 0, .int 0], .tuple [.list [.list [.int 0, .int 0], .list [.int 1, .int 1]], .int 0, .int 0], .tuple [sqD (List.replicate n (t.getD 0 [])), .int 0, .int 0]]
section
variable {n : Nat} {t : List (List Int)} {st en : Nat}
theorem bw_n (n : Nat) : bwD n (.int (n : Int)) = false := by
  show (decide ((0 : Int) ≤ (n : Int)) && decide ((n : Int) ≤ (n : Int) - 1)) = false
  rw [decide_eq_false (show ¬ (n : Int) ≤ (n : Int) - 1 by omega), Bool.and_false]
theorem bw_m (n : Nat) : bwD n (.int (-1)) = false := by
  show (decide ((0 : Int) ≤ -1) && decide ((-1 : Int) ≤ (n : Int) - 1)) = false
  rw [decide_eq_false (by decide), Bool.false_and]
theorem eq_true0 : fEq (.list [.bool true]) (.list []) = .ok (.bool false) := by kernel_rfl
theorem eq_none0 : fEq (.list [.none]) (.list []) = .ok (.bool false) := by kernel_rfl
theorem eq_str0 : fEq (.list [.str "0"]) (.list []) = .ok (.bool false) := by kernel_rfl
theorem odd_1 (h : ChainOk n t st en) : ∀ d ∈ oddL1 n t st en, F_chain_fits [.val d] = .ok (.val (.bool false), [.val d]) := by
  intro d hd
  simp only [List.mem_cons, List.not_mem_nil, or_false] at hd
  rcases hd with rfl | rfl | rfl | rfl | rfl | rfl | rfl | rfl | rfl | rfl | rfl
  · exact ch_notT rfl
  · exact ch_len rfl
  · exact ch_notT rfl
  · exact ch_notT rfl
  · exact ch_notT rfl
  · exact ch_notT rfl
  · exact ch_len rfl
  · exact ch_len rfl
  · exact ch_st1 h.lat rfl (bw_m n) (fEq_lI0 [-1])
  · exact ch_st1 h.lat rfl (bw_n n) (fEq_lI0 [(n : Int)])
  · exact ch_st1 h.lat rfl rfl eq_true0
theorem sq_drop (h : Latin n t) : F_square_fits [.val (sqD (t.drop 1))] = .ok (.val (.bool false), [.val (sqD (t.drop 1))]) := by
  have h2 := h.two
  have hs := h.small
  have hl : (t.drop 1).length = n - 1 := by rw [List.length_drop, h.len]
  by_cases q : n = 2
  · exact sq_short (by omega)
  · refine sq_rows (by omega) (by omega) fun r hr => ?_
    obtain ⟨i, hi, rfl⟩ := List.getElem_of_mem (List.mem_of_mem_drop hr)
    have z : t.getD i [] = t[i] := by rw [List.getD_eq_getElem?_getD, List.getElem?_eq_getElem hi]; rfl
    have rl := h.rlen (s := i) (by rw [← h.len]; exact hi)
    rw [z] at rl
    omega
theorem odd_2 (h : ChainOk n t st en) : ∀ d ∈ oddL2 n t, F_chain_fits [.val d] = .ok (.val (.bool false), [.val d]) := by
  intro d hd
  simp only [List.mem_cons, List.not_mem_nil, or_false] at hd
  rcases hd with rfl | rfl | rfl | rfl | rfl | rfl
  · exact ch_st2 h.lat rfl (bw_n n) (fEq_lI0 [(n : Int)])
  · exact ch_st2 h.lat rfl rfl eq_none0
  · exact ch_st1 h.lat rfl rfl eq_str0
  · exact ch_sq (sq_drop h.lat)
  · exact ch_sq (sq_notL rfl)
  · exact ch_sq (sq_short (ts := [[0]]) (by decide))
theorem odd_3 (h : ChainOk n t st en) : ∀ d ∈ oddL3 n t, F_chain_fits [.val d] = .ok (.val (.bool false), [.val d]) := by
  intro d hd
  simp only [List.mem_cons, List.not_mem_nil, or_false] at hd
  rcases hd with rfl | rfl | rfl | rfl | rfl | rfl
  · exact ch_st2 h.lat rfl (bw_m n) (fEq_lI0 [-1])
  · exact ch_st2 h.lat rfl rfl eq_true0
  · exact ch_st1 h.lat rfl rfl eq_none0
  · exact ch_sq (sq_same (n := 2) (r := [0, 1]) (by decide) (by decide) (by decide))
  · exact ch_sq (by kernel_rfl)
  · exact ch_sq (sq_same h.lat.two h.lat.small (h.lat.row 0 (by have := h.lat.two; omega)))
theorem odd_no (h : ChainOk n t st en) : ∀ d ∈ oddL1 n t st en ++ oddL2 n t ++ oddL3 n t, F_chain_fits [.val d] = .ok (.val (.bool false), [.val d]) := by
  intro d hd
  rcases List.mem_append.mp hd with hd | hd
  · rcases List.mem_append.mp hd with hd | hd
    · exact odd_1 h d hd
    · exact odd_2 h d hd
  · exact odd_3 h d hd
theorem sl_drop1 (t : List (List Int)) : fSl (sqD t) (some 1) none = .ok (.own ((t.drop 1).map fun r => lI r)) := by
  show Res.ok (Sl.own (CW.cutD (t.map fun r => lI r) (some (1 : Int)) none)) = _
  rw [show (1 : Int) = ((1 : Nat) : Int) from rfl, cut_drop, List.map_drop]
theorem sl_take1 (t : List (List Int)) (h : t ≠ []) : fSl (sqD t) none (some 1) = .ok (.own [lI (t.getD 0 [])]) := by
  show Res.ok (Sl.own (CW.cutD (t.map fun r => lI r) none (some (1 : Int)))) = _
  rw [show (1 : Int) = ((1 : Nat) : Int) from rfl, cut_take]
  cases t with
  | nil => exact absurd rfl h
  | cons r t => rfl
theorem rep_row (n : Nat) (hn : n ≤ 64) (r : List Int) : fRepN (.list [lI r]) (.int (n : Int)) = .ok (.own ((List.replicate n r).map fun r => lI r)) := by
  have e : (List.replicate n [lI r]).flatten = (List.replicate n r).map fun r => lI r := by
    clear hn
    induction n with
    | zero => rfl
    | succ n ih =>
      rw [List.replicate_succ, List.flatten_cons, ih, List.replicate_succ]
      rfl
  have a1 : -(2 ^ 63) ≤ (n : Int) := by omega
  have a2 : (n : Int) < 2 ^ 63 := by omega
  have a3 : [lI r].length * (n : Int).toNat ≤ sizeLine := by rw [sizeLine_eq, Int.toNat_natCast]; show 1 * n ≤ _; omega
  unfold fRepN
  simp only []
  rw [if_pos ⟨a1, a2, a3⟩, Int.toNat_natCast, e]
end
theorem sm_rows {t : List (List Int)} {n : Nat} (h : Latin n t) : smA (t.map fun r => lI r) = true ∧ PyData.depthAll (t.map fun r => lI r) ≤ 1 ∧ PyData.bulkAll (t.map fun r => lI r) ≤ 64 * 65 := by
  have hs := h.small
  have hl := h.len
  have rows : ∀ r ∈ t, r.length = n ∧ ∀ c ∈ r, c.natAbs < 1000000000000000000 := fun r hr => by
    obtain ⟨i, hi, rfl⟩ := List.getElem_of_mem hr
    have z : t.getD i [] = t[i] := by rw [List.getD_eq_getElem?_getD, List.getElem?_eq_getElem hi]; rfl
    have p := h.row i (by omega)
    rw [z] at p
    refine ⟨by rw [p.length_eq, rngI_len], fun c hc => ?_⟩
    have := mem_rngI.mp (p.mem_iff.mp hc)
    omega
  have key : ∀ u : List (List Int), (∀ r ∈ u, r.length = n ∧ ∀ c ∈ r, c.natAbs < 1000000000000000000) → smA (u.map fun r => lI r) = true ∧ PyData.depthAll (u.map fun r => lI r) ≤ 1 ∧ PyData.bulkAll (u.map fun r => lI r) ≤ u.length * 65 := by
    intro u
    induction u with
    | nil => intro _; simp [smA, PyData.depthAll, PyData.bulkAll]
    | cons r u ih =>
      intro hu
      have ⟨a, b, c⟩ := ih fun x hx => hu x (List.mem_cons_of_mem _ hx)
      have ⟨d, e⟩ := hu r (List.mem_cons_self ..)
      have f : smI (lI r) = true := smA_ints (ns := r) e
      refine ⟨?_, ?_, ?_⟩
      · show (smI (lI r) && smA (u.map fun r => lI r)) = true
        rw [f, a]; rfl
      · simp only [List.map_cons, PyData.depthAll, PyData.depth, depth_ints]
        omega
      · simp only [List.map_cons, PyData.bulkAll, PyData.bulk, bulk_ints, List.length_cons]
        omega
  have ⟨a, b, c⟩ := key t rows
  refine ⟨a, b, ?_⟩
  have : t.length * 65 ≤ 64 * 65 := Nat.mul_le_mul_right _ (by omega)
  omega
theorem repr_chain {n : Nat} {t : List (List Int)} {st en : Nat} (h : ChainOk n t st en) : fRepr [chD t st en] = .ok (.val (.str (chD t st en).shown)) := by
  have ⟨a, b, c⟩ := sm_rows h.lat
  have h1 := h.s
  have h2 := h.e
  have hs := h.lat.small
  have a' : smI (sqD t) = true := a
  have s1 : smI (.int (st : Int)) = true := by simp only [smI, decide_eq_true_eq]; omega
  have s2 : smI (.int (en : Int)) = true := by simp only [smI, decide_eq_true_eq]; omega
  refine fRepr_ok ?_ ?_ ?_
  · show smA [_, _, _] = true
    simp only [smA, a', s1, s2]
    rfl
  · simp only [PyData.depth, PyData.depthAll]
    omega
  · simp only [PyData.bulk, PyData.bulkAll]
    omega
theorem repr_nat {k : Nat} (h : k < 1000000000000000000) : fRepr [.int (k : Int)] = .ok (.val (.str (PyData.int (k : Int)).shown)) := fRepr_ok (by simp only [smI, decide_eq_true_eq]; omega) (by simp [PyData.depth]) (by simp [PyData.bulk])
theorem ne_nat {a : Nat} : fNe (.int (a : Int)) (.int (a : Int)) = .ok (.bool false) := by rw [fNe_i]; simp
noncomputable def p5__law_right : MS := (mIfS (mOrT (mT (mOp fNotN (mFrz (mCallV 1 F_is_chain (mCons (mVar 3) mNil))) (mC (.bool true)))) (mT (mOp fNotN (mFrz (mCallO [0] 0 1 1 F_is_chain mNil (mCons (mVar 3) mNil))) (mC (.bool true))))) (mRet (mVal (mC (.bool false)))) mNext)
noncomputable def p6__law_right : MS := (mSet 5 (mVal (mFrz (mLst (mCons (mC .none) (mCons (mTup mNil) (mCons (mFrz (mLst mNil)) (mCons (mC (.dict [])) (mCons (mC (.int 5)) (mCons (mFrz (mCall fListOf (mCons (mVar 3) mNil))) (mCons (mFrz (mSlice (mVar 3) mNoPart (mPart (mC (.int 2))))) (mCons (mOp fAdd (mVar 3) (mTup (mCons (mC (.int 0)) mNil))) (mCons (mTup (mCons (mVar 1) (mCons (mNeg (mC (.int 1))) (mCons (mC (.int 0)) mNil)))) (mCons (mTup (mCons (mVar 1) (mCons (mVar 2) (mCons (mC (.int 0)) mNil)))) (mCons (mTup (mCons (mVar 1) (mCons (mC (.bool true)) (mCons (mC (.int 0)) mNil)))) mNil)))))))))))))))
noncomputable def p7__law_right : MS := (mSet 5 (mVal (mOp fAdd (mVar 5) (mFrz (mLst (mCons (mTup (mCons (mVar 1) (mCons (mC (.int 0)) (mCons (mVar 2) mNil)))) (mCons (mTup (mCons (mVar 1) (mCons (mC (.int 0)) (mCons (mC .none) mNil)))) (mCons (mTup (mCons (mVar 1) (mCons (mC (.str "0")) (mCons (mC (.int 0)) mNil)))) (mCons (mTup (mCons (mFrz (mSlice (mVar 1) (mPart (mC (.int 1))) mNoPart)) (mCons (mC (.int 0)) (mCons (mC (.int 0)) mNil)))) (mCons (mTup (mCons (mFrz (mCall fTupOf (mCons (mVar 1) mNil))) (mCons (mC (.int 0)) (mCons (mC (.int 0)) mNil)))) (mCons (mTup (mCons (mFrz (mLst (mCons (mFrz (mLst (mCons (mC (.int 0)) mNil))) mNil))) (mCons (mC (.int 0)) (mCons (mC (.int 0)) mNil)))) mNil)))))))))))
noncomputable def p8__law_right : MS := (mSet 5 (mVal (mOp fAdd (mVar 5) (mFrz (mLst (mCons (mTup (mCons (mVar 1) (mCons (mC (.int 0)) (mCons (mNeg (mC (.int 1))) mNil)))) (mCons (mTup (mCons (mVar 1) (mCons (mC (.int 0)) (mCons (mC (.bool true)) mNil)))) (mCons (mTup (mCons (mVar 1) (mCons (mC .none) (mCons (mC (.int 0)) mNil)))) (mCons (mTup (mCons (mFrz (mLst (mCons (mFrz (mLst (mCons (mC (.int 0)) (mCons (mC (.int 1)) mNil)))) (mCons (mFrz (mLst (mCons (mC (.int 0)) (mCons (mC (.int 1)) mNil)))) mNil)))) (mCons (mC (.int 0)) (mCons (mC (.int 0)) mNil)))) (mCons (mTup (mCons (mFrz (mLst (mCons (mFrz (mLst (mCons (mC (.int 0)) (mCons (mC (.int 0)) mNil)))) (mCons (mFrz (mLst (mCons (mC (.int 1)) (mCons (mC (.int 1)) mNil)))) mNil)))) (mCons (mC (.int 0)) (mCons (mC (.int 0)) mNil)))) (mCons (mTup (mCons (mFrz (mOpN fRepN (mFrz (mSlice (mVar 1) mNoPart (mPart (mC (.int 1))))) (mVar 2))) (mCons (mC (.int 0)) (mCons (mC (.int 0)) mNil)))) mNil)))))))))))
noncomputable def p9__law_right : MS := (mIfS (mT (mOp fNe (mFrz (mLc (mItems (mVar 5)) cg__law_right_0 ct__law_right_0 ce__law_right_0 [15])) (mFrz (mLst mNil)))) (mRet (mVal (mC (.bool false)))) mNext)
section
variable {n : Nat} {t : List (List Int)} {st en : Nat} {g : List PyData} {kept : PyData}
theorem right_t1 (h : ChainOk n t st en) : p6__law_right [.io 0 g, .val (sqD t), iV n, .val (chD t st en), .val kept, .emp, .emp, .emp, .emp, .emp, .emp, .emp, .emp, .emp, .emp, .emp, .emp] = .ok (.nx, [.io 0 g, .val (sqD t), iV n, .val (chD t st en), .val kept, .val (.list (oddL1 n t st en)), .emp, .emp, .emp, .emp, .emp, .emp, .emp, .emp, .emp, .emp, .emp]) := by
  have lo : fListOf [chD t st en] = .ok (.own [sqD t, .int (st : Int), .int (en : Int)]) := rfl
  have sl : fSl (chD t st en) none (some 2) = .ok (.val (.tuple [sqD t, .int (st : Int)])) := rfl
  have ad : fAdd (chD t st en) (.tuple [.int 0]) = .ok (.tuple [sqD t, .int (st : Int), .int (en : Int), .int 0]) := fAdd_t (by simp)
  unfold p6__law_right
  decreasing_with first | (with_reducible exact lo) | (with_reducible exact sl) | (with_reducible exact ad)
theorem right_t2 (h : ChainOk n t st en) : p7__law_right [.io 0 g, .val (sqD t), iV n, .val (chD t st en), .val kept, .val (.list (oddL1 n t st en)), .emp, .emp, .emp, .emp, .emp, .emp, .emp, .emp, .emp, .emp, .emp] = .ok (.nx, [.io 0 g, .val (sqD t), iV n, .val (chD t st en), .val kept, .val (.list (oddL1 n t st en ++ oddL2 n t)), .emp, .emp, .emp, .emp, .emp, .emp, .emp, .emp, .emp, .emp, .emp]) := by
  have s1 := sl_drop1 t
  have tu : fTupOf [sqD t] = .ok (.val (.tuple (t.map fun r => lI r))) := rfl
  have ad : fAdd (.list (oddL1 n t st en)) (.list (oddL2 n t)) = .ok (.list (oddL1 n t st en ++ oddL2 n t)) := fAdd_l (by simp)
  unfold p7__law_right
  decreasing_with first | (with_reducible exact s1) | (with_reducible exact tu) | (with_reducible exact ad)
theorem right_t3 (h : ChainOk n t st en) : p8__law_right [.io 0 g, .val (sqD t), iV n, .val (chD t st en), .val kept, .val (.list (oddL1 n t st en ++ oddL2 n t)), .emp, .emp, .emp, .emp, .emp, .emp, .emp, .emp, .emp, .emp, .emp] = .ok (.nx, [.io 0 g, .val (sqD t), iV n, .val (chD t st en), .val kept, .val (.list (oddL1 n t st en ++ oddL2 n t ++ oddL3 n t)), .emp, .emp, .emp, .emp, .emp, .emp, .emp, .emp, .emp, .emp, .emp]) := by
  have h2 := h.lat.two
  have hs := h.lat.small
  have hl := h.lat.len
  have s1 := sl_take1 t (by rintro rfl; simp at hl; omega)
  have rp := rep_row n hs (t.getD 0 [])
  have ad : fAdd (.list (oddL1 n t st en ++ oddL2 n t)) (.list (oddL3 n t)) = .ok (.list (oddL1 n t st en ++ oddL2 n t ++ oddL3 n t)) := fAdd_l (by simp)
  unfold p8__law_right
  decreasing_with first | (with_reducible exact s1) | (with_reducible exact rp) | (with_reducible exact ad)
theorem right_t4 (h : ChainOk n t st en) : p9__law_right [.io 0 g, .val (sqD t), iV n, .val (chD t st en), .val kept, .val (.list (oddL1 n t st en ++ oddL2 n t ++ oddL3 n t)), .emp, .emp, .emp, .emp, .emp, .emp, .emp, .emp, .emp, .emp, .emp] = .ok (.nx, [.io 0 g, .val (sqD t), iV n, .val (chD t st en), .val kept, .val (.list (oddL1 n t st en ++ oddL2 n t ++ oddL3 n t)), .emp, .emp, .emp, .emp, .emp, .emp, .emp, .emp, .emp, .emp, .emp]) := by
  have lc := lcL_pure (g := cg__law_right_0) (tt := ct__law_right_0) (te := ce__law_right_0) (vs := [15]) (fun d : PyData => d) (fun _ => false) (fun d => d) [.io 0 g, .val (sqD t), iV n, .val (chD t st en), .val kept, .val (.list (oddL1 n t st en ++ oddL2 n t ++ oddL3 n t)), .emp, .emp, .emp, .emp, .emp, .emp, .emp, .emp, .emp, .emp, .emp] (oddL1 n t st en ++ oddL2 n t ++ oddL3 n t) [] (by rw [sizeLine_eq]; simp) (by
    intro d hd
    have nc := ty_is_chain (odd_no h d hd)
    refine ⟨[.io 0 g, .val (sqD t), iV n, .val (chD t st en), .val kept, .val (.list (oddL1 n t st en ++ oddL2 n t ++ oddL3 n t)), .emp, .emp, .emp, .emp, .emp, .emp, .emp, .emp, .emp, .val d, .emp], rfl, ?_, fun z => (nomatch z), rfl⟩
    show ct__law_right_0 [.io 0 g, .val (sqD t), iV n, .val (chD t st en), .val kept, .val (.list (oddL1 n t st en ++ oddL2 n t ++ oddL3 n t)), .emp, .emp, .emp, .emp, .emp, .emp, .emp, .emp, .emp, .val d, .emp] = _
    decreasing_with first | (with_reducible exact nc) | ((focus ((with_reducible show fNotN _ _ = _); rfl))))
  have fl : (oddL1 n t st en ++ oddL2 n t ++ oddL3 n t).filter (fun _ => false) = [] := by rw [List.filter_eq_nil_iff]; simp
  rw [fl, List.map_id'] at lc
  unfold p9__law_right
  apply ev_ifF
  · decreasing_with first | (focus ((with_reducible show lcL _ _ _ _ _ _ _ = _); exact lc)) | ((focus ((with_reducible show fNe _ _ = _); rfl)))
  · rfl
  decreasing_with fail
theorem right_is (h : ChainOk n t st en) : p5__law_right [.io 0 g, .val (sqD t), iV n, .val (chD t st en), .val kept, .emp, .emp, .emp, .emp, .emp, .emp, .emp, .emp, .emp, .emp, .emp, .emp] = .ok (.nx, [.io 0 g, .val (sqD t), iV n, .val (chD t st en), .val kept, .emp, .emp, .emp, .emp, .emp, .emp, .emp, .emp, .emp, .emp, .emp, .emp]) := by
  have yes := ty_is_chain (ty_chain_fits h)
  unfold p5__law_right
  apply ev_ifF
  · apply ev_orF
    · decreasing_with first | (with_reducible exact yes) | ((focus ((with_reducible show fNotN _ _ = _); rfl)))
    · rfl
    decreasing_with first | (with_reducible exact yes) | ((focus ((with_reducible show fNotN _ _ = _); rfl)))
  · rfl
  decreasing_with fail
end
theorem fNe_lN (c : List Nat) : fNe (.list (lN c)) (.list (lN c)) = .ok (.bool false) := by
  have z : fNe (.list (lN c)) (.list (lN c)) = .ok (.bool (!PyData.eqv (.list (lN c)) (.list (lN c)))) := if_pos ⟨shaped_lN _, shaped_lN _⟩
  have nd : (PyData.list (lN c)).hasDict = false := by rw [lN_lI]; exact noDict_lI _
  rw [z, eqv_refl _ nd]; rfl
theorem repr_lN {c : List Nat} (h : ∀ x ∈ c, x < 1000000) (hl : c.length ≤ 100000) : fRepr [.list (lN c)] = .ok (.val (.str (PyData.list (lN c)).shown)) := by
  rw [lN_lI]
  refine fRepr_lI (fun m hm => ?_) (by rw [List.length_map]; omega)
  obtain ⟨x, hx, rfl⟩ := List.mem_map.mp hm
  have := h x hx
  omega
theorem sl_take {c : List Nat} {p : Nat} : fSl (.list (lN c)) none (some (p : Int)) = .ok (.own (lN (c.take p))) := by
  show Res.ok (Sl.own (CW.cutD (lN c) none (some (p : Int)))) = _
  rw [cut_take, lN, lN, List.map_take]
theorem sl_from {c : List Nat} {p : Nat} : fSl (.list (lN c)) (some ((p : Int) + 1)) none = .ok (.own (lN (c.drop (p + 1)))) := by
  show Res.ok (Sl.own (CW.cutD (lN c) (some ((p : Int) + 1)) none)) = _
  rw [show ((p : Int) + 1) = ((p + 1 : Nat) : Int) by omega, cut_drop, lN, lN, List.map_drop]
theorem ad_put1 {c : List Nat} {p x : Nat} (hl : c.length ≤ 10000) : fAdd (.list (lN (c.take p))) (.list [.int (x : Int)]) = .ok (.list (lN (c.take p ++ [x]))) := by
  have tl : (c.take p).length ≤ 10000 := by rw [List.length_take]; omega
  rw [fAdd_l (by rw [List.length_map]; simp; omega), lN_app]
  rfl
theorem ad_put2 {c : List Nat} {p x : Nat} (hl : c.length ≤ 10000) : fAdd (.list (lN (c.take p ++ [x]))) (.list (lN (c.drop (p + 1)))) = .ok (.list (lN (putN c p x))) := by
  rw [fAdd_l (by rw [List.length_map, List.length_map]; simp; omega), ← lN_app]
  rfl
theorem eq_nat {a b : Nat} : fEq (.int (a : Int)) (.int (b : Int)) = .ok (.bool (a == b)) := by
  have eb : ((a : Int) == (b : Int)) = (a == b) := by
    rw [Bool.eq_iff_iff, beq_iff_eq, beq_iff_eq]
    omega
  rw [fEq_i, eb]
theorem filter_one' {P : Nat → Bool} {n x : Nat} (hx : x < n) (h : ∀ y, y < n → (P y = true ↔ y = x)) : (List.range n).filter P = [x] := by
  have e : (List.range n).filter P = (List.range n).filter (· == x) := List.filter_congr fun y hy => by
    rw [Bool.eq_iff_iff, h y (List.mem_range.mp hy), beq_iff_eq]
  rw [e]
  clear e h
  induction n with
  | zero => omega
  | succ n ih =>
    rw [List.range_succ, List.filter_append]
    by_cases q : x = n
    · subst q
      have z : (List.range x).filter (· == x) = [] := by
        rw [List.filter_eq_nil_iff]
        intro a ha
        have := List.mem_range.mp ha
        simp
        omega
      rw [z]
      simp
    · rw [ih (by omega)]
      have z : [n].filter (· == x) = [] := by
        rw [List.filter_eq_nil_iff]
        intro a ha
        rw [List.mem_singleton] at ha
        subst ha
        simp
        omega
      rw [z]; rfl
section
variable {n : Nat} {t : List (List Int)} {st en : Nat} {g : List PyData} {kept tried due giv : PyData} {j6 told : Sl} {c : List Nat} {p : Nat} {j12 j13 j14 : Sl}
theorem right_signs (h : ChainOk n t st en) (hc : ∀ x ∈ c, x < n) (hp : p < c.length) (hl : c.length ≤ 100) {x : Nat} (hx : SignOk n t st en c p x) :
    lcL cg__law_right_2 ct__law_right_2 ce__law_right_2 [16] (rngD 0 (n : Int).toNat) [] [.io 0 g, .val (sqD t), iV n, .val (chD t st en), .val kept, .val tried, j6, .val (.list (lN c)), .val due, .val giv, told, iV p, j12, j13, j14, .emp, .emp] = .ok ([.int (x : Int)], [.io 0 g, .val (sqD t), iV n, .val (chD t st en), .val kept, .val tried, j6, .val (.list (lN c)), .val due, .val giv, told, iV p, j12, j13, j14, .emp, .emp]) := by
  have hs := h.lat.small
  have lc := lcL_pure (g := cg__law_right_2) (tt := ct__law_right_2) (te := ce__law_right_2) (vs := [16]) (fun (i : Nat) => PyData.int (i : Int)) (fun s => lastN t st (putN c p s) == en) (fun i => .int (i : Int)) [.io 0 g, .val (sqD t), iV n, .val (chD t st en), .val kept, .val tried, j6, .val (.list (lN c)), .val due, .val giv, told, iV p, j12, j13, j14, .emp, .emp] (List.range n) [] (by rw [sizeLine_eq]; simp; omega) (by
    intro s hsn
    have hsn' := List.mem_range.mp hsn
    have s1 := sl_take (c := c) (p := p)
    have s2 := sl_from (c := c) (p := p)
    have a1 := ad_put1 (c := c) (p := p) (x := s) (by omega)
    have a2 := ad_put2 (c := c) (p := p) (x := s) (by omega)
    have ls := ty__law_states (en := en) (c := putN c p s) h.lat h.s (putN_lt hc hsn') (by rw [putN_len hp]; omega)
    have pi := path_ix (t := t) (c := putN c p s) (s := st) (by rw [putN_len hp]; omega)
    have fe := eq_nat (a := lastN t st (putN c p s)) (b := en)
    refine ⟨[.io 0 g, .val (sqD t), iV n, .val (chD t st en), .val kept, .val tried, j6, .val (.list (lN c)), .val due, .val giv, told, iV p, j12, j13, j14, .emp, iV s], rfl, ?_, fun _ => ?_, rfl⟩
    · show ct__law_right_2 [.io 0 g, .val (sqD t), iV n, .val (chD t st en), .val kept, .val tried, j6, .val (.list (lN c)), .val due, .val giv, told, iV p, j12, j13, j14, .emp, iV s] = _
      decreasing_with first | (with_reducible exact s1) | (with_reducible exact s2) | (with_reducible exact a1) | (with_reducible exact a2) | (with_reducible exact ls) | (with_reducible exact pi) | (with_reducible exact fe) | ((focus ((with_reducible show fIx (chD _ _ _) _ = _); rfl)))
    · show ce__law_right_2 [.io 0 g, .val (sqD t), iV n, .val (chD t st en), .val kept, .val tried, j6, .val (.list (lN c)), .val due, .val giv, told, iV p, j12, j13, j14, .emp, iV s] = _
      decreasing_with fail)
  have em : (List.range n).map (fun (i : Nat) => PyData.int (i : Int)) = rngD 0 (n : Int).toNat := by
    rw [rngD_map, Int.toNat_natCast, List.map_map]
    apply List.map_congr_left
    intro a _
    show PyData.int (a : Int) = .int (0 + (a : Int))
    rw [Int.zero_add]
  rw [em, filter_one' hx.1 fun y hy => ⟨fun e => SignOk.uniq h.lat h.s hc ⟨hy, beq_iff_eq.mp e⟩ hx, fun e => by rw [e]; exact beq_iff_eq.mpr hx.2⟩] at lc
  exact lc
theorem right_place (h : ChainOk n t st en) (hc : ∀ x ∈ c, x < n) (hp : p < c.length) (hl : c.length ≤ 100) :
    ∃ k12, b__law_right_0 [.io 0 g, .val (sqD t), iV n, .val (chD t st en), .val kept, .val tried, j6, .val (.list (lN c)), .val due, .val giv, told, iV p, j12, j13, j14, .emp, .emp] = .ok (.nx, [.io 0 g, .val (sqD t), iV n, .val (chD t st en), .val kept, .val tried, j6, .val (.list (lN c)), .val due, .val giv, told, iV p, k12, j13, j14, .emp, .emp]) := by
  have hs := h.lat.small
  obtain ⟨x, hx, sg⟩ := ty_sign_at h hc hp (by omega)
  have hxn := hx.1
  have lc := right_signs (g := g) (kept := kept) (tried := tried) (due := due) (giv := giv) (j6 := j6) (told := told) (j12 := j12) (j13 := j13) (j14 := j14) h hc hp hl hx
  have rp : fRepr [.list [.int (x : Int)]] = .ok (.val (.str (lI [(x : Int)]).shown)) := fRepr_lI (ns := [(x : Int)]) (fun m hm => by rw [List.mem_singleton] at hm; subst hm; omega) (by simp)
  have ix0 : fIx (.list [.int (x : Int)]) (.int 0) = .ok (.int (x : Int)) := rfl
  have nn := ne_nat (a := x)
  have s1 := sl_take (c := c) (p := p)
  have s2 := sl_from (c := c) (p := p)
  have a1 := ad_put1 (c := c) (p := p) (x := x) (by omega)
  have a2 := ad_put2 (c := c) (p := p) (x := x) (by omega)
  have rc := ty_is_right_chain (c := putN c p x) h (putN_lt hc hxn) putN_ne (by rw [putN_len hp]; omega)
  rw [beq_iff_eq.mpr hx.2] at rc
  have rk : rOk (n : Int) = true := rOk_small (by omega) (by omega)
  refine ⟨.val (.list [.int (x : Int)]), ?_⟩
  show b__law_right_0 [.io 0 g, .val (sqD t), iV n, .val (chD t st en), .val kept, .val tried, j6, .val (.list (lN c)), .val due, .val giv, told, iV p, j12, j13, j14, .emp, .emp] = _
  apply ev_seq
  · decreasing_with first | (with_reducible exact rk) | (focus ((with_reducible show lcL _ _ _ _ _ _ _ = _); exact lc))
  apply ev_seq
  · apply ev_ifF
    · apply ev_orF
      · decreasing_with first | (with_reducible exact sg) | (with_reducible exact rp) | (with_reducible exact fNe_str)
      · rfl
      decreasing_with first | (with_reducible exact sg) | (with_reducible exact ix0) | (with_reducible exact nn)
    · rfl
    decreasing_with fail
  apply ev_ifF
  · decreasing_with first | (with_reducible exact s1) | (with_reducible exact s2) | (with_reducible exact a1) | (with_reducible exact a2) | (with_reducible exact rc) | ((focus ((with_reducible show fNotN _ _ = _); rfl)))
  · rfl
  decreasing_with fail
end
section
variable {n : Nat} {t : List (List Int)} {st en : Nat} {kept tried : PyData} {j6 j7 j8 j9 j10 j11 j12 j13 j14 : Sl}
theorem right_code (h : ChainOk n t st en) {B : Int} {L : Nat} (hL : L ≤ 8) {g : List PyData} (hg : GenOk (B + 4 * L) g) (hB : 0 ≤ B) :
    ∃ c g', c.length = L ∧ (∀ x ∈ c, x < n) ∧ GenOk B g' ∧ lcL cg__law_right_1 ct__law_right_1 ce__law_right_1 [11] (rngD 0 (L : Int).toNat) [] [.io 0 g, .val (sqD t), iV n, .val (chD t st en), .val kept, .val tried, j6, j7, j8, j9, j10, .emp, j12, j13, j14, .emp, .emp] = .ok (lN c, [.io 0 g', .val (sqD t), iV n, .val (chD t st en), .val kept, .val tried, j6, j7, j8, j9, j10, .emp, j12, j13, j14, .emp, .emp]) := by
  have h2 := h.lat.two
  have hs := h.lat.small
  obtain ⟨ys, δ', e1, c, g1, rfl, hl, hc, G1, rfl⟩ := lcL_inv (g := cg__law_right_1) (tt := ct__law_right_1) (te := ce__law_right_1) (vs := [11]) (fun i acc δ => ∃ (c : List Nat) (g' : List PyData), acc = lN c ∧ c.length = i ∧ (∀ x ∈ c, x < n) ∧ GenOk (B + 4 * (L - i)) g' ∧ δ = [.io 0 g', .val (sqD t), iV n, .val (chD t st en), .val kept, .val tried, j6, j7, j8, j9, j10, .emp, j12, j13, j14, .emp, .emp])
    (ds := rngD 0 (L : Int).toNat) (acc := []) (δ := [.io 0 g, .val (sqD t), iV n, .val (chD t st en), .val kept, .val tried, j6, j7, j8, j9, j10, .emp, j12, j13, j14, .emp, .emp]) 0 (by rw [len_rng]; show 0 + _ ≤ _; rw [sizeLine_eq]; omega) ⟨[], g, rfl, rfl, fun _ h => (nomatch h), hg.less (by omega), rfl⟩ (by
      rintro i d acc δ hd ⟨c, g', rfl, hl, hc, G, rfl⟩
      have hi' : i < L := by
        have z := (List.getElem?_eq_some_iff.mp hd).1
        rw [len_rng] at z
        omega
      obtain ⟨r, g2, r0, r1, G2, e2⟩ := ty__law_random (B := B + 4 * (L - (0 + i + 1 : Nat))) (g := g') (bound := (n : Int)) (G.less (by omega)) (by omega) (by omega) (by omega)
      obtain ⟨x, rfl⟩ : ∃ x : Nat, r = x := ⟨r.toNat, by omega⟩
      refine ⟨[.io 0 g', .val (sqD t), iV n, .val (chD t st en), .val kept, .val tried, j6, j7, j8, j9, j10, .val d, j12, j13, j14, .emp, .emp], [.io 0 g', .val (sqD t), iV n, .val (chD t st en), .val kept, .val tried, j6, j7, j8, j9, j10, .val d, j12, j13, j14, .emp, .emp], true, rfl, rfl, fun _ => ⟨.int (x : Int), [.io 0 g2, .val (sqD t), iV n, .val (chD t st en), .val kept, .val tried, j6, j7, j8, j9, j10, .val d, j12, j13, j14, .emp, .emp], ?_, c ++ [x], g2, by rw [lN_app]; rfl, by simp [hl], ?_, G2, rfl⟩, fun z => (nomatch z)⟩
      · show ce__law_right_1 [.io 0 g', .val (sqD t), iV n, .val (chD t st en), .val kept, .val tried, j6, j7, j8, j9, j10, .val d, j12, j13, j14, .emp, .emp] = _
        decreasing_with first | (with_reducible exact e2)
      · intro y hm
        rcases List.mem_append.mp hm with q | q
        · exact hc y q
        · rw [List.mem_singleton] at q
          subst q
          omega)
  rw [len_rng] at hl G1
  exact ⟨c, g1, by omega, hc, G1.less (by omega), e1⟩
theorem right_turn (h : ChainOk n t st en) {B : Int} {g : List PyData} (hg : GenOk (B + 40) g) (hB : 0 ≤ B) (h11 : j11 = .emp ∨ ∃ d, j11 = .val d) :
    ∃ g' c k8 k9 k10 k11 k12, GenOk B g' ∧ (k11 = .emp ∨ ∃ d, k11 = .val d) ∧ b__law_right_1 [.io 0 g, .val (sqD t), iV n, .val (chD t st en), .val kept, .val tried, j6, j7, j8, j9, j10, j11, j12, j13, j14, .emp, .emp] = .ok (.nx, [.io 0 g', .val (sqD t), iV n, .val (chD t st en), .val kept, .val tried, j6, .val c, k8, k9, k10, k11, k12, j13, j14, .emp, .emp]) := by
  have h2 := h.lat.two
  have hs := h.lat.small
  obtain ⟨q, g1, q0, q1, G1, e1⟩ := ty__law_random (B := B + 36) (g := g) (bound := 8) (hg.less (by omega)) (by omega) (by omega) (by omega)
  obtain ⟨L, hL⟩ : ∃ L : Nat, 1 + q = L := ⟨(1 + q).toNat, by omega⟩
  have ad : fAdd (.int 1) (.int q) = .ok (.int (L : Int)) := by rw [← hL]; rfl
  obtain ⟨c, g2, cl, cn, G2, lc⟩ := right_code (kept := kept) (tried := tried) (j6 := j6) (j7 := j7) (j8 := j8) (j9 := j9) (j10 := j10) (j12 := j12) (j13 := j13) (j14 := j14) (B := B) (L := L) h (by omega) (G1.less (by omega)) hB
  have c0 : c ≠ [] := by rintro rfl; simp at cl; omega
  have rk : rOk (L : Int) = true := rOk_small (by omega) (by omega)
  have cm : calmAt [.io 0 g1, .val (sqD t), iV n, .val (chD t st en), .val kept, .val tried, j6, j7, j8, j9, j10, j11, j12, j13, j14, .emp, .emp] [11] = true := by
    rcases h11 with rfl | ⟨d, rfl⟩ <;> rfl
  have ls := ty__law_states (en := en) h.lat h.s cn (by omega)
  have so := ty_states_of h cn c0 (by omega)
  have pn : ∀ x ∈ pathN t st c, x < n := by
    have key : ∀ (c : List Nat) (s : Nat), s < n → (∀ x ∈ c, x < n) → ∀ x ∈ pathN t s c, x < n := by
      intro c
      induction c with
      | nil =>
        intro s hs _ x hx
        rw [show pathN t s [] = [s] from rfl, List.mem_singleton] at hx
        rw [hx]; exact hs
      | cons y c ih =>
        intro s hs hc x hx
        rw [show pathN t s (y :: c) = s :: pathN t (E t s y) c from rfl, List.mem_cons] at hx
        rcases hx with rfl | hx
        · exact hs
        · exact ih _ (h.lat.lt hs (hc y (List.mem_cons_self ..))) (fun z hz => hc z (List.mem_cons_of_mem _ hz)) x hx
    exact key c st h.s cn
  have pl := path_len t c st
  have r1 := repr_lN (c := c) (fun x hx => by have := cn x hx; omega) (by omega)
  have r2 := repr_lN (c := pathN t st c) (fun x hx => by have := pn x hx; omega) (by omega)
  have pi := path_ix (t := t) (c := c) (s := st) (by omega)
  have rc := ty_is_right_chain h cn c0 (by omega)
  have fe := eq_nat (a := lastN t st c) (b := en)
  have rb : fRepr [.bool (lastN t st c == en)] = .ok (.val (.str (PyData.bool (lastN t st c == en)).shown)) := fRepr_ok rfl (by simp [PyData.depth]) (by simp [PyData.bulk])
  have nl := fNe_lN (pathN t st c)
  have ap : fAppend (lN (pathN t st c)) [.none] = .ok (.none, lN (pathN t st c) ++ [.none]) := if_pos (by rw [sizeLine_eq, List.length_map]; omega)
  have ln : fLen [.list (lN c)] = .ok (iV L) := by
    show Res.ok (iV ((lN c).length : Nat)) = _
    rw [List.length_map, cl]
  obtain ⟨δ', ef, k11, k12, h11', rfl⟩ := forL_rng (g := g__law_right_0) (b := b__law_right_0) (n := L) (fun _ δ => ∃ k11 k12, (k11 = .emp ∨ ∃ d, k11 = .val d) ∧ δ = [.io 0 g2, .val (sqD t), iV n, .val (chD t st en), .val kept, .val tried, j6, .val (.list (lN c)), .val (.list (lN (pathN t st c))), .val (.str (PyData.list (lN c)).shown), .own (lN (pathN t st c) ++ [.none]), k11, k12, j13, j14, .emp, .emp]) (δ := [.io 0 g2, .val (sqD t), iV n, .val (chD t st en), .val kept, .val tried, j6, .val (.list (lN c)), .val (.list (lN (pathN t st c))), .val (.str (PyData.list (lN c)).shown), .own (lN (pathN t st c) ++ [.none]), j11, j12, j13, j14, .emp, .emp]) ⟨_, _, h11, rfl⟩ (by
    rintro p δ hp ⟨k11, k12, _, rfl⟩
    obtain ⟨l12, e⟩ := right_place (p := p) (g := g2) (kept := kept) (tried := tried) (due := .list (lN (pathN t st c))) (giv := .str (PyData.list (lN c)).shown) (j6 := j6) (told := .own (lN (pathN t st c) ++ [.none])) (j12 := k12) (j13 := j13) (j14 := j14) h cn (by omega) (by omega)
    exact ⟨_, _, rfl, e, iV p, l12, .inr ⟨_, rfl⟩, rfl⟩)
  refine ⟨g2, .list (lN c), .val (.list (lN (pathN t st c))), .val (.str (PyData.list (lN c)).shown), .own (lN (pathN t st c) ++ [.none]), k11, k12, G2, h11', ?_⟩
  show b__law_right_1 [.io 0 g, .val (sqD t), iV n, .val (chD t st en), .val kept, .val tried, j6, j7, j8, j9, j10, j11, j12, j13, j14, .emp, .emp] = _
  apply ev_seq
  · decreasing_with first | (with_reducible exact e1) | (with_reducible exact ad) | (with_reducible exact rk) | (with_reducible exact cm) | (focus ((with_reducible show lcL _ _ _ _ _ _ _ = _); exact lc))
  apply ev_seq
  · decreasing_with first | (with_reducible exact ls) | (with_reducible exact r1)
  apply ev_seq
  · decreasing_with first | (with_reducible exact so)
  apply ev_seq
  · apply ev_ifF
    · apply ev_orF
      · decreasing_with first | (with_reducible exact r2) | (with_reducible exact fNe_str)
      · rfl
      apply ev_orF
      · decreasing_with first | (with_reducible exact so) | (with_reducible exact nl)
      · rfl
      decreasing_with first | (with_reducible exact rc) | (with_reducible exact rb) | (with_reducible exact pi) | (with_reducible exact fe) | (with_reducible exact fNe_str) | ((focus ((with_reducible show fIx (chD _ _ _) _ = _); rfl)))
    · rfl
    decreasing_with fail
  apply ev_seq
  · decreasing_with first | (with_reducible exact ap)
  apply ev_seq
  · decreasing_with first | (with_reducible exact ln) | (with_reducible exact rk) | (with_reducible apply ev_for (h2 := ef))
  apply ev_ifF
  · apply ev_orF
    · decreasing_with first | (with_reducible exact r1) | (with_reducible exact fNe_str)
    · rfl
    decreasing_with first | (with_reducible exact so) | (with_reducible exact nl)
  · rfl
  decreasing_with fail
end
theorem filter_len {α : Type} (P : α → Bool) (xs : List α) : (xs.filter P).length = sumL xs fun a => if P a = true then 1 else 0 := by
  have z := sumL_filter P (fun _ => 1) xs
  rw [sumL_const, Nat.mul_one] at z
  exact z
section
variable {n : Nat} {t : List (List Int)} {st en : Nat} {g : List PyData} {kept tried code : PyData} {j6 j8 j9 j10 j11 j12 j14 : Sl} {L : Nat}
theorem right_all (h : ChainOk n t st en) (hL : L ≤ 4) (h1 : 1 ≤ L) (hb : ∀ k, k ≤ L → n ^ k ≤ 1000) : ∃ ys : List (List Nat), ys.length = n ^ (L - 1) ∧
    lcL cg__law_right_3 ct__law_right_3 ce__law_right_3 [7] ((codes n L).map cD) [] [.io 0 g, .val (sqD t), iV n, .val (chD t st en), .val kept, .val tried, j6, .emp, j8, j9, j10, j11, j12, iV L, j14, .emp, .emp] = .ok (ys.map cD, [.io 0 g, .val (sqD t), iV n, .val (chD t st en), .val kept, .val tried, j6, .emp, j8, j9, j10, j11, j12, iV L, j14, .emp, .emp]) := by
  have cl := codes_len n L
  have hbL := hb L (by omega)
  have lc := lcL_pure (g := cg__law_right_3) (tt := ct__law_right_3) (te := ce__law_right_3) (vs := [7]) cD (fun c => lastN t st c == en) cD [.io 0 g, .val (sqD t), iV n, .val (chD t st en), .val kept, .val tried, j6, .emp, j8, j9, j10, j11, j12, iV L, j14, .emp, .emp] (codes n L) [] (by rw [sizeLine_eq]; show 0 + _ ≤ _; omega) (by
    intro c hc
    obtain ⟨hcl, hcn⟩ := codes_ok hc
    have rc := ty_is_right_chain (c := c) h hcn (by rintro rfl; simp at hcl; omega) (by omega)
    refine ⟨[.io 0 g, .val (sqD t), iV n, .val (chD t st en), .val kept, .val tried, j6, .val (cD c), j8, j9, j10, j11, j12, iV L, j14, .emp, .emp], rfl, ?_, fun _ => ?_, rfl⟩
    · show ct__law_right_3 [.io 0 g, .val (sqD t), iV n, .val (chD t st en), .val kept, .val tried, j6, .val (cD c), j8, j9, j10, j11, j12, iV L, j14, .emp, .emp] = _
      decreasing_with first | (with_reducible exact rc)
    · show ce__law_right_3 [.io 0 g, .val (sqD t), iV n, .val (chD t st en), .val kept, .val tried, j6, .val (cD c), j8, j9, j10, j11, j12, iV L, j14, .emp, .emp] = _
      decreasing_with fail)
  refine ⟨(codes n L).filter fun c => lastN t st c == en, ?_, lc⟩
  rw [filter_len]
  obtain ⟨m, rfl⟩ : ∃ m, L = m + 1 := ⟨L - 1, by omega⟩
  have z := h.lat.count h.s h.e (m + 1)
  rw [W_succ] at z
  rw [Nat.add_sub_cancel, ← z]
  exact sumL_cg fun c _ => by
    by_cases q : lastN t st c = en
    · rw [if_pos q, if_pos (beq_iff_eq.mpr q)]
    · rw [if_neg q, if_neg (by rw [beq_iff_eq]; exact q)]
theorem right_length (h : ChainOk n t st en) (hn : n ≤ 12) (hL : L ≤ 4) (h1 : 1 ≤ L) (hc7 : calmS (.val code) = true) :
    ∃ k14, b__law_right_2 [.io 0 g, .val (sqD t), iV n, .val (chD t st en), .val kept, .val tried, j6, .val code, j8, j9, j10, j11, j12, iV L, j14, .emp, .emp] = .ok (.nx, [.io 0 g, .val (sqD t), iV n, .val (chD t st en), .val kept, .val tried, j6, .val code, j8, j9, j10, j11, j12, iV L, k14, .emp, .emp]) := by
  have h2 := h.lat.two
  have p0 := ty__law_power (n := n) (m := L) (by omega) (by omega)
  have p1 := ty__law_power (n := n) (m := L - 1) (by omega) (by omega)
  rw [show ((L - 1 : Nat) : Int) = (L : Int) - 1 by omega] at p1
  have hm := ty_how_many_right_lists (L := L) h (by omega) h1
  have pb : n ^ (L - 1) ≤ 1728 := Nat.le_trans (Nat.pow_le_pow_left hn _) (Nat.le_trans (Nat.pow_le_pow_right (by omega) (show L - 1 ≤ 3 by omega)) (by decide))
  have rp : fRepr [.int ((n ^ (L - 1) : Nat) : Int)] = .ok (.val (.str (PyData.int ((n ^ (L - 1) : Nat) : Int)).shown)) := repr_nat (by omega)
  have nn := ne_nat (a := n ^ (L - 1))
  have last : ∀ s14 : Sl, mIfS (mOrT (mT (mOp fNe (mFrz (mCall fRepr (mCons (mFrz (mCallV 2 F_how_many_right_lists (mCons (mVar 3) (mCons (mVar 13) mNil)))) mNil))) (mFrz (mCall fRepr (mCons (mFrz (mCallV 2 F__law_power (mCons (mVar 2) (mCons (mOp fSub (mVar 13) (mC (.int 1))) mNil)))) mNil))))) (mT (mOp fNe (mFrz (mCallO [1, 0] 0 2 2 F_how_many_right_lists mNil (mCons (mVar 13) (mCons (mVar 3) mNil)))) (mFrz (mCallV 2 F__law_power (mCons (mVar 2) (mCons (mOp fSub (mVar 13) (mC (.int 1))) mNil))))))) (mRet (mVal (mC (.bool false)))) mNext [.io 0 g, .val (sqD t), iV n, .val (chD t st en), .val kept, .val tried, j6, .val code, j8, j9, j10, j11, j12, iV L, s14, .emp, .emp] = .ok (.nx, [.io 0 g, .val (sqD t), iV n, .val (chD t st en), .val kept, .val tried, j6, .val code, j8, j9, j10, j11, j12, iV L, s14, .emp, .emp]) := by
    intro s14
    apply ev_ifF
    · apply ev_orF
      · decreasing_with first | (with_reducible exact hm) | (with_reducible exact p1) | (with_reducible exact rp) | (with_reducible exact fNe_str)
      · rfl
      decreasing_with first | (with_reducible exact hm) | (with_reducible exact p1) | (with_reducible exact nn)
    · rfl
    decreasing_with fail
  by_cases small : n ^ L < 130
  · have lt : fLtI (.int ((n ^ L : Nat) : Int)) (.int 130) = .ok (.bool true) := by rw [fLtI_i, decide_eq_true (by omega)]
    have hb : ∀ k, k ≤ L → n ^ k ≤ 1000 := fun k hk => Nat.le_trans (Nat.pow_le_pow_right (by omega) hk) (by omega)
    have ac := ty__law_all_codes (n := n) (L := L) (by omega) (by omega) hb
    obtain ⟨ys, yl, lc⟩ := right_all (g := g) (kept := kept) (tried := tried) (j6 := j6) (j8 := j8) (j9 := j9) (j10 := j10) (j11 := j11) (j12 := j12) (j14 := j14) h hL h1 hb
    have ln : fLen [.list (ys.map cD)] = .ok (iV (n ^ (L - 1) : Nat)) := by
      show Res.ok (iV ((ys.map cD).length : Nat)) = _
      rw [List.length_map, yl]
    refine ⟨.val (.list (ys.map cD)), ?_⟩
    show b__law_right_2 [.io 0 g, .val (sqD t), iV n, .val (chD t st en), .val kept, .val tried, j6, .val code, j8, j9, j10, j11, j12, iV L, j14, .emp, .emp] = _
    apply ev_seq
    · apply ev_ifT
      · decreasing_with first | (with_reducible exact p0) | (with_reducible exact lt)
      · rfl
      apply ev_seq
      · decreasing_with first | (with_reducible exact ac) | (focus ((with_reducible show lcL _ _ _ _ _ _ _ = _); exact lc))
      apply ev_ifF
      · decreasing_with first | (with_reducible exact ln) | (with_reducible exact hm) | (with_reducible exact nn)
      · rfl
      decreasing_with fail
    exact last _
  · have lt : fLtI (.int ((n ^ L : Nat) : Int)) (.int 130) = .ok (.bool false) := by rw [fLtI_i, decide_eq_false (by omega)]
    refine ⟨j14, ?_⟩
    show b__law_right_2 [.io 0 g, .val (sqD t), iV n, .val (chD t st en), .val kept, .val tried, j6, .val code, j8, j9, j10, j11, j12, iV L, j14, .emp, .emp] = _
    apply ev_seq
    · apply ev_ifF
      · decreasing_with first | (with_reducible exact p0) | (with_reducible exact lt)
      · rfl
      decreasing_with fail
    exact last _
end
theorem ty__law_right {B : Int} {g : List PyData} (hg : GenOk (B + 400) g) (hB : 0 ≤ B) : ∃ g', F__law_right [.io 0 g] = .ok (.val (.bool true), [.io 0 g']) := by
  obtain ⟨n, t, g1, s, lat, hn, G1, hs, e1⟩ := ty__law_square (B := B + 200) (g := g) (hg.less (by omega)) (by omega)
  have rsv : resV s = some s := by rcases hs with rfl | rfl <;> rfl
  have frz : s.frz = .ok (sqD t) := by rcases hs with rfl | rfl <;> rfl
  have h2 := lat.two
  have ln : fLen [sqD t] = .ok (iV n) := by rw [fLen_ls, lat.len]
  obtain ⟨a, g2, a0, a1, G2, e3⟩ := ty__law_random (B := B + 190) (g := g1) (bound := (n : Int)) (G1.less (by omega)) (by omega) (by omega) (by omega)
  obtain ⟨b, g3, b0, b1, G3, e4⟩ := ty__law_random (B := B + 180) (g := g2) (bound := (n : Int)) (G2.less (by omega)) (by omega) (by omega) (by omega)
  obtain ⟨st, rfl⟩ : ∃ st : Nat, a = st := ⟨a.toNat, by omega⟩
  obtain ⟨en, rfl⟩ : ∃ en : Nat, b = en := ⟨b.toNat, by omega⟩
  have h : ChainOk n t st en := ⟨lat, by omega, by omega⟩
  have rc := repr_chain h
  obtain ⟨δ', ef, g4, j6, j7, j8, j9, j10, j11, j12, G4, _, hj7, rfl⟩ := forL_rngZ (g := g__law_right_1) (b := b__law_right_1) 4 (n := 4) (fun i δ => ∃ g' j6 j7 j8 j9 j10 j11 j12, GenOk (B + 40 * (4 - i)) g' ∧ (j11 = .emp ∨ ∃ d, j11 = .val d) ∧ (i ≠ 0 → ∃ d, j7 = .val d) ∧ δ = [.io 0 g', .val (sqD t), iV n, .val (chD t st en), .val (.str (chD t st en).shown), .val (.list (oddL1 n t st en ++ oddL2 n t ++ oddL3 n t)), j6, j7, j8, j9, j10, j11, j12, .emp, .emp, .emp, .emp]) (δ := [.io 0 g3, .val (sqD t), iV n, .val (chD t st en), .val (.str (chD t st en).shown), .val (.list (oddL1 n t st en ++ oddL2 n t ++ oddL3 n t)), .emp, .emp, .emp, .emp, .emp, .emp, .emp, .emp, .emp, .emp, .emp]) ⟨g3, .emp, .emp, .emp, .emp, .emp, .emp, .emp, G3.less (by omega), .inl rfl, fun z => absurd rfl z, rfl⟩ (by
    rintro i δ hi ⟨g', j6, j7, j8, j9, j10, j11, j12, G, h11, _, rfl⟩
    obtain ⟨g5, c, k8, k9, k10, k11, k12, G5, h11', e⟩ := right_turn (B := B + 40 * (4 - (i + 1 : Nat))) (kept := .str (chD t st en).shown) (tried := .list (oddL1 n t st en ++ oddL2 n t ++ oddL3 n t)) (j6 := iV i) (j7 := j7) (j8 := j8) (j9 := j9) (j10 := j10) (j12 := j12) (j13 := .emp) (j14 := .emp) h (G.less (by omega)) (by omega) h11
    exact ⟨_, _, rfl, e, g5, iV i, .val c, k8, k9, k10, k11, k12, G5, h11', fun _ => ⟨c, rfl⟩, rfl⟩)
  obtain ⟨code, rfl⟩ := hj7 (by decide)
  obtain ⟨δ2, eg, k13, k14, rfl⟩ := forL_list (g := g__law_right_2) (b := b__law_right_2) (fun (L : Nat) => PyData.int (L : Int)) (fun _ δ => ∃ k13 k14, δ = [.io 0 g4, .val (sqD t), iV n, .val (chD t st en), .val (.str (chD t st en).shown), .val (.list (oddL1 n t st en ++ oddL2 n t ++ oddL3 n t)), j6, .val code, j8, j9, j10, j11, j12, k13, k14, .emp, .emp]) (xs := [1, 2, 3, 4]) (δ := [.io 0 g4, .val (sqD t), iV n, .val (chD t st en), .val (.str (chD t st en).shown), .val (.list (oddL1 n t st en ++ oddL2 n t ++ oddL3 n t)), j6, .val code, j8, j9, j10, j11, j12, .emp, .emp, .emp, .emp]) ⟨_, _, rfl⟩ (by
    rintro i L δ hL ⟨k13, k14, rfl⟩
    have hLm : 1 ≤ L ∧ L ≤ 4 := by
      have m := List.mem_of_getElem? hL
      simp at m
      omega
    obtain ⟨l14, e⟩ := right_length (L := L) (g := g4) (kept := .str (chD t st en).shown) (tried := .list (oddL1 n t st en ++ oddL2 n t ++ oddL3 n t)) (code := code) (j6 := j6) (j8 := j8) (j9 := j9) (j10 := j10) (j11 := j11) (j12 := j12) (j14 := k14) h hn hLm.2 hLm.1 rfl
    exact ⟨_, _, rfl, e, iV L, l14, rfl⟩)
  refine ⟨g4, ?_⟩
  apply ev_fn
  show m__law_right [.io 0 g, .emp, .emp, .emp, .emp, .emp, .emp, .emp, .emp, .emp, .emp, .emp, .emp, .emp, .emp, .emp, .emp] = _
  apply ev_seq
  · decreasing_with first | (with_reducible exact e1) | (with_reducible exact rsv) | (with_reducible exact frz)
  apply ev_seq
  · decreasing_with first | (with_reducible exact ln)
  apply ev_seq
  · decreasing_with first | (with_reducible exact e3) | (with_reducible exact e4)
  apply ev_seq
  · decreasing_with first | (with_reducible exact rc)
  refine ev_seq (right_is h) ?_
  refine ev_seq (right_t1 h) ?_
  refine ev_seq (right_t2 h) ?_
  refine ev_seq (right_t3 h) ?_
  refine ev_seq (right_t4 h) ?_
  apply ev_seq
  · apply ev_for (h2 := ef)
    decreasing_with first | ((focus ((with_reducible show rOk _ = _); decide)))
  apply ev_seq
  · decreasing_with first | (with_reducible apply ev_for (h2 := eg))
  · decreasing_with first | (with_reducible exact rc) | (with_reducible exact fEq_str)
  decreasing_with fail
def cellI (ns : List Int) (i : Nat) : Int := if h : i < ns.length then ns[i] else (ns.take 1).sum % 1000003
theorem ty__law_cell {ns : List Int} {i : Nat} : F__law_cell [.val (lI ns), iV i] = .ok (iV (cellI ns i), [.val (lI ns), iV i]) := by
  refine ev_fn (δ1 := [.val (lI ns), iV i]) ?_ rfl
  show m__law_cell [.val (lI ns), iV i] = _
  unfold cellI
  by_cases h : i < ns.length
  · rw [dif_pos h]
    have e : fIx (lI ns) (.int i) = .ok (.int ns[i]) := by
      show (match atI (ns.map PyData.int) (i : Int) with | some d => Res.ok d | none => .no) = _
      rw [atI_map _ _ _ h]
    refine ev_seqR ?_
    apply ev_ifT
    decreasing_with fail
    · simpa using h
    decreasing_with first | (with_reducible exact e)
  · rw [dif_neg h]
    have e : fSum [.list (cutD (ns.map .int) none (some 1))] = .ok (.val (.int (ns.take 1).sum)) := by
      rw [show (1 : Int) = ((1 : Nat) : Int) from rfl, cut_take, ← List.map_take, fSum_ints]
    apply ev_seq
    · apply ev_ifF
      decreasing_with fail
      · simpa using h
      decreasing_with fail
    decreasing_with first | (with_reducible exact e)
theorem pow18 : fPow (.int 10) (.int 18) = .ok (.int 1000000000000000000) := by kernel_rfl
theorem pow60 : fPow (.int 10) (.int 60) = .ok (.int (10 ^ 60)) := by kernel_rfl
theorem pow600 : fPow (.int (10 ^ 60)) (.int 10) = .ok (.int ((10 ^ 60) ^ 10)) := by kernel_rfl
theorem ty__law_generator {ns : List Int} {i : Nat} (hi : i ≤ 1000) : ∃ g, GenOk 100000 g ∧ F__law_generator [.val (lI ns), iV i] = .ok (.own g, [.val (lI ns), iV i]) := by
  have hp : (0 : Int) < (10 ^ 60) ^ 10 := Int.pow_pos (Int.pow_pos (by decide))
  refine ⟨[.int ((if 0 > cellI ns i - 1000000000000000000 then 0 else cellI ns i - 1000000000000000000) % ((10 ^ 60) ^ 10)), .int (cellI ns i % 2147483647), .int (1000 * i)], ⟨_, _, _, rfl, Int.emod_nonneg _ (by omega), Int.emod_nonneg _ (by decide), by omega, by omega⟩, ?_⟩
  have fm : fMod (.int (if 0 > cellI ns i - 1000000000000000000 then 0 else cellI ns i - 1000000000000000000)) (.int ((10 ^ 60) ^ 10)) = .ok (.int ((if 0 > cellI ns i - 1000000000000000000 then 0 else cellI ns i - 1000000000000000000) % ((10 ^ 60) ^ 10))) := fMod_ok hp
  apply ev_fn
  show m__law_generator [.val (lI ns), iV i, .emp] = _
  decreasing_with first | (with_reducible exact ty__law_cell) | (with_reducible exact pow18) | (with_reducible exact pow60) | (with_reducible exact pow600) | (with_reducible exact fm)
noncomputable def p2_law : MS := (mSet 2 (mVal (mTup (mCons (mFrz (mLc (mRng1 (mCons (mC (.int 5)) mNil)) cg_law_1 ct_law_1 ce_law_1 [4])) (mCons (mC (.int 0)) (mCons (mC (.int 0)) mNil))))))
noncomputable def p3_law : MS := (mIfS (mOrT (mT (mOp fNotN (mFrz (mCallV 1 F_is_chain (mCons (mTup (mCons (mFrz (mLst (mCons (mFrz (mLst (mCons (mC (.int 0)) (mCons (mC (.int 1)) (mCons (mC (.int 2)) mNil))))) (mCons (mFrz (mLst (mCons (mC (.int 1)) (mCons (mC (.int 0)) (mCons (mC (.int 2)) mNil))))) (mCons (mFrz (mLst (mCons (mC (.int 2)) (mCons (mC (.int 1)) (mCons (mC (.int 0)) mNil))))) mNil))))) (mCons (mC (.int 0)) (mCons (mC (.int 0)) mNil)))) mNil))) (mC (.bool false)))) (mT (mOp fNotN (mFrz (mCallV 1 F_is_chain (mCons (mTup (mCons (mFrz (mLst (mCons (mFrz (mLst (mCons (mC (.int 0)) (mCons (mC (.int 1)) (mCons (mC (.int 2)) mNil))))) (mCons (mFrz (mLst (mCons (mC (.int 1)) (mCons (mC (.int 2)) (mCons (mC (.int 0)) mNil))))) (mCons (mFrz (mLst (mCons (mC (.int 2)) (mCons (mC (.int 0)) (mCons (mC (.int 1)) mNil))))) mNil))))) (mCons (mC (.int 0)) (mCons (mC (.int 0)) mNil)))) mNil))) (mC (.bool true))))) (mRet (mVal (mC (.bool false)))) mNext)
noncomputable def p4_law : MS := (mSet 3 (mVal (mFrz (mLst (mCons (mFrz (mCallV 2 F_states_of (mCons (mVar 2) (mCons (mFrz (mLst (mCons (mC (.int 1)) (mCons (mC (.int 2)) (mCons (mC (.int 3)) mNil))))) mNil)))) (mCons (mFrz (mCallV 2 F_is_right_chain (mCons (mVar 2) (mCons (mFrz (mLst (mCons (mC (.int 1)) (mCons (mC (.int 2)) (mCons (mC (.int 3)) mNil))))) mNil)))) (mCons (mFrz (mCallV 3 F_sign_at (mCons (mVar 2) (mCons (mFrz (mLst (mCons (mC (.int 1)) (mCons (mC (.int 2)) (mCons (mC (.int 3)) mNil))))) (mCons (mC (.int 0)) mNil))))) (mCons (mFrz (mCallV 3 F_sign_at (mCons (mVar 2) (mCons (mFrz (mLst (mCons (mC (.int 1)) (mCons (mC (.int 2)) (mCons (mC (.int 3)) mNil))))) (mCons (mC (.int 2)) mNil))))) (mCons (mFrz (mCallV 2 F_how_many_right_lists (mCons (mVar 2) (mCons (mC (.int 100)) mNil)))) mNil)))))))))
noncomputable def p5_law : MS := (mRet (mVal (mOp fEq (mVar 3) (mFrz (mLst (mCons (mFrz (mLst (mCons (mC (.int 0)) (mCons (mC (.int 1)) (mCons (mC (.int 4)) (mCons (mC (.int 1)) mNil)))))) (mCons (mC (.bool false)) (mCons (mC (.int 2)) (mCons (mC (.int 2)) (mCons (mOp fMulI (mC (.int 5)) (mOp fPow (mOp fPow (mC (.int 5)) (mC (.int 49))) (mC (.int 2)))) mNil))))))))))
abbrev ch5 : PyData := .tuple [.list [.list [.int 0, .int 1, .int 2, .int 3, .int 4], .list [.int 2, .int 3, .int 4, .int 0, .int 1], .list [.int 4, .int 0, .int 1, .int 2, .int 3], .list [.int 1, .int 2, .int 3, .int 4, .int 0], .list [.int 3, .int 4, .int 0, .int 1, .int 2]], .int 0, .int 0]
abbrev told5 : PyData := .list [.list [.int 0, .int 1, .int 4, .int 1], .bool false, .int 2, .int 2, .int (5 * (5 ^ 49) ^ 2)]
theorem e2_law (d : PyData) (j : Sl) : p2_law [.val d, j, .emp, .emp, .emp, .emp] = .ok (.nx, [.val d, j, .val ch5, .emp, .emp, .emp]) := by kernel_rfl
theorem e3_law (d : PyData) (j : Sl) : p3_law [.val d, j, .val ch5, .emp, .emp, .emp] = .ok (.nx, [.val d, j, .val ch5, .emp, .emp, .emp]) := by kernel_rfl
theorem e4_law (d : PyData) (j : Sl) : p4_law [.val d, j, .val ch5, .emp, .emp, .emp] = .ok (.nx, [.val d, j, .val ch5, .val told5, .emp, .emp]) := by kernel_rfl
theorem e5_law (d : PyData) (j : Sl) : p5_law [.val d, j, .val ch5, .val told5, .emp, .emp] = .ok (.rt (.val (.bool true)), [.val d, j, .val ch5, .val told5, .emp, .emp]) := by kernel_rfl
theorem ty_law {ns : List Int} : ∃ as', F_law [.val (lI ns)] = .ok (.val (.bool true), as') := by
  obtain ⟨δ', el, j, rfl⟩ := forL_rngZ (g := g_law_0) (b := b_law_0) 3 (n := 3) (fun i δ => ∃ j, δ = [.val (lI ns), j, .emp, .emp, .emp, .emp]) (δ := [.val (lI ns), .emp, .emp, .emp, .emp, .emp]) ⟨_, rfl⟩ (by
    rintro i δ hi ⟨j, rfl⟩
    obtain ⟨g, G, e1⟩ := ty__law_generator (ns := ns) (i := i) (by omega)
    obtain ⟨g', e2⟩ := ty__law_right (B := 0) (g := g) (G.less (by omega)) (by omega)
    refine ⟨[.val (lI ns), iV i, .emp, .emp, .emp, .emp], [.val (lI ns), iV i, .emp, .emp, .emp, .emp], rfl, ?_, ⟨_, rfl⟩⟩
    show b_law_0 [.val (lI ns), iV i, .emp, .emp, .emp, .emp] = _
    apply ev_ifF
    decreasing_with first | (with_reducible exact e1) | (with_reducible exact e2))
  refine ⟨[.val (lI ns)], ?_⟩
  refine ev_fn (δ1 := [.val (lI ns), j, .val ch5, .val told5, .emp, .emp]) ?_ rfl
  show m_law [.val (lI ns), .emp, .emp, .emp, .emp, .emp] = _
  apply ev_seq
  · apply ev_for (h2 := el)
    decreasing_with first | ((focus ((with_reducible show rOk _ = _); decide)))
  exact ev_seq (e2_law _ j) (ev_seq (e3_law _ j) (ev_seq (e4_law _ j) (e5_law _ j)))
end N47

namespace N47
open PySem PySem.Spec PyProof.Rows L2 CW
theorem mkFx {w : World} {K : PySem.W.Frag} {h : Heap} {mg : Str → Option Value} (X : K.In h) (G : h.Ns mainGlobals mg) (c : He.SaysD faL fnL K) (cx : exR K = true) (ct : tsR.map (fun t => He.dicW K (t.1 K)) = tsR.map fun t => some (He.keysIn w.params t.2)) : Nonempty (Fx w K mg) := by
  obtain ⟨fd_is_whole, D_is_whole⟩ := c.def_ 0 (d := d_is_whole) rfl
  obtain ⟨fd_is_between, D_is_between⟩ := c.def_ 1 (d := d_is_between) rfl
  obtain ⟨fd_row_of_fits, D_row_of_fits⟩ := c.def_ 4 (d := d_row_of_fits) rfl
  obtain ⟨fd_all_once, D_all_once⟩ := c.def_ 5 (d := d_all_once) rfl
  obtain ⟨fd_square_fits, D_square_fits⟩ := c.def_ 6 (d := d_square_fits) rfl
  obtain ⟨fd_chain_fits, D_chain_fits⟩ := c.def_ 7 (d := d_chain_fits) rfl
  obtain ⟨fd_check_chain, D_check_chain⟩ := c.def_ 8 (d := d_check_chain) rfl
  obtain ⟨fd_check_list, D_check_list⟩ := c.def_ 9 (d := d_check_list) rfl
  obtain ⟨fd_states_in, D_states_in⟩ := c.def_ 10 (d := d_states_in) rfl
  obtain ⟨fd_states_of, D_states_of⟩ := c.def_ 12 (d := d_states_of) rfl
  obtain ⟨fd_is_right_chain, D_is_right_chain⟩ := c.def_ 13 (d := d_is_right_chain) rfl
  obtain ⟨fd_check_number, D_check_number⟩ := c.def_ 2 (d := d_check_number) rfl
  obtain ⟨fd_sign_at, D_sign_at⟩ := c.def_ 14 (d := d_sign_at) rfl
  obtain ⟨fd_times_over, D_times_over⟩ := c.def_ 3 (d := d_times_over) rfl
  obtain ⟨fd_how_many_right_lists, D_how_many_right_lists⟩ := c.def_ 15 (d := d_how_many_right_lists) rfl
  obtain ⟨fd__law_hash, D__law_hash⟩ := c.def_ 17 (d := d__law_hash) rfl
  obtain ⟨fd__law_random, D__law_random⟩ := c.def_ 19 (d := d__law_random) rfl
  obtain ⟨fd__law_abelian, D__law_abelian⟩ := c.def_ 20 (d := d__law_abelian) rfl
  obtain ⟨fd__law_dihedral, D__law_dihedral⟩ := c.def_ 21 (d := d__law_dihedral) rfl
  obtain ⟨fd__law_group, D__law_group⟩ := c.def_ 22 (d := d__law_group) rfl
  obtain ⟨fd__law_shuffled, D__law_shuffled⟩ := c.def_ 23 (d := d__law_shuffled) rfl
  obtain ⟨fd__law_square, D__law_square⟩ := c.def_ 25 (d := d__law_square) rfl
  obtain ⟨fd_is_chain, D_is_chain⟩ := c.def_ 11 (d := d_is_chain) rfl
  obtain ⟨fd__law_states, D__law_states⟩ := c.def_ 26 (d := d__law_states) rfl
  obtain ⟨fd__law_power, D__law_power⟩ := c.def_ 28 (d := d__law_power) rfl
  obtain ⟨fd__law_all_codes, D__law_all_codes⟩ := c.def_ 24 (d := d__law_all_codes) rfl
  obtain ⟨fd__law_right, D__law_right⟩ := c.def_ 27 (d := d__law_right) rfl
  obtain ⟨fd__law_cell, D__law_cell⟩ := c.def_ 16 (d := d__law_cell) rfl
  obtain ⟨fd__law_generator, D__law_generator⟩ := c.def_ 18 (d := d__law_generator) rfl
  exact ⟨⟨fd_is_whole, D_is_whole, He.glo_ok X G (c.fact 0 (f := .glo "is_whole") rfl),
    fd_is_between, D_is_between, He.glo_ok X G (c.fact 1 (f := .glo "is_between") rfl),
    fd_row_of_fits, D_row_of_fits, He.glo_ok X G (c.fact 4 (f := .glo "row_of_fits") rfl),
    fd_all_once, D_all_once, He.glo_ok X G (c.fact 5 (f := .glo "all_once") rfl),
    fd_square_fits, D_square_fits, He.glo_ok X G (c.fact 6 (f := .glo "square_fits") rfl),
    fd_chain_fits, D_chain_fits, He.glo_ok X G (c.fact 7 (f := .glo "chain_fits") rfl),
    fd_check_chain, D_check_chain, He.glo_ok X G (c.fact 8 (f := .glo "check_chain") rfl),
    fd_check_list, D_check_list, He.glo_ok X G (c.fact 9 (f := .glo "check_list") rfl),
    fd_states_in, D_states_in, He.glo_ok X G (c.fact 10 (f := .glo "states_in") rfl),
    fd_states_of, D_states_of, He.glo_ok X G (c.fact 12 (f := .glo "states_of") rfl),
    fd_is_right_chain, D_is_right_chain, He.glo_ok X G (c.fact 13 (f := .glo "is_right_chain") rfl),
    fd_check_number, D_check_number, He.glo_ok X G (c.fact 2 (f := .glo "check_number") rfl),
    fd_sign_at, D_sign_at, He.glo_ok X G (c.fact 14 (f := .glo "sign_at") rfl),
    fd_times_over, D_times_over, He.glo_ok X G (c.fact 3 (f := .glo "times_over") rfl),
    fd_how_many_right_lists, D_how_many_right_lists, He.glo_ok X G (c.fact 15 (f := .glo "how_many_right_lists") rfl),
    fd__law_hash, D__law_hash, He.glo_ok X G (c.fact 17 (f := .glo "_law_hash") rfl),
    fd__law_random, D__law_random, He.glo_ok X G (c.fact 19 (f := .glo "_law_random") rfl),
    fd__law_abelian, D__law_abelian, He.glo_ok X G (c.fact 20 (f := .glo "_law_abelian") rfl),
    fd__law_dihedral, D__law_dihedral, He.glo_ok X G (c.fact 21 (f := .glo "_law_dihedral") rfl),
    fd__law_group, D__law_group, He.glo_ok X G (c.fact 22 (f := .glo "_law_group") rfl),
    fd__law_shuffled, D__law_shuffled, He.glo_ok X G (c.fact 23 (f := .glo "_law_shuffled") rfl),
    fd__law_square, D__law_square, He.glo_ok X G (c.fact 25 (f := .glo "_law_square") rfl),
    fd_is_chain, D_is_chain, He.glo_ok X G (c.fact 11 (f := .glo "is_chain") rfl),
    fd__law_states, D__law_states, He.glo_ok X G (c.fact 26 (f := .glo "_law_states") rfl),
    fd__law_power, D__law_power, He.glo_ok X G (c.fact 28 (f := .glo "_law_power") rfl),
    fd__law_all_codes, D__law_all_codes, He.glo_ok X G (c.fact 24 (f := .glo "_law_all_codes") rfl),
    fd__law_right, D__law_right, He.glo_ok X G (c.fact 27 (f := .glo "_law_right") rfl),
    fd__law_cell, D__law_cell, He.glo_ok X G (c.fact 16 (f := .glo "_law_cell") rfl),
    fd__law_generator, D__law_generator, He.glo_ok X G (c.fact 18 (f := .glo "_law_generator") rfl),
    He.free_ok X G (c.fact 30 (f := .free "bool") rfl),
    He.free_ok X G (c.fact 31 (f := .free "int") rfl),
    He.free_ok X G (c.fact 32 (f := .free "isinstance") rfl),
    He.free_ok X G (c.fact 33 (f := .free "len") rfl),
    He.free_ok X G (c.fact 34 (f := .free "list") rfl),
    He.free_ok X G (c.fact 35 (f := .free "max") rfl),
    He.free_ok X G (c.fact 36 (f := .free "range") rfl),
    He.free_ok X G (c.fact 37 (f := .free "repr") rfl),
    He.free_ok X G (c.fact 38 (f := .free "set") rfl),
    He.free_ok X G (c.fact 39 (f := .free "sum") rfl),
    He.free_ok X G (c.fact 41 (f := .free "tuple") rfl)⟩⟩
theorem lawFacts {P : Program} {w : World} {K : PySem.W.Frag} {h : Heap} {mg : Str → Option Value} {fa : Addr} (X : K.In h) (G : h.Ns mainGlobals mg) (hfa : mg ("law" : Str) = some (.ref fa)) (c : He.SaysD faL fnL K) (cx : exR K = true) (ct : tsR.map (fun t => He.dicW K (t.1 K)) = tsR.map fun t => some (He.keysIn w.params t.2)) :
    ∃ fd : FuncData, (∀ (s : Shared) (v : Value), BindsTo s fd ⟨[v], []⟩ [("script", v)]) ∧ ∀ base : Heap, K.In base → base.Ns mainGlobals mg → FnG P w K mg base CX0 11 fa fd ["script"] (spD K mg 1 F_law) := by
  obtain ⟨x⟩ := mkFx X G c cx ct
  obtain ⟨fd, D⟩ := c.def_ 29 (d := d_law) rfl
  have e := hfa.symm.trans (He.glo_ok X G (c.fact 29 (f := .glo "law") rfl))
  cases e
  have b := FunD.bindsA (ps := ["script"]) D fun _ _ _ _ _ _ us hl => match us, hl with | [_], _ => rfl
  exact ⟨fd, fun s v => b s [v] rfl, fun base _ _ => fn_law x D⟩
end N47
open PySem PySem.W PySem.Calls PyProof.Rows
theorem PySem.Challenge.cw_checkwright_k47_whole_chains_holds : PySem.Challenge.rw_checkwright_k47_whole_chains.Holds := by
  w_on; o_law
  refine HandSHeadRun.head_any (r := OpenLaw.row PySem.Challenge.rw_checkwright_k47_whole_chains) (q := view (OpenLaw.row PySem.Challenge.rw_checkwright_k47_whole_chains).prog [40]) (H := N47.hkR) (ob := N47.obR) (M := 6000) (loose := N47.looseR) (d := HandSHeadRun.topDef (OpenLaw.row PySem.Challenge.rw_checkwright_k47_whole_chains).prog 40) (kwd := []) N47.obR_eq
    (by kernel_rfl) (fun s => by kernel_rfl) N47.runR (by kernel_rfl) (by kernel_rfl) (by kernel_rfl) (by rfl) (by first | assumption | decide +kernel) (by decide +kernel) ⟨rfl, rfl, rfl, rfl, rfl, by decide +kernel⟩ ?hw ?hc
  case hw => w_witness2
  case hc =>
    refine CW.walk_ofG (l := PySem.Challenge.rw_checkwright_k47_whole_chains) (n := 63) (k := 11) (x := "script") rfl (by decide) (by kernel_rfl) ⟨rfl, by decide, by decide⟩ ?F
    intro w mg fa h Y G hmg0
    obtain ⟨K, KX, c, cx, ct⟩ := Y
    have hmg : mg ("law" : PySem.Str) = some (.ref fa) := by
      have e : (HandSHeadRun.topDef (OpenLaw.row PySem.Challenge.rw_checkwright_k47_whole_chains).prog 40).name = ("law" : PySem.Str) := by kernel_rfl
      rw [← e]
      exact hmg0
    obtain ⟨fd, hb, hF⟩ := N47.lawFacts (P := (PySem.Challenge.rw_checkwright_k47_whole_chains).prog) (w := w) KX G hmg c cx ct
    refine ⟨K, fd, CW.spD K mg 1 N47.F_law, KX, hb, fun H a ns hl _ hS => ?_, hF⟩
    obtain ⟨as', e⟩ := N47.ty_law (ns := ns)
    exact CW.law_sp e hS
