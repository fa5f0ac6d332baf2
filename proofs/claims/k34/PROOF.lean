import PyProof.Rows.All
import Wide.All
import OpenK.AllK
import Wide.FinOn
import KE.KStateDown
import KE.KTupSum
import KE.DataCmp
import Lean
import HandS.ForMost
import HandS.WordsExc
import HandS.Defaults
import HandS.IsInst
import PyProof.ReprReads
import HandS.HeadHook1
import HandS.TupAny
import HandS.WideBits
import HandS.Style
import HandS.SortKw
import HandS.Zip
import HandS.WordsDict
import HandS.Flow
import HandS.Conv
import KE.GoesEnum
import KE.GoesEnumKw
import KE.GoesZip
import KE.GoesMore
import PyProof.Rows.CallKwBuiltin
import HandS.TryOnly
import HandS.Comp
import HandS.SortInts
import HandS.SetFor
import PyProof.StrHeap
import HandS.Dict
import KE.SortData
import HandS.Head0
import HandS.Head1
import HandS.Head2
import HandS.HeadEnd
import HandS.HeadHook2
import HandS.Deep
import PyProof.ReprBulk
import PyProof.ListMulAny
import HandS.HeadHook3
import HandS.More
import PyProof.Rows.SetFrom
import PyProof.SetRoads
import HandS.Strs
import KE.KExcSuper
import KE.KExcInit
import HandS.ExcInit
import HandS.ExcField
import HandS.Remove
import PyProof.LongRange
import PySem.Challenge.RW_checkwright_k34_whole_steps
set_option Elab.async false
set_option linter.all false
set_option maxRecDepth 100000
set_option maxHeartbeats 0
namespace CW
open PySem PySem.Spec PyProof.Rows L2

/-! outcomes, slots -/
inductive Res (α : Type) where
  | ok (a : α)
  | err (c : Str) (d : PyData)
  | no
def Res.bnd {α β : Type} (x : Res α) (f : α → Res β) : Res β := match x with
  | .ok a => f a
  | .err c d => .err c d
  | .no => .no
instance : Monad Res where
  pure := Res.ok
  bind := Res.bnd
theorem bnd_ok {α β : Type} {a : α} {f : α → Res β} : (Res.ok a >>= f) = f a := rfl
theorem bnd_inv {α β : Type} {x : Res α} {f : α → Res β} {b : β} (h : (x >>= f) = .ok b) : ∃ a, x = .ok a ∧ f a = .ok b := by
  cases x with
  | ok a => exact ⟨a, rfl, h⟩
  | err c d => cases h
  | no => cases h

inductive Sl where
  | emp
  | val (d : PyData)
  | own (xs : List PyData)
  | io (k : Nat) (xs : List PyData)
  | fn (x : Str)
  /-- nested data of its own: all lists in it are new, and nobody else holds one -/
  | tree (d : PyData)
  /-- frozen data that stands at ρ k as long as the slot is left alone -/
  | vk (k : Nat) (d : PyData)
abbrev Ev := List Sl
abbrev ME := Ev → Res (PyData × Ev)
abbrev MT := Ev → Res (Bool × Ev)
abbrev MA := Ev → Res (List PyData × Ev)
/-- a new value: a slot that nobody else holds -/
abbrev MN := Ev → Res (Sl × Ev)
inductive Ctl where
  | nx | bk | ct
  | rt (s : Sl)
abbrev MS := Ev → Res (Ctl × Ev)

/-! data in a heap -/
/-- an exception that was caught: its class, its dict -/
def exv (a C dx : Addr) : HO := .ext fun h => ∃ (o : Obj) (vs : Array Value), h.get? a = some o ∧ o.cls = .ref C ∧ o.dict = some dx ∧ o.data = .fields vs
mutual
/-- a value that stands for data: the library's, and an empty dict that nobody changes -/
inductive Dp (K : PySem.W.Frag) (H : Hp) : V → PyData → Prop
  | non : Dp K H .non .none
  | bl (b : Bool) : Dp K H (.bl b) (.bool b)
  | int (i : Int) : Dp K H (.int i) (.int i)
  | str (x : Str) : Dp K H (.str x) (.str x)
  | lst {a : Addr} {xs : List V} {ds : List PyData} : SqL K H a xs → DpAll K H xs ds → Dp K H (.ref a) (.list ds)
  | tup {a : Addr} {xs : List V} {ds : List PyData} : SqT K H a xs → DpAll K H xs ds → Dp K H (.ref a) (.tuple ds)
  | dct {a : Addr} : H a = some (.dK []) → Dp K H (.ref a) (.dict [])
  /-- a caught exception of the class x, its field value -/
  | exc {a dx : Addr} {x : Str} {u : V} {d : PyData} : H a = some (exv a (He.ga K x) dx) → H dx = some (.xd [(("value" : Str), u)]) → Dp K H u d → Dp K H (.ref a) (.dict [(.str x, d)])
inductive DpAll (K : PySem.W.Frag) (H : Hp) : List V → List PyData → Prop
  | nil : DpAll K H [] []
  | cons {v : V} {vs : List V} {d : PyData} {ds : List PyData} : Dp K H v d → DpAll K H vs ds → DpAll K H (v :: vs) (d :: ds)
end
section
variable {K : PySem.W.Frag} {F F' : Hp}
mutual
theorem dp_old : ∀ (d : PyData) (v : V), Dp K F v d → d.hasDict = false → L2.Dp K F v d
  | .none, _, h, _ => by cases h; exact .non
  | .bool b, _, h, _ => by cases h; exact .bl b
  | .int i, _, h, _ => by cases h; exact .int i
  | .str x, _, h, _ => by cases h; exact .str x
  | .list ds, _, h, n => by
    cases h with
    | lst hs ha => exact .lst hs (dpa_old ds _ ha (by simpa [PyData.hasDict] using n))
  | .tuple ds, _, h, n => by
    cases h with
    | tup hs ha => exact .tup hs (dpa_old ds _ ha (by simpa [PyData.hasDict] using n))
  | .dict _, _, _, n => by simp [PyData.hasDict] at n
theorem dpa_old : ∀ (ds : List PyData) (vs : List V), DpAll K F vs ds → PyData.hasDictAll ds = false → L2.DpAll K F vs ds
  | [], _, h, _ => by cases h; exact .nil
  | d :: ds, _, h, n => by
    cases h with
    | cons h1 h2 =>
      simp only [PyData.hasDictAll, Bool.or_eq_false_iff] at n
      exact .cons (dp_old d _ h1 n.1) (dpa_old ds _ h2 n.2)
end
theorem shaped_noDict {d : PyData} (h : SeqAt.shaped d = true) : d.hasDict = false := by
  have z : (d.canLay0 && decide (d.depth ≤ 64)) = true := h
  rw [Bool.and_eq_true] at z
  exact PyData.hasDict_of_canLay d z.1
theorem rd_mono {a : Addr} {u : HO} (e : Same F F') (h : Rd F a u) : Rd F' a u := by
  rcases h with h | ⟨o, h⟩
  · exact .inl (e _ _ h)
  · exact .inr ⟨o, e _ _ h⟩
theorem sqL_mono {a : Addr} {xs : List V} (e : Same F F') (h : SqL K F a xs) : SqL K F' a xs := h.imp (rd_mono e) id
theorem sqT_mono {a : Addr} {xs : List V} (e : Same F F') (h : SqT K F a xs) : SqT K F' a xs := h.imp (rd_mono e) id
mutual
theorem dp_mono (e : Same F F') : ∀ {d : PyData} {v : V}, Dp K F v d → Dp K F' v d
  | _, _, .non => .non
  | _, _, .bl b => .bl b
  | _, _, .int i => .int i
  | _, _, .str x => .str x
  | _, _, .lst hs ha => .lst (sqL_mono e hs) (dpa_mono e ha)
  | _, _, .tup hs ha => .tup (sqT_mono e hs) (dpa_mono e ha)
  | _, _, .dct q => .dct (e _ _ q)
  | _, _, .exc q1 q2 h => .exc (e _ _ q1) (e _ _ q2) (dp_mono e h)
theorem dpa_mono (e : Same F F') : ∀ {ds : List PyData} {vs : List V}, DpAll K F vs ds → DpAll K F' vs ds
  | _, _, .nil => .nil
  | _, _, .cons h1 h2 => .cons (dp_mono e h1) (dpa_mono e h2)
end
theorem Dp.up {v : V} {d : PyData} (h : Dp K F v d) (e : Same F F') : Dp K F' v d := dp_mono e h
theorem DpAll.up {vs : List V} {ds : List PyData} (h : DpAll K F vs ds) (e : Same F F') : DpAll K F' vs ds := dpa_mono e h
theorem dpa_len : ∀ {vs : List V} {ds : List PyData}, DpAll K F vs ds → vs.length = ds.length
  | _, [], h => by cases h; rfl
  | _, d :: ds, h => by
    cases h with
    | cons h1 h2 => simp [dpa_len h2]
theorem dpa_get : ∀ {vs : List V} {ds : List PyData} {i : Nat} {d : PyData}, DpAll K F vs ds → ds[i]? = some d → ∃ v, vs[i]? = some v ∧ Dp K F v d
  | _, [], i, d, h, e => by simp at e
  | _, d' :: ds, 0, d, h, e => by
    cases h with
    | cons h1 h2 => simp at e; subst e; exact ⟨_, rfl, h1⟩
  | _, d' :: ds, i + 1, d, h, e => by
    cases h with
    | cons h1 h2 =>
      obtain ⟨v, e1, e2⟩ := dpa_get h2 (by simpa using e)
      exact ⟨v, by simpa using e1, e2⟩
theorem dpa_app : ∀ {vs ws : List V} {ds es : List PyData}, DpAll K F vs ds → DpAll K F ws es → DpAll K F (vs ++ ws) (ds ++ es)
  | _, _, [], _, h, h' => by cases h; exact h'
  | _, _, d :: ds, _, h, h' => by
    cases h with
    | cons h1 h2 => exact .cons h1 (dpa_app h2 h')
theorem dpa_set : ∀ {vs : List V} {ds : List PyData} {v : V} {d : PyData} (i : Nat), DpAll K F vs ds → Dp K F v d → DpAll K F (vs.set i v) (ds.set i d)
  | _, [], _, _, _, h, _ => by cases h; exact .nil
  | _, d' :: ds, _, _, 0, h, q => by
    cases h with
    | cons h1 h2 => exact .cons q h2
  | _, d' :: ds, _, _, i + 1, h, q => by
    cases h with
    | cons h1 h2 => exact .cons h1 (dpa_set i h2 q)
theorem dpa_take : ∀ {vs : List V} {ds : List PyData} (n : Nat), DpAll K F vs ds → DpAll K F (vs.take n) (ds.take n)
  | _, _, 0, h => .nil
  | _, [], _ + 1, h => by cases h; exact .nil
  | _, d :: ds, n + 1, h => by
    cases h with
    | cons h1 h2 => exact .cons h1 (dpa_take n h2)
theorem dpa_drop : ∀ {vs : List V} {ds : List PyData} (n : Nat), DpAll K F vs ds → DpAll K F (vs.drop n) (ds.drop n)
  | _, _, 0, h => h
  | _, [], _ + 1, h => by cases h; exact .nil
  | _, d :: ds, n + 1, h => by
    cases h with
    | cons h1 h2 => exact dpa_drop n h2
theorem dpa_erase : ∀ {vs : List V} {ds : List PyData} (n : Nat), DpAll K F vs ds → DpAll K F (vs.eraseIdx n) (ds.eraseIdx n)
  | _, [], _, h => by cases h; exact .nil
  | _, d :: ds, 0, h => by
    cases h with
    | cons h1 h2 => exact h2
  | _, d :: ds, n + 1, h => by
    cases h with
    | cons h1 h2 => exact .cons h1 (dpa_erase n h2)
theorem dpa_rev {vs : List V} {ds : List PyData} (h : DpAll K F vs ds) : DpAll K F vs.reverse ds.reverse := by
  induction ds generalizing vs with
  | nil => cases h; exact .nil
  | cons d ds ih =>
    cases h with
    | cons h1 h2 =>
      rw [List.reverse_cons, List.reverse_cons]
      exact dpa_app (ih h2) (.cons h1 .nil)
theorem dpa_ints : ∀ {ns : List Int} {vs : List V}, DpAll K F vs (ns.map .int) → vs = ns.map .int
  | [], _, h => by cases h; rfl
  | n :: ns, _, h => by
    cases h with
    | cons h1 h2 => cases h1; rw [dpa_ints h2]; rfl
theorem dpa_of_ints : ∀ (ns : List Int), DpAll K F (ns.map .int) (ns.map .int)
  | [] => .nil
  | n :: ns => .cons (.int n) (dpa_of_ints ns)
end

/-! data without lists; trees -/
mutual
def scD : PyData → Bool
  | .none => true
  | .bool _ => true
  | .int _ => true
  | .str _ => true
  | .tuple ds => scA ds
  | .list _ => false
  | .dict _ => false
def scA : List PyData → Bool
  | [] => true
  | d :: ds => scD d && scA ds
end
mutual
inductive Tp (K : PySem.W.Frag) (F H : Hp) : V → PyData → List Addr → Prop
  | sc {v : V} {d : PyData} : Dp K F v d → scD d = true → Tp K F H v d []
  | lst {a : Addr} {xs : List V} {ds : List PyData} {L : List Addr} : H a = some (.lst xs) → TpAll K F H xs ds L → Tp K F H (.ref a) (.list ds) (a :: L)
  | tup {a : Addr} {xs : List V} {ds : List PyData} {L : List Addr} : SqT K F a xs → TpAll K F H xs ds L → Tp K F H (.ref a) (.tuple ds) L
inductive TpAll (K : PySem.W.Frag) (F H : Hp) : List V → List PyData → List Addr → Prop
  | nil : TpAll K F H [] [] []
  | cons {v : V} {vs : List V} {d : PyData} {ds : List PyData} {L M : List Addr} : Tp K F H v d L → TpAll K F H vs ds M → TpAll K F H (v :: vs) (d :: ds) (L ++ M)
end
section
variable {K : PySem.W.Frag} {F F' H H' : Hp}
mutual
theorem tp_mono (e : Same F F') : ∀ (d : PyData) (v : V) (L : List Addr), (∀ a ∈ L, H' a = H a) → Tp K F H v d L → Tp K F' H' v d L
  | .none, _, _, _, h => by cases h with | sc h1 h2 => exact .sc (h1.up e) h2
  | .bool _, _, _, _, h => by cases h with | sc h1 h2 => exact .sc (h1.up e) h2
  | .int _, _, _, _, h => by cases h with | sc h1 h2 => exact .sc (h1.up e) h2
  | .str _, _, _, _, h => by cases h with | sc h1 h2 => exact .sc (h1.up e) h2
  | .dict _, _, _, _, h => by cases h with | sc h1 h2 => exact .sc (h1.up e) h2
  | .list ds, _, _, k, h => by
    cases h with
    | sc h1 h2 => exact .sc (h1.up e) h2
    | lst h1 h2 => exact .lst ((k _ (List.mem_cons_self ..)).trans h1) (tpa_mono e ds _ _ (fun a ha => k a (List.mem_cons_of_mem _ ha)) h2)
  | .tuple ds, _, _, k, h => by
    cases h with
    | sc h1 h2 => exact .sc (h1.up e) h2
    | tup h1 h2 => exact .tup (sqT_mono e h1) (tpa_mono e ds _ _ k h2)
theorem tpa_mono (e : Same F F') : ∀ (ds : List PyData) (vs : List V) (L : List Addr), (∀ a ∈ L, H' a = H a) → TpAll K F H vs ds L → TpAll K F' H' vs ds L
  | [], _, _, _, h => by cases h; exact .nil
  | d :: ds, _, _, k, h => by
    cases h with
    | cons h1 h2 => exact .cons (tp_mono e d _ _ (fun a ha => k a (List.mem_append_left _ ha)) h1) (tpa_mono e ds _ _ (fun a ha => k a (List.mem_append_right _ ha)) h2)
end
mutual
theorem tp_mem : ∀ (d : PyData) (v : V) (L : List Addr), Tp K F H v d L → ∀ a ∈ L, ∃ vs, H a = some (.lst vs)
  | .none, _, _, h, a, ha => by cases h with | sc h1 h2 => cases ha
  | .bool _, _, _, h, a, ha => by cases h with | sc h1 h2 => cases ha
  | .int _, _, _, h, a, ha => by cases h with | sc h1 h2 => cases ha
  | .str _, _, _, h, a, ha => by cases h with | sc h1 h2 => cases ha
  | .dict _, _, _, h, a, ha => by cases h with | sc h1 h2 => cases ha
  | .list ds, _, _, h, a, ha => by
    cases h with
    | sc h1 h2 => cases ha
    | lst h1 h2 =>
      rcases List.mem_cons.mp ha with e | ha
      · exact ⟨_, by rw [e]; exact h1⟩
      · exact tpa_mem ds _ _ h2 a ha
  | .tuple ds, _, _, h, a, ha => by
    cases h with
    | sc h1 h2 => cases ha
    | tup h1 h2 => exact tpa_mem ds _ _ h2 a ha
theorem tpa_mem : ∀ (ds : List PyData) (vs : List V) (L : List Addr), TpAll K F H vs ds L → ∀ a ∈ L, ∃ vs, H a = some (.lst vs)
  | [], _, _, h, a, ha => by cases h; cases ha
  | d :: ds, _, _, h, a, ha => by
    cases h with
    | cons h1 h2 =>
      rcases List.mem_append.mp ha with ha | ha
      · exact tp_mem d _ _ h1 a ha
      · exact tpa_mem ds _ _ h2 a ha
end
mutual
theorem tp_see (e : Same F F') : ∀ (d : PyData) (v : V) (L : List Addr), (∀ a ∈ L, F' a = H a) → Tp K F H v d L → Dp K F' v d
  | .none, _, _, _, h => by cases h with | sc h1 h2 => exact h1.up e
  | .bool _, _, _, _, h => by cases h with | sc h1 h2 => exact h1.up e
  | .int _, _, _, _, h => by cases h with | sc h1 h2 => exact h1.up e
  | .str _, _, _, _, h => by cases h with | sc h1 h2 => exact h1.up e
  | .dict _, _, _, _, h => by cases h with | sc h1 h2 => exact h1.up e
  | .list ds, _, _, k, h => by
    cases h with
    | sc h1 h2 => exact h1.up e
    | lst h1 h2 => exact .lst (SqL.of ((k _ (List.mem_cons_self ..)).trans h1)) (tpa_see e ds _ _ (fun a ha => k a (List.mem_cons_of_mem _ ha)) h2)
  | .tuple ds, _, _, k, h => by
    cases h with
    | sc h1 h2 => exact h1.up e
    | tup h1 h2 => exact .tup (sqT_mono e h1) (tpa_see e ds _ _ k h2)
theorem tpa_see (e : Same F F') : ∀ (ds : List PyData) (vs : List V) (L : List Addr), (∀ a ∈ L, F' a = H a) → TpAll K F H vs ds L → DpAll K F' vs ds
  | [], _, _, _, h => by cases h; exact .nil
  | d :: ds, _, _, k, h => by
    cases h with
    | cons h1 h2 => exact .cons (tp_see e d _ _ (fun a ha => k a (List.mem_append_left _ ha)) h1) (tpa_see e ds _ _ (fun a ha => k a (List.mem_append_right _ ha)) h2)
end
theorem tpa_sc : ∀ {ds : List PyData} {vs : List V}, scA ds = true → DpAll K F vs ds → TpAll K F H vs ds []
  | [], _, _, h => by cases h; exact .nil
  | d :: ds, _, s, h => by
    unfold scA at s
    rw [Bool.and_eq_true] at s
    cases h with
    | cons h1 h2 => exact TpAll.cons (L := []) (M := []) (.sc h1 s.1) (tpa_sc s.2 h2)
theorem tpa_app : ∀ {ds es : List PyData} {vs ws : List V} {L M : List Addr}, TpAll K F H vs ds L → TpAll K F H ws es M → TpAll K F H (vs ++ ws) (ds ++ es) (L ++ M)
  | [], _, _, _, _, _, h, h' => by cases h; exact h'
  | d :: ds, _, _, _, _, _, h, h' => by
    cases h with
    | cons h1 h2 =>
      rw [List.append_assoc]
      exact .cons h1 (tpa_app h2 h')
theorem tpa_len : ∀ {ds : List PyData} {vs : List V} {L : List Addr}, TpAll K F H vs ds L → vs.length = ds.length
  | [], _, _, h => by cases h; rfl
  | d :: ds, _, _, h => by
    cases h with
    | cons h1 h2 => simp [tpa_len h2]
end

/-! slots in a heap -/
section
variable (K : PySem.W.Frag) (mg : Str → Option Value) (ρ : Nat → Addr)
def SlotR (F H : Hp) : Sl → Option V → List Addr → Prop
  | .emp, _, L => L = []
  | .val d, o, L => L = [] ∧ ∃ v, o = some v ∧ Dp K F v d
  | .own xs, o, L => ∃ p vs, o = some (.ref p) ∧ L = [p] ∧ H p = some (.lst vs) ∧ DpAll K F vs xs
  | .io k xs, o, L => o = some (.ref (ρ k)) ∧ L = [ρ k] ∧ ∃ vs, H (ρ k) = some (.lst vs) ∧ DpAll K F vs xs
  | .fn x, o, L => L = [] ∧ ∃ f, o = some (.ref f) ∧ mg x = some (.ref f)
  | .tree d, o, L => ∃ v, o = some v ∧ Tp K F H v d L
  | .vk k d, o, L => L = [] ∧ o = some (.ref (ρ k)) ∧ Dp K F (.ref (ρ k)) d
def SlotsR (F H : Hp) : List Sl → List (Option V) → List Addr → Prop
  | [], [], L => L = []
  | s :: ss, o :: os, L => ∃ L1 L2, L = L1 ++ L2 ∧ SlotR K mg ρ F H s o L1 ∧ SlotsR F H ss os L2
  | _, _, _ => False
structure Rel (Fr F : Hp) (δ : Ev) (σ : L2.St) (H : Hp) : Prop where
  sub : Same F H
  fr : Same Fr H
  dis : ∀ a, Fr a ≠ none → F a = none
  own : ∃ L, SlotsR K mg ρ F H δ σ L ∧ L.Nodup ∧ ∀ a ∈ L, F a = none ∧ Fr a = none
end

section
variable {K : PySem.W.Frag} {mg : Str → Option Value} {ρ : Nat → Addr} {Fr F F' H H' : Hp} {δ δ' : Ev} {σ σ' : L2.St}
theorem slotR_mem {s : Sl} {o : Option V} {L : List Addr} (h : SlotR K mg ρ F H s o L) {a : Addr} (ha : a ∈ L) : ∃ vs, H a = some (.lst vs) := by
  cases s with
  | emp => have e : L = [] := h; subst e; cases ha
  | val d => obtain ⟨rfl, _⟩ := h; cases ha
  | own xs => obtain ⟨p, vs, _, rfl, e, _⟩ := h; have q : a = p := (by simpa using ha); subst q; exact ⟨vs, e⟩
  | io k xs => obtain ⟨_, rfl, vs, e, _⟩ := h; have q : a = ρ k := (by simpa using ha); subst q; exact ⟨vs, e⟩
  | fn x => obtain ⟨rfl, _⟩ := h; cases ha
  | tree d => obtain ⟨v, _, t⟩ := h; exact tp_mem d v L t a ha
  | vk k d => obtain ⟨rfl, _⟩ := h; cases ha
theorem slotsR_mem : ∀ {δ : Ev} {σ : L2.St} {L : List Addr}, SlotsR K mg ρ F H δ σ L → ∀ {a : Addr}, a ∈ L → ∃ vs, H a = some (.lst vs)
  | [], [], _, h, a, ha => by have e : _ = [] := h; subst e; cases ha
  | [], _ :: _, _, h, _, _ => h.elim
  | _ :: _, [], _, h, _, _ => h.elim
  | s :: ss, o :: os, _, h, a, ha => by
    obtain ⟨L1, L2, rfl, h1, h2⟩ := h
    rcases List.mem_append.mp ha with q | q
    · exact slotR_mem h1 q
    · exact slotsR_mem h2 q
theorem slotR_mono {s : Sl} {o : Option V} {L : List Addr} (e : Same F F') (k : ∀ a ∈ L, H' a = H a) (h : SlotR K mg ρ F H s o L) : SlotR K mg ρ F' H' s o L := by
  cases s with
  | emp => exact h
  | val d => obtain ⟨q, v, e1, e2⟩ := h; exact ⟨q, v, e1, e2.up e⟩
  | own xs => obtain ⟨p, vs, h1, rfl, h3, h4⟩ := h; exact ⟨p, vs, h1, rfl, (k p (by simp)).trans h3, h4.up e⟩
  | io j xs => obtain ⟨h1, rfl, vs, h3, h4⟩ := h; exact ⟨h1, rfl, vs, (k _ (by simp)).trans h3, h4.up e⟩
  | fn x => exact h
  | tree d => obtain ⟨v, e1, t⟩ := h; exact ⟨v, e1, tp_mono e d v L k t⟩
  | vk j d => obtain ⟨q, e1, e2⟩ := h; exact ⟨q, e1, e2.up e⟩
theorem slotsR_mono (e : Same F F') : ∀ {δ : Ev} {σ : L2.St} {L : List Addr}, (∀ a ∈ L, H' a = H a) → SlotsR K mg ρ F H δ σ L → SlotsR K mg ρ F' H' δ σ L
  | [], [], _, _, h => h
  | [], _ :: _, _, _, h => h.elim
  | _ :: _, [], _, _, h => h.elim
  | s :: ss, o :: os, _, k, h => by
    obtain ⟨L1, L2, rfl, h1, h2⟩ := h
    exact ⟨L1, L2, rfl, slotR_mono e (fun a ha => k a (List.mem_append_left _ ha)) h1, slotsR_mono e (fun a ha => k a (List.mem_append_right _ ha)) h2⟩
theorem slotsR_len : ∀ {δ : Ev} {σ : L2.St} {L : List Addr}, SlotsR K mg ρ F H δ σ L → δ.length = σ.length
  | [], [], _, _ => rfl
  | [], _ :: _, _, h => h.elim
  | _ :: _, [], _, h => h.elim
  | s :: ss, o :: os, _, h => by
    obtain ⟨L1, L2, rfl, h1, h2⟩ := h
    simp [slotsR_len h2]
/-- the i-th slot taken out, another one put in -/
theorem slotsR_at : ∀ {δ : Ev} {σ : L2.St} {L : List Addr} {i : Nat} {s : Sl}, SlotsR K mg ρ F H δ σ L → δ[i]? = some s →
    ∃ o L1 Li L2, σ[i]? = some o ∧ L = L1 ++ (Li ++ L2) ∧ SlotR K mg ρ F H s o Li ∧
      ∀ {F' H' : Hp}, Same F F' → (∀ a ∈ L1 ++ L2, H' a = H a) → ∀ s' o' Ls, SlotR K mg ρ F' H' s' o' Ls → SlotsR K mg ρ F' H' (δ.set i s') (σ.set i o') (L1 ++ (Ls ++ L2))
  | [], _, _, _, _, _, e => by simp at e
  | _ :: _, [], _, _, _, h, _ => h.elim
  | s0 :: ss, o0 :: os, _, 0, s, h, e => by
    obtain ⟨L1, L2, rfl, h1, h2⟩ := h
    simp at e; subst e
    refine ⟨o0, [], L1, L2, rfl, rfl, h1, fun e k s' o' Ls q => ⟨Ls, L2, rfl, q, slotsR_mono e k h2⟩⟩
  | s0 :: ss, o0 :: os, _, i + 1, s, h, e => by
    obtain ⟨L1, L2, rfl, h1, h2⟩ := h
    obtain ⟨o, M1, Mi, M2, e1, rfl, e3, e4⟩ := slotsR_at (i := i) h2 (by simpa using e)
    refine ⟨o, L1 ++ M1, Mi, M2, by simpa using e1, by simp, e3, fun e k s' o' Ls q => ⟨L1, M1 ++ (Ls ++ M2), by simp, slotR_mono e (fun a ha => k a (by simp [ha])) h1, e4 e (fun a ha => k a ?_) s' o' Ls q⟩⟩
    rw [List.append_assoc]
    exact List.mem_append_right _ ha

theorem same_upd {p : Addr} {o : HO} (h : F p = none) : Same F (upd F p o) := fun a u e => by
  rw [upd_ne (ne_of_none e h)]; exact e
theorem Rel.len (r : Rel K mg ρ Fr F δ σ H) : δ.length = σ.length := let ⟨_, h, _⟩ := r.own; slotsR_len h
theorem Rel.fF (r : Rel K mg ρ Fr F δ σ H) {p : Addr} (h : H p = none) : F p = none := r.sub.free h
theorem Rel.fFr (r : Rel K mg ρ Fr F δ σ H) {p : Addr} (h : H p = none) : Fr p = none := r.fr.free h
/-- a new object that nobody tells of -/
theorem Rel.new {p : Addr} {o : HO} (r : Rel K mg ρ Fr F δ σ H) (h : H p = none) : Rel K mg ρ Fr F δ σ (upd H p o) := by
  obtain ⟨L, h1, h2, h3⟩ := r.own
  refine ⟨r.sub.trans (same_upd h), r.fr.trans (same_upd h), r.dis, L, slotsR_mono (Same.refl _) (fun a ha => ?_) h1, h2, h3⟩
  obtain ⟨vs, e⟩ := slotsR_mem h1 ha
  exact upd_ne (ne_of_none e h)
/-- a new object that stays -/
theorem Rel.frz {p : Addr} {o : HO} (r : Rel K mg ρ Fr F δ σ H) (h : H p = none) : Rel K mg ρ Fr (upd F p o) δ σ (upd H p o) := by
  obtain ⟨L, h1, h2, h3⟩ := r.own
  have hL : ∀ a ∈ L, a ≠ p := fun a ha => by
    obtain ⟨vs, e⟩ := slotsR_mem h1 ha
    exact ne_of_none e h
  refine ⟨fun a u e => ?_, r.fr.trans (same_upd h), fun a ha => ?_, L, slotsR_mono (same_upd (r.fF h)) (fun a ha => upd_ne (hL a ha)) h1, h2, fun a ha => ⟨?_, (h3 a ha).2⟩⟩
  · by_cases q : a = p
    · subst q; rw [upd_same] at e ⊢; exact e
    · rw [upd_ne q] at e ⊢; exact r.sub a u e
  · have q : a ≠ p := fun z => by subst z; exact ha (r.fFr h)
    rw [upd_ne q]; exact r.dis a ha
  · rw [upd_ne (hL a ha)]; exact (h3 a ha).1
/-- a new list, owned -/
theorem Rel.temp {p : Addr} {vs : List V} {xs : List PyData} (r : Rel K mg ρ Fr F δ σ H) (h : H p = none) (d : DpAll K F vs xs) : Rel K mg ρ Fr F (.own xs :: δ) (some (.ref p) :: σ) (upd H p (.lst vs)) := by
  obtain ⟨L, h1, h2, h3⟩ := r.own
  have hL : ∀ a ∈ L, a ≠ p := fun a ha => by
    obtain ⟨vs, e⟩ := slotsR_mem h1 ha
    exact ne_of_none e h
  refine ⟨r.sub.trans (same_upd h), r.fr.trans (same_upd h), r.dis, p :: L, ⟨[p], L, rfl, ⟨p, vs, rfl, rfl, upd_same, d⟩, slotsR_mono (Same.refl _) (fun a ha => upd_ne (hL a ha)) h1⟩, ?_, ?_⟩
  · exact List.nodup_cons.mpr ⟨fun q => hL p q rfl, h2⟩
  · intro a ha
    rcases List.mem_cons.mp ha with rfl | ha
    · exact ⟨r.fF h, r.fFr h⟩
    · exact h3 a ha
theorem Rel.tval {v : V} {d : PyData} (r : Rel K mg ρ Fr F δ σ H) (h : Dp K F v d) : Rel K mg ρ Fr F (.val d :: δ) (some v :: σ) H := by
  obtain ⟨L, h1, h2, h3⟩ := r.own
  exact ⟨r.sub, r.fr, r.dis, L, ⟨[], L, rfl, ⟨rfl, v, rfl, h⟩, h1⟩, h2, h3⟩
theorem Rel.tail {s : Sl} {o : Option V} (r : Rel K mg ρ Fr F (s :: δ) (o :: σ) H) : Rel K mg ρ Fr F δ σ H := by
  obtain ⟨L, ⟨L1, L2, rfl, h1, h2⟩, h3, h4⟩ := r.own
  exact ⟨r.sub, r.fr, r.dis, L2, h2, (List.nodup_append.mp h3).2.1, fun a ha => h4 a (List.mem_append_right _ ha)⟩
theorem Rel.get {i : Nat} {d : PyData} (r : Rel K mg ρ Fr F δ σ H) (h : δ[i]? = some (.val d)) : ∃ v, σ[i]? = some (some v) ∧ Dp K F v d := by
  obtain ⟨L, h1, h2, h3⟩ := r.own
  obtain ⟨o, L1, Li, L2, e1, e2, ⟨_, v, rfl, e3⟩, _⟩ := slotsR_at h1 h
  exact ⟨v, e1, e3⟩
/-- the owned lists: own, io -/
def Sl.isOwn : Sl → Option (List PyData)
  | .own xs => some xs
  | .io _ xs => some xs
  | _ => none
def Sl.put : Sl → List PyData → Sl
  | .own _, ys => .own ys
  | .io k _, ys => .io k ys
  | s, _ => s
theorem Rel.getOwn {i : Nat} {s : Sl} {xs : List PyData} (r : Rel K mg ρ Fr F δ σ H) (h : δ[i]? = some s) (hs : s.isOwn = some xs) :
    ∃ p vs, σ[i]? = some (some (.ref p)) ∧ H p = some (.lst vs) ∧ DpAll K F vs xs ∧ F p = none ∧
      ∀ vs' xs', DpAll K F vs' xs' → Rel K mg ρ Fr F (δ.set i (s.put xs')) σ (upd H p (.lst vs')) := by
  obtain ⟨L, h1, h2, h3⟩ := r.own
  obtain ⟨o, L1, Li, L2, e1, rfl, e3, e4⟩ := slotsR_at h1 h
  have key : ∃ p vs, o = some (.ref p) ∧ Li = [p] ∧ H p = some (.lst vs) ∧ DpAll K F vs xs ∧ ∀ vs' xs' H', H' p = some (.lst vs') → DpAll K F vs' xs' → SlotR K mg ρ F H' (s.put xs') o [p] := by
    cases s with
    | own ys =>
      obtain ⟨p, vs, rfl, rfl, a1, a2⟩ := e3
      cases (show some ys = some xs from hs)
      exact ⟨p, vs, rfl, rfl, a1, a2, fun vs' xs' H' b1 b2 => ⟨p, vs', rfl, rfl, b1, b2⟩⟩
    | io k ys =>
      obtain ⟨rfl, rfl, vs, a1, a2⟩ := e3
      cases (show some ys = some xs from hs)
      exact ⟨_, vs, rfl, rfl, a1, a2, fun vs' xs' H' b1 b2 => ⟨rfl, rfl, vs', b1, b2⟩⟩
    | emp => cases hs
    | val d => cases hs
    | fn x => cases hs
    | tree d => cases hs
    | vk j d => cases hs
  obtain ⟨p, vs, rfl, rfl, a1, a2, a3⟩ := key
  have hp := h3 p (by simp)
  have nL : ∀ a ∈ L1 ++ L2, a ≠ p := fun a ha z => by
    subst z
    have q := List.nodup_append.mp h2
    rcases List.mem_append.mp ha with w | w
    · exact q.2.2 a w a (by simp) rfl
    · exact (List.nodup_cons.mp q.2.1).1 w
  refine ⟨p, vs, e1, a1, a2, hp.1, fun vs' xs' d => ⟨fun a u e => ?_, fun a u e => ?_, r.dis, _, ?_, h2, h3⟩⟩
  · rw [upd_ne (ne_of_none e hp.1)]; exact r.sub a u e
  · rw [upd_ne (ne_of_none e hp.2)]; exact r.fr a u e
  · have q := e4 (F' := F) (H' := upd H p (.lst vs')) (Same.refl _) (fun a ha => upd_ne (nL a ha)) (s.put xs') (some (.ref p)) [p] (a3 vs' xs' _ upd_same d)
    have es : σ.set i (some (.ref p)) = σ := by
      apply List.ext_getElem?
      intro j
      by_cases hj : i = j
      · subst hj
        have hl : i < σ.length := by
          by_cases hl : i < σ.length
          · exact hl
          · rw [List.getElem?_eq_none (by omega)] at e1; cases e1
        rw [List.getElem?_set_self hl, e1]
      · rw [List.getElem?_set_ne hj]
    rw [es] at q
    exact q
/-- a temporary goes into a slot -/
theorem Rel.set {s : Sl} {o : Option V} {i : Nat} (r : Rel K mg ρ Fr F (s :: δ) (o :: σ) H) (hi : i < δ.length) : Rel K mg ρ Fr F (δ.set i s) (σ.set i o) H := by
  obtain ⟨L, ⟨L0, L', rfl, h0, h1⟩, h3, h4⟩ := r.own
  obtain ⟨o', L1, Li, L2, e1, rfl, e3, e4⟩ := slotsR_at h1 (List.getElem?_eq_getElem hi)
  have nd : (L1 ++ (L0 ++ L2)).Nodup := by
    have p : (L0 ++ (L1 ++ (Li ++ L2))).Perm (Li ++ (L1 ++ (L0 ++ L2))) := by
      have a : (L0 ++ (L1 ++ (Li ++ L2))).Perm ((L1 ++ (Li ++ L2)) ++ L0) := List.perm_append_comm
      have b : (L1 ++ (Li ++ L2)).Perm (Li ++ (L1 ++ L2)) := by
        rw [← List.append_assoc, ← List.append_assoc]
        exact List.Perm.append_right _ List.perm_append_comm
      have c : (L1 ++ (L0 ++ L2)).Perm ((L1 ++ L2) ++ L0) := by
        rw [List.append_assoc]
        exact List.Perm.append_left _ List.perm_append_comm
      refine a.trans ((b.append_right L0).trans ?_)
      rw [List.append_assoc]
      exact List.Perm.append_left _ c.symm
    exact (List.nodup_append.mp (p.nodup_iff.mp h3)).2.1
  refine ⟨r.sub, r.fr, r.dis, _, e4 (F' := F) (H' := H) (Same.refl _) (fun _ _ => rfl) s o L0 h0, nd, fun a ha => h4 a ?_⟩
  simp only [List.mem_append] at ha ⊢
  rcases ha with q | q | q
  · exact .inr (.inl q)
  · exact .inl q
  · exact .inr (.inr (.inr q))
/-- a temporary is frozen -/
def Sl.frz : Sl → Res PyData
  | .val d => .ok d
  | .own xs => .ok (.list xs)
  | .io _ xs => .ok (.list xs)
  | .tree d => .ok d
  | _ => .no
theorem Rel.melt {s : Sl} {o : Option V} {d : PyData} (r : Rel K mg ρ Fr F (s :: δ) (o :: σ) H) (h : s.frz = .ok d) :
    ∃ v F', o = some v ∧ Same F F' ∧ Rel K mg ρ Fr F' δ σ H ∧ Dp K F' v d := by
  have hL : ∀ p vs xs L2, o = some (.ref p) → H p = some (.lst vs) → DpAll K F vs xs → SlotsR K mg ρ F H δ σ L2 → ([p] ++ L2).Nodup → (∀ a ∈ [p] ++ L2, F a = none ∧ Fr a = none) → d = .list xs →
      ∃ v F', o = some v ∧ Same F F' ∧ Rel K mg ρ Fr F' δ σ H ∧ Dp K F' v d := by
    intro p vs xs L2 ho hp hd hS hn hf e
    have h1 := hf p (by simp)
    have e1 : Same F (upd F p (.lst vs)) := same_upd h1.1
    have hn' : p ∉ L2 := (List.nodup_cons.mp hn).1
    refine ⟨_, upd F p (.lst vs), ho, e1, ⟨fun a u q => ?_, r.fr, fun a ha => ?_, L2, slotsR_mono e1 (fun _ _ => rfl) hS, (List.nodup_cons.mp hn).2, fun a ha => ⟨?_, (hf a (by simp [ha])).2⟩⟩, e ▸ .lst (SqL.of upd_same) (hd.up e1)⟩
    · by_cases z : a = p
      · subst z; rw [upd_same] at q; rw [hp]; exact q
      · rw [upd_ne z] at q; exact r.sub a u q
    · rw [upd_ne (fun z => by subst z; exact ha h1.2)]; exact r.dis a ha
    · rw [upd_ne (fun z => by subst z; exact hn' ha)]; exact (hf a (by simp [ha])).1
  obtain ⟨L, ⟨L1, L2, rfl, h1, h2⟩, h3, h4⟩ := r.own
  cases s with
  | val d' =>
    obtain ⟨rfl, v, rfl, e⟩ := h1
    cases (show Res.ok d' = .ok d from h)
    exact ⟨v, F, rfl, Same.refl _, r.tail, e⟩
  | own xs =>
    obtain ⟨p, vs, rfl, rfl, a1, a2⟩ := h1
    cases (show Res.ok (PyData.list xs) = .ok d from h)
    exact hL p vs xs L2 rfl a1 a2 h2 h3 h4 rfl
  | io k xs =>
    obtain ⟨rfl, rfl, vs, a1, a2⟩ := h1
    cases (show Res.ok (PyData.list xs) = .ok d from h)
    exact hL _ vs xs L2 rfl a1 a2 h2 h3 h4 rfl
  | emp => cases h
  | fn x => cases h
  | vk j d' => cases h
  | tree d' =>
    obtain ⟨v, rfl, tp⟩ := h1
    cases (show Res.ok d' = .ok d from h)
    have nd := List.nodup_append.mp h3
    have e1 : Same F (fun a => if a ∈ L1 then H a else F a) := fun a u q => by
      have z : a ∉ L1 := fun z => by rw [(h4 a (List.mem_append_left _ z)).1] at q; cases q
      simp only [z, if_false]; exact q
    refine ⟨v, _, rfl, e1, ⟨fun a u q => ?_, r.fr, fun a ha => ?_, L2, slotsR_mono e1 (fun _ _ => rfl) h2, nd.2.1, fun a ha => ⟨?_, (h4 a (List.mem_append_right _ ha)).2⟩⟩, tp_see e1 _ v L1 (fun a ha => by simp only [ha, if_true]) tp⟩
    · by_cases z : a ∈ L1
      · simp only [z, if_true] at q; exact q
      · simp only [z, if_false] at q; exact r.sub a u q
    · have z : a ∉ L1 := fun z => ha (h4 a (List.mem_append_left _ z)).2
      simp only [z, if_false]; exact r.dis a ha
    · have z : a ∉ L1 := fun z => nd.2.2 a z a ha rfl
      simp only [z, if_false]; exact (h4 a (List.mem_append_right _ ha)).1
/-- an owned temporary waits in the frame -/
theorem Rel.stash {xs : List PyData} {o : Option V} (r : Rel K mg ρ Fr F (.own xs :: δ) (o :: σ) H) :
    ∃ p vs, o = some (.ref p) ∧ H p = some (.lst vs) ∧ Fr p = none ∧ F p = none ∧ DpAll K F vs xs ∧ Rel K mg ρ (upd Fr p (.lst vs)) F δ σ H := by
  obtain ⟨L, ⟨L1, L2, rfl, ⟨p, vs, rfl, rfl, a1, a2⟩, h2⟩, h3, h4⟩ := r.own
  have h1 := h4 p (by simp)
  refine ⟨p, vs, rfl, a1, h1.2, h1.1, a2, r.sub, fun a u q => ?_, fun a ha => ?_, L2, h2, (List.nodup_cons.mp h3).2, fun a ha => ⟨(h4 a (by simp [ha])).1, ?_⟩⟩
  · by_cases z : a = p
    · subst z; rw [upd_same] at q; rw [a1]; exact q
    · rw [upd_ne z] at q; exact r.fr a u q
  · by_cases z : a = p
    · subst z; exact h1.1
    · rw [upd_ne z] at ha; exact r.dis a ha
  · rw [upd_ne (fun z => by subst z; exact (List.nodup_cons.mp h3).1 ha)]; exact (h4 a (by simp [ha])).2
theorem Rel.unstash {xs : List PyData} {p : Addr} {vs : List V} (r : Rel K mg ρ (upd Fr p (.lst vs)) F δ σ H) (hf : Fr p = none) (d : DpAll K F vs xs) :
    Rel K mg ρ Fr F (.own xs :: δ) (some (.ref p) :: σ) H := by
  obtain ⟨L, h1, h2, h3⟩ := r.own
  have hp : H p = some (.lst vs) := r.fr p _ upd_same
  have np : p ∉ L := fun q => by have := (h3 p q).2; rw [upd_same] at this; cases this
  refine ⟨r.sub, fun a u q => r.fr a u ?_, fun a ha => r.dis a ?_, p :: L, ⟨[p], L, rfl, ⟨p, vs, rfl, rfl, hp, d⟩, h1⟩, List.nodup_cons.mpr ⟨np, h2⟩, fun a ha => ?_⟩
  · rw [upd_ne (ne_of_none q hf)]; exact q
  · rw [upd_ne (fun z => by subst z; exact ha hf)]; exact ha
  · rcases List.mem_cons.mp ha with e1 | hb
    · rw [e1]; exact ⟨r.dis _ (by rw [upd_same]; simp), hf⟩
    · have q := h3 a hb
      rw [upd_ne (fun z => by rw [z] at hb; exact np hb)] at q
      exact q
/-- all slots wait in the frame -/
theorem Rel.hide (r : Rel K mg ρ Fr F δ σ H) : ∃ Fr', (∀ a, Fr' a = none → Fr a = none) ∧ (∀ ρ', Rel K mg ρ' Fr' F [] [] H) ∧
    ∀ {ρ' : Nat → Addr} {F' H' : Hp} {ss : Ev} {os : L2.St}, Same F F' → Rel K mg ρ' Fr' F' ss os H' → Rel K mg ρ' Fr F' ss os H' ∧ Rel K mg ρ Fr F' δ σ H' := by
  obtain ⟨L, h1, h2, h3⟩ := r.own
  refine ⟨fun a => if a ∈ L then H a else Fr a, fun a q => ?_, fun ρ' => ⟨r.sub, fun a u q => ?_, fun a ha => ?_, [], rfl, List.nodup_nil, fun _ z => nomatch z⟩, fun {ρ' F' H' ss os} e r' => ?_⟩
  · by_cases z : a ∈ L
    · exact (h3 a z).2
    · simp only [z, if_false] at q; exact q
  · by_cases z : a ∈ L
    · simp only [z, if_true] at q; exact q
    · simp only [z, if_false] at q; exact r.fr a u q
  · by_cases z : a ∈ L
    · exact (h3 a z).1
    · simp only [z, if_false] at ha; exact r.dis a ha
  · obtain ⟨L', g1, g2, g3⟩ := r'.own
    have hLH : ∀ a ∈ L, H' a = H a := fun a ha => by
      obtain ⟨vs, e1⟩ := slotsR_mem h1 ha
      rw [e1]
      exact r'.fr a _ (by simp only [ha, if_true]; exact e1)
    have hLF : ∀ a ∈ L, F' a = none := fun a ha => r'.dis a (by
      obtain ⟨vs, e1⟩ := slotsR_mem h1 ha
      simp only [ha, if_true, e1]; simp)
    have hFr : ∀ a u, Fr a = some u → (if a ∈ L then H a else Fr a) = some u := fun a u q => by
      by_cases z : a ∈ L
      · rw [(h3 a z).2] at q; cases q
      · rw [if_neg z]; exact q
    have frS : Same Fr H' := fun a u q => r'.fr a u (hFr a u q)
    have disF : ∀ a, Fr a ≠ none → F' a = none := fun a ha => by
      obtain ⟨u, q⟩ := Option.ne_none_iff_exists'.mp ha
      refine r'.dis a (fun z => ?_)
      have q2 := hFr a u q
      rw [show (if a ∈ L then H a else Fr a) = none from z] at q2
      cases q2
    refine ⟨⟨r'.sub, frS, disF, L', g1, g2, fun a ha => ⟨(g3 a ha).1, ?_⟩⟩, ⟨r'.sub, frS, disF, L, slotsR_mono e hLH h1, h2, fun a ha => ⟨hLF a ha, (h3 a ha).2⟩⟩⟩
    have q := (g3 a ha).2
    by_cases z : a ∈ L
    · exact (h3 a z).2
    · simp only [z, if_false] at q; exact q
end
end CW

namespace CW
open PySem PySem.Spec PyProof.Rows L2

/-! judgements -/
section
variable (K : PySem.W.Frag) (mg : Str → Option Value)
def SndE (t : TE) (m : ME) : Prop := ∀ {ρ : Nat → Addr} {Fr F : Hp} {δ : Ev} {σ : L2.St} {H : Hp} {d : PyData} {δ' : Ev}, Rel K mg ρ Fr F δ σ H → m δ = .ok (d, δ') →
  ∀ {Q : VK}, (∀ F' v H', Same F F' → Rel K mg ρ Fr F' δ' σ H' → Dp K F' v d → Q v H') → t σ H Q
def SndN (t : TE) (m : MN) : Prop := ∀ {ρ : Nat → Addr} {Fr F : Hp} {δ : Ev} {σ : L2.St} {H : Hp} {d : Sl} {δ' : Ev}, Rel K mg ρ Fr F δ σ H → m δ = .ok (d, δ') →
  ∀ {Q : VK}, (∀ F' v H', Same F F' → Rel K mg ρ Fr F' (d :: δ') (some v :: σ) H' → Q v H') → t σ H Q
def SndT (t : TT) (m : MT) : Prop := ∀ {ρ : Nat → Addr} {Fr F : Hp} {δ : Ev} {σ : L2.St} {H : Hp} {d : Bool} {δ' : Ev}, Rel K mg ρ Fr F δ σ H → m δ = .ok (d, δ') →
  ∀ {Q : Bool → Hp → Prop}, (∀ F' H', Same F F' → Rel K mg ρ Fr F' δ' σ H' → Q d H') → t σ H Q
def SndA (t : TA) (m : MA) : Prop := ∀ {ρ : Nat → Addr} {Fr F : Hp} {δ : Ev} {σ : L2.St} {H : Hp} {d : List PyData} {δ' : Ev}, Rel K mg ρ Fr F δ σ H → m δ = .ok (d, δ') →
  ∀ {Q : List V → Hp → Prop}, (∀ F' vs H', Same F F' → Rel K mg ρ Fr F' δ' σ H' → DpAll K F' vs d → Q vs H') → t σ H Q
end
structure RE (X : Cx) (e : Expr) (t : TE) (m : ME) : Prop where
  pe : PE X e t
  sn : SndE X.K X.mg t m
structure RN (X : Cx) (e : Expr) (t : TE) (m : MN) : Prop where
  pe : PE X e t
  sn : SndN X.K X.mg t m
structure RT (X : Cx) (e : Expr) (t : TT) (m : MT) : Prop where
  pt : PT X e t
  sn : SndT X.K X.mg t m
structure RW (X : Cx) (e : Expr) (t : TT) (m : MT) : Prop where
  pw : PW X e t
  sn : SndT X.K X.mg t m
structure RA (X : Cx) (es : List Expr) (t : TA) (m : MA) : Prop where
  pa : PA X es t
  sn : SndA X.K X.mg t m

section
variable {X : Cx} {K : PySem.W.Frag} {mg : Str → Option Value}

/-! names and constants -/
def mVar (i : Nat) : ME := fun δ => match δ[i]? with
  | some (.val d) => .ok (d, δ)
  | _ => .no
theorem sn_var (i : Nat) : SndE K mg (tVar i) (mVar i) := fun {ρ Fr F δ σ H d δ'} r h {Q} q => by
  unfold mVar at h
  split at h
  · rename_i d' e
    cases h
    obtain ⟨v, e1, e2⟩ := r.get e
    exact ⟨v, e1, q F v H (Same.refl _) r e2⟩
  · cases h
theorem re_var (i : Nat) {x : Str} {pos : Pos} (hN : X.N[i]? = some x := by rfl) (hv : Vis X.env.scope x := by first | exact Or.inl rfl | exact Or.inr (Or.inl rfl) | exact Or.inr (Or.inr rfl)) (hd : (x == ("__debug__" : Str)) = false := by decide)
    (hcd : (x == ("__classdict__" : Str)) = false := by decide) : RE X (.Name x pos) (tVar i) (mVar i) := ⟨pe_var hN hv hd hcd, sn_var i⟩
def mC (d : PyData) : ME := fun δ => .ok (d, δ)
theorem sn_c {v : V} {d : PyData} (h : ∀ F, Dp K F v d) : SndE K mg (tC v) (mC d) := fun {ρ Fr F δ σ H d δ'} r e {Q} q => by
  cases e
  exact q F v H (Same.refl _) r (h F)
theorem re_int {i : Int} {j pos} : RE X (.Constant (.int i) j pos) (tC (.int i)) (mC (.int i)) := ⟨pe_int, sn_c fun _ => .int i⟩
theorem re_bl {b j pos} : RE X (.Constant (.bool b) j pos) (tC (.bl b)) (mC (.bool b)) := ⟨pe_bl, sn_c fun _ => .bl b⟩
theorem re_non {j pos} : RE X (.Constant .none j pos) (tC .non) (mC .none) := ⟨pe_non, sn_c fun _ => .non⟩
theorem re_str {x j pos} : RE X (.Constant (.str x) j pos) (tC (.str x)) (mC (.str x)) := ⟨pe_str, sn_c fun _ => .str x⟩

/-! a new value is frozen; a value is a slot -/
def mFrz (m : MN) : ME := fun δ => match m δ with
  | .ok (s, δ1) => (match s.frz with
    | .ok d => .ok (d, δ1)
    | .err c d => .err c d
    | .no => .no)
  | .err c d => .err c d
  | .no => .no
theorem sn_frz {t : TE} {m : MN} (h : SndN K mg t m) : SndE K mg t (mFrz m) := fun {ρ Fr F δ σ H d δ'} r e {Q} q => by
  unfold mFrz at e
  split at e
  · rename_i s δ1 e1
    split at e
    · rename_i d' e2
      cases e
      refine h r e1 fun F1 v H1 s1 r1 => ?_
      obtain ⟨v', F2, e3, s2, r2, d2⟩ := r1.melt e2
      cases e3
      exact q F2 v H1 (s1.trans s2) r2 d2
    · cases e
    · cases e
  · cases e
  · cases e
theorem re_new {e : Expr} {t : TE} {m : MN} (h : RN X e t m) : RE X e t (mFrz m) := ⟨h.pe, sn_frz h.sn⟩
def mVal (m : ME) : MN := fun δ => match m δ with
  | .ok (d, δ1) => .ok (.val d, δ1)
  | .err c d => .err c d
  | .no => .no
theorem sn_val {t : TE} {m : ME} (h : SndE K mg t m) : SndN K mg t (mVal m) := fun {ρ Fr F δ σ H d δ'} r e {Q} q => by
  unfold mVal at e
  split at e
  · rename_i d' δ1 e1
    cases e
    exact h r e1 fun F1 v H1 s1 r1 d1 => q F1 v H1 s1 (r1.tval d1)
  · cases e
  · cases e
theorem rn_val {e : Expr} {t : TE} {m : ME} (h : RE X e t m) : RN X e t (mVal m) := ⟨h.pe, sn_val h.sn⟩

/-! two-place operations -/
def mOp (f : PyData → PyData → Res PyData) (ma mb : ME) : ME := fun δ => match ma δ with
  | .ok (x, δ1) => (match mb δ1 with
    | .ok (y, δ2) => (match f x y with
      | .ok z => .ok (z, δ2)
      | .err c d => .err c d
      | .no => .no)
    | .err c d => .err c d
    | .no => .no)
  | .err c d => .err c d
  | .no => .no
def OpV (K : PySem.W.Frag) (mg : Str → Option Value) (r : R2) (f : PyData → PyData → Res PyData) : Prop := ∀ {ρ : Nat → Addr} {Fr F : Hp} {δ : Ev} {σ : L2.St} {H : Hp} {x y : V} {a b c : PyData}, Rel K mg ρ Fr F δ σ H → Dp K F x a → Dp K F y b → f a b = .ok c →
  ∀ {Q : VK}, (∀ F' v H', Same F F' → Rel K mg ρ Fr F' δ σ H' → Dp K F' v c → Q v H') → r x y H Q
theorem sn_op {r : R2} {f} {ta tb : TE} {ma mb : ME} (ho : OpV K mg r f) (ha : SndE K mg ta ma) (hb : SndE K mg tb mb) : SndE K mg (tOp r ta tb) (mOp f ma mb) := fun {ρ Fr F δ σ H d δ'} r e {Q} q => by
  unfold mOp at e
  split at e
  · rename_i x δ1 e1
    split at e
    · rename_i y δ2 e2
      split at e
      · rename_i z e3
        cases e
        refine ha r e1 fun F1 v H1 s1 r1 d1 => ?_
        refine hb r1 e2 fun F2 u H2 s2 r2 d2 => ?_
        exact ho r2 (d1.up s2) d2 e3 fun F3 z H3 s3 r3 d3 => q F3 z H3 ((s1.trans s2).trans s3) r3 d3
      · cases e
      · cases e
    · cases e
    · cases e
  · cases e
  · cases e
theorem opv_or {r r' : R2} {f f' g : PyData → PyData → Res PyData} (h : OpV K mg r f) (h' : OpV K mg r' f') (c : ∀ a b z, g a b = .ok z → f a b = .ok z ∨ f' a b = .ok z) : OpV K mg (fun x y H Q => r x y H Q ∨ r' x y H Q) g :=
  fun {ρ Fr F δ σ H x y a b c'} rl dx dy e {Q} q => by
    rcases c a b c' e with k | k
    · exact .inl (h rl dx dy k q)
    · exact .inr (h' rl dx dy k q)
theorem re_op {op : Operator} {r : R2} {f} {a b : Expr} {ta tb : TE} {ma mb : ME} {pos : Pos} (ho : OpR X (binaryOp op) r) (hv : OpV X.K X.mg r f) (ha : RE X a ta ma) (hb : RE X b tb mb) : RE X (.BinOp a op b pos) (tOp r ta tb) (mOp f ma mb) :=
  ⟨pe_op ho ha.pe hb.pe, sn_op hv ha.sn hb.sn⟩
/-- ints -/
def fI (C : Int → Int → Bool) (g : Int → Int → PyData) : PyData → PyData → Res PyData
  | .int i, .int j => if C i j then .ok (g i j) else .no
  | _, _ => .no
theorem opv_I {C : Int → Int → Prop} {c : Int → Int → Bool} {g : Int → Int → V} {g' : Int → Int → PyData} (hc : ∀ i j, c i j = true → C i j) (hg : ∀ i j F, Dp K F (g i j) (g' i j)) : OpV K mg (rI C g) (fI c g') := fun {ρ Fr F δ σ H x y a b z} r dx dy e {Q} q => by
  unfold fI at e
  split at e
  · split at e
    · rename_i i j h
      cases e; cases dx; cases dy
      exact ⟨i, j, rfl, rfl, hc i j h, q F _ H (Same.refl _) r (hg i j F)⟩
    · cases e
  · cases e
def fI0 (g : Int → Int → PyData) : PyData → PyData → Res PyData
  | .int i, .int j => .ok (g i j)
  | _, _ => .no
theorem opv_I0 {g : Int → Int → V} {g' : Int → Int → PyData} (hg : ∀ i j F, Dp K F (g i j) (g' i j)) : OpV K mg (rI0 g) (fI0 g') := fun {ρ Fr F δ σ H x y a b z} r dx dy e {Q} q => by
  unfold fI0 at e
  split at e
  · rename_i i j
    cases e; cases dx; cases dy
    exact ⟨i, j, rfl, rfl, q F _ H (Same.refl _) r (hg i j F)⟩
  · cases e
theorem opr_none {f : Value → Value → Sem Value} : OpR X f (fun _ _ _ _ => False) := by
  intro pins s σ H x y v u Q I rx ry h
  exact h.elim

/-! + -/
def rCatS (K : PySem.W.Frag) : R2 := fun x y H Q => ∃ l b xs zs, x = .ref l ∧ y = .ref b ∧ SqL K H l xs ∧ SqL K H b zs ∧ xs.length + zs.length ≤ sizeLine ∧ ∀ p, H p = none → Q (.ref p) (upd H p (.lst (xs ++ zs)))
theorem op_catS : OpR X (binaryOp .Add) (rCatS X.K) := by
  intro pins s σ H x y v u Q I hx hy h
  obtain ⟨l, b, xs, zs, rfl, rfl, h1, h2, hz, q⟩ := h
  cases hx; cases hy
  obtain ⟨its, ra, pa, za⟩ := I.list h1
  obtain ⟨itb, rb, pb, zb⟩ := I.list h2
  have la := ra.length
  have lb := rb.length
  obtain ⟨⟨oc, od, dt, sl⟩, n, g1, c1, d1, e1⟩ := pa
  obtain ⟨⟨oc2, od2, dt2, sl2⟩, n2, g2, c2, d2, e2⟩ := pb
  simp only at c1 d1 e1 c2 d2 e2
  subst c1 d1 e1 c2 d2 e2
  refine concat_meets ⟨_, g1, rfl⟩ ⟨_, g2, rfl⟩ noFill_list_add seq_list_add PySem.F.slot_list_add PySem.F.entry_list_add (PySem.F.args_list_add_2 _ _)
    (list_addW l b its.toArray itb.toArray n n2 none none sl sl2 (by simp only [List.size_toArray]; omega)) ⟨g1, g2, ?_⟩
  rw [List.append_toArray]
  exact ⟨.ref _, _, I.lnew (t' := s.toks) (ra.append rb) (by rw [List.length_append]; omega), rfl, q _ I.fresh⟩
def fAdd : PyData → PyData → Res PyData
  | .int i, .int j => .ok (.int (i + j))
  | .str i, .str j => if i.length + j.length ≤ sizeLine then .ok (.str (i ++ j)) else .no
  | .list xs, .list ys => if xs.length + ys.length ≤ sizeLine then .ok (.list (xs ++ ys)) else .no
  | .tuple xs, .tuple ys => if xs.length + ys.length ≤ sizeLine then .ok (.tuple (xs ++ ys)) else .no
  | _, _ => .no
def rAddA (K : PySem.W.Frag) : R2 := fun x y H Q => (∃ i j, x = .int i ∧ y = .int j ∧ Q (.int (i + j)) H) ∨ ((∃ i j, x = .str i ∧ y = .str j ∧ i.length + j.length ≤ sizeLine ∧ Q (.str (i ++ j)) H) ∨ (rCatS K x y H Q ∨ rCatA K x y H Q))

theorem op_addA : OpR X (binaryOp .Add) (rAddA X.K) := op_add.or (op_add_str.or (op_catS.or op_catA))
theorem opv_add : OpV K mg (rAddA K) fAdd := fun {ρ Fr F δ σ H x y a b c} r dx dy e {Q} q => by
  unfold fAdd at e
  split at e
  · cases e; cases dx; cases dy
    exact .inl ⟨_, _, rfl, rfl, q F _ H (Same.refl _) r (.int _)⟩
  · split at e
    · rename_i hz
      cases e; cases dx; cases dy
      exact .inr (.inl ⟨_, _, rfl, rfl, hz, q F _ H (Same.refl _) r (.str _)⟩)
    · cases e
  · split at e
    · rename_i xs ys hz
      cases e
      cases dx with
      | lst h1 d1 =>
        cases dy with
        | lst h2 d2 =>
          refine .inr (.inr (.inl ⟨_, _, _, _, rfl, rfl, sqL_mono r.sub h1, sqL_mono r.sub h2, by rw [dpa_len d1, dpa_len d2]; exact hz, fun p hp => ?_⟩))
          exact q _ _ _ (same_upd (r.fF hp)) (r.frz hp) (.lst (SqL.of upd_same) (dpa_app (d1.up (same_upd (r.fF hp))) (d2.up (same_upd (r.fF hp)))))
    · cases e
  · split at e
    · rename_i xs ys hz
      cases e
      cases dx with
      | tup h1 d1 =>
        cases dy with
        | tup h2 d2 =>
          refine .inr (.inr (.inr ⟨_, _, _, _, rfl, rfl, sqT_mono r.sub h1, sqT_mono r.sub h2, by rw [dpa_len d1, dpa_len d2]; exact hz, fun e1 => ?_, fun _ e2 => ?_, fun _ _ p hp => ?_⟩))
          · subst e1
            have : xs = [] := List.length_eq_zero_iff.mp (dpa_len d1).symm
            subst this
            exact q F _ H (Same.refl _) r (.tup h2 (by simpa using d2))
          · subst e2
            have : ys = [] := List.length_eq_zero_iff.mp (dpa_len d2).symm
            subst this
            exact q F _ H (Same.refl _) r (.tup h1 (by simpa using d1))
          · exact q _ _ _ (same_upd (r.fF hp)) (r.frz hp) (.tup (SqT.of upd_same) (dpa_app (d1.up (same_upd (r.fF hp))) (d2.up (same_upd (r.fF hp)))))
    · cases e
  · cases e
theorem re_add {a b : Expr} {ta tb : TE} {ma mb : ME} {pos : Pos} (ha : RE X a ta ma) (hb : RE X b tb mb) : RE X (.BinOp a .Add b pos) (tOp (rAddA X.K) ta tb) (mOp fAdd ma mb) := re_op op_addA opv_add ha hb
/-! the other operators on ints -/
def fSub : PyData → PyData → Res PyData := fI0 fun i j => .int (i - j)
theorem re_sub {a b : Expr} {ta tb : TE} {ma mb : ME} {pos : Pos} (ha : RE X a ta ma) (hb : RE X b tb mb) : RE X (.BinOp a .Sub b pos) (tOp (rI0 fun i j => .int (i - j)) ta tb) (mOp fSub ma mb) := re_op op_sub (opv_I0 fun _ _ _ => .int _) ha hb
/-- a product: one factor within 64 bits; a list of so many turns -/
def fMul : PyData → PyData → Res PyData
  | .int i, .int j => if (-(2 ^ 64) < i ∧ i < 2 ^ 64) ∨ (-(2 ^ 64) < j ∧ j < 2 ^ 64) then .ok (.int (i * j)) else .no
  | .list xs, .int k => if -(2 ^ 63) ≤ k ∧ k < 2 ^ 63 ∧ xs.length * k.toNat ≤ sizeLine then .ok (.list (List.replicate k.toNat xs).flatten) else .no
  | _, _ => .no
def fMulI : PyData → PyData → Res PyData
  | .int i, .int j => if (-(2 ^ 64) < i ∧ i < 2 ^ 64) ∨ (-(2 ^ 64) < j ∧ j < 2 ^ 64) then .ok (.int (i * j)) else if i.natAbs.log2 + j.natAbs.log2 < 1000000 then .ok (.int (i * j)) else .no
  | _, _ => .no
def rMulA : R2 := fun x y H Q => rI CMul (fun i j => .int (i * j)) x y H Q ∨ rI CMulW (fun i j => .int (i * j)) x y H Q
theorem op_mulA : OpR X (binaryOp .Mult) rMulA := op_mul.or op_mulW
theorem opv_mul : OpV K mg rMulA fMulI := fun {ρ Fr F δ σ H x y a b c} r dx dy e {Q} q => by
  unfold fMulI at e
  split at e
  · split at e
    · rename_i h
      cases e; cases dx; cases dy
      exact .inl ⟨_, _, rfl, rfl, h, q F _ H (Same.refl _) r (.int _)⟩
    · split at e
      · rename_i h
        cases e; cases dx; cases dy
        exact .inr ⟨_, _, rfl, rfl, h, q F _ H (Same.refl _) r (.int _)⟩
      · cases e
  · cases e
theorem re_mul {a b : Expr} {ta tb : TE} {ma mb : ME} {pos : Pos} (ha : RE X a ta ma) (hb : RE X b tb mb) : RE X (.BinOp a .Mult b pos) (tOp rMulA ta tb) (mOp fMulI ma mb) := re_op op_mulA opv_mul ha hb
/-- // by a positive divisor below 2^30 -/
def CDivB (i j : Int) : Prop := 0 < j ∧ j.natAbs.log2 < 9000
def fDiv : PyData → PyData → Res PyData := fI (fun _ j => decide (0 < j ∧ j.natAbs.log2 < 9000)) fun i j => .int (i / j)
theorem re_fdiv {a b : Expr} {ta tb : TE} {ma mb : ME} {pos : Pos} (ha : RE X a ta ma) (hb : RE X b tb mb) : RE X (.BinOp a .FloorDiv b pos) (tOp (rI CDivW fun i j => .int (i / j)) ta tb) (mOp fDiv ma mb) :=
  re_op op_fdivW (opv_I (fun i j h => of_decide_eq_true h) fun _ _ _ => .int _) ha hb
def fMod : PyData → PyData → Res PyData := fI (fun _ j => decide (0 < j)) fun i j => .int (i % j)
theorem re_mod {a b : Expr} {ta tb : TE} {ma mb : ME} {pos : Pos} (ha : RE X a ta ma) (hb : RE X b tb mb) : RE X (.BinOp a .Mod b pos) (tOp (rI (fun _ j => 0 < j) fun i j => .int (i % j)) ta tb) (mOp fMod ma mb) :=
  re_op op_mod (opv_I (fun i j h => of_decide_eq_true h) fun _ _ _ => .int _) ha hb
def CPowB (i j : Int) : Prop := 0 ≤ j ∧ (Builtin.Int.intBits i : Int) * j ≤ 2 ^ 27
theorem op_powB : OpR X (binaryOp .Pow) (rI CPowB fun i j => .int (i ^ j.toNat)) := opI fun _ _ _ _ _ _ _ hc q => PyProof.Rows.pow_int hc.1 hc.2 q
def fPow : PyData → PyData → Res PyData := fI (fun i j => decide (0 ≤ j ∧ (Builtin.Int.intBits i : Int) * j ≤ 2 ^ 27)) fun i j => .int (i ^ j.toNat)
theorem re_pow {a b : Expr} {ta tb : TE} {ma mb : ME} {pos : Pos} (ha : RE X a ta ma) (hb : RE X b tb mb) : RE X (.BinOp a .Pow b pos) (tOp (rI CPowB fun i j => .int (i ^ j.toNat)) ta tb) (mOp fPow ma mb) :=
  re_op op_powB (opv_I (fun i j h => of_decide_eq_true h) fun _ _ _ => .int _) ha hb
def fShl : PyData → PyData → Res PyData := fI (fun i j => decide (0 ≤ j ∧ j ≤ 1000000 ∧ i.natAbs < 2 ^ 64)) fun i j => .int (i * 2 ^ j.toNat)
theorem re_shl {a b : Expr} {ta tb : TE} {ma mb : ME} {pos : Pos} (ha : RE X a ta ma) (hb : RE X b tb mb) : RE X (.BinOp a .LShift b pos) (tOp (rI CPow fun i j => .int (i * 2 ^ j.toNat)) ta tb) (mOp fShl ma mb) :=
  re_op op_shl (opv_I (fun i j h => of_decide_eq_true h) fun _ _ _ => .int _) ha hb
/-! -x -/
def mNeg (m : ME) : ME := fun δ => match m δ with
  | .ok (.int i, δ1) => .ok (.int (-i), δ1)
  | .err c d => .err c d
  | _ => .no
theorem sn_neg {t : TE} {m : ME} (h : SndE K mg t m) : SndE K mg (tUn (rU fun i => .int (-i)) t) (mNeg m) := fun {ρ Fr F δ σ H d δ'} r e {Q} q => by
  unfold mNeg at e
  split at e
  · rename_i i δ1 e1
    cases e
    exact h r e1 fun F1 v H1 s1 r1 d1 => by cases d1; exact ⟨i, rfl, q F1 _ H1 s1 r1 (.int _)⟩
  · cases e
  · cases e
theorem re_neg {a : Expr} {t : TE} {m : ME} {pos : Pos} (h : RE X a t m) : RE X (.UnaryOp .USub a pos) (tUn (rU fun i => .int (-i)) t) (mNeg m) := ⟨pe_un un_neg h.pe, sn_neg h.sn⟩

/-! comparisons -/
/-- a list of anything beside an empty one -/
def noneL : PyData → PyData → Option Bool
  | .list xs, .list [] => some xs.isEmpty
  | _, _ => none
def fEq : PyData → PyData → Res PyData
  | .str x, .str y => .ok (.bool (decide (x = y)))
  | a, b => if SeqAt.shaped a = true ∧ SeqAt.shaped b = true then .ok (.bool (PyData.eqv a b)) else match noneL a b with
    | some false => .ok (.bool false)
    | _ => .no
def fNe : PyData → PyData → Res PyData
  | .str x, .str y => .ok (.bool (!decide (x = y)))
  | a, b => if SeqAt.shaped a = true ∧ SeqAt.shaped b = true then .ok (.bool (!PyData.eqv a b)) else match noneL a b with
    | some false => .ok (.bool true)
    | _ => .no
def rEmp (K : PySem.W.Frag) (k : Bool) : R2 := fun x y H Q => ∃ a b v vs, x = .ref a ∧ y = .ref b ∧ SqL K H a (v :: vs) ∧ SqL K H b [] ∧ Q (.bl k) H
theorem op_eqE (hu : X.A.units + 64 < cLine) : OpR X (compareOp .Eq) (rEmp X.K false) := by
  intro pins s σ H x y v u Q I rx ry h
  obtain ⟨a, b, w, ws, rfl, rfl, h1, h2, q⟩ := h
  cases (show v = Value.ref a from rx)
  cases (show u = Value.ref b from ry)
  obtain ⟨i1, r1, l1, _⟩ := I.list h1
  obtain ⟨i2, r2, l2, _⟩ := I.list h2
  cases r1 with
  | cons ra rb =>
    cases r2
    exact SeqAt.RcAt.lists_lengths (s := s) l1.isList l2.isList (by simp) (by omega) _ _ _ _ ⟨.bl false, H, I, rfl, q⟩
theorem op_neE (hu : X.A.units + 64 < cLine) : OpR X (compareOp .NotEq) (rEmp X.K true) := by
  intro pins s σ H x y v u Q I rx ry h
  obtain ⟨a, b, w, ws, rfl, rfl, h1, h2, q⟩ := h
  cases (show v = Value.ref a from rx)
  cases (show u = Value.ref b from ry)
  obtain ⟨i1, r1, l1, _⟩ := I.list h1
  obtain ⟨i2, r2, l2, _⟩ := I.list h2
  cases r1 with
  | cons ra rb =>
    cases r2
    exact SeqAt.RcNeAt.lists_lengths (s := s) l1.isList l2.isList (by simp) (by omega) _ _ _ _ ⟨.bl true, H, I, rfl, q⟩
theorem noneL_emp {K : PySem.W.Frag} {F H : Hp} {x y : V} {a b : PyData} {k : Bool} {Q : VK} (e : noneL a b = some false) (hs : Same F H) (dx : Dp K F x a) (dy : Dp K F y b) (q : Q (.bl k) H) : rEmp K k x y H Q := by
  unfold noneL at e
  split at e
  · rename_i xs
    cases xs with
    | nil => cases e
    | cons d ds =>
      cases dx with
      | lst h1 d1 =>
        cases dy with
        | lst h2 d2 =>
          cases d1
          cases d2
          exact ⟨_, _, _, _, rfl, rfl, sqL_mono hs h1, sqL_mono hs h2, q⟩
  · cases e
def rEqA (K : PySem.W.Frag) : R2 := fun x y H Q => (rEqD K x y H Q ∨ rEq x y H Q) ∨ rEmp K false x y H Q
def rNeA (K : PySem.W.Frag) : R2 := fun x y H Q => (rNeD K x y H Q ∨ rNe x y H Q) ∨ rEmp K true x y H Q
theorem op_eqA (hu : X.A.units + 64 < cLine) : OpR X (compareOp .Eq) (rEqA X.K) := ((op_eqD hu).or op_eq).or (op_eqE hu)
theorem op_neA (hu : X.A.units + 64 < cLine) : OpR X (compareOp .NotEq) (rNeA X.K) := ((op_neD hu).or op_ne).or (op_neE hu)
theorem dec_str (x y : Str) : decide (V.str x = V.str y) = decide (x = y) := by
  by_cases h : x = y
  · subst h; simp
  · have h' : V.str x ≠ V.str y := fun z => h (by cases z; rfl)
    rw [decide_eq_false h, decide_eq_false h']
theorem opv_eq : OpV K mg (rEqA K) fEq := fun {ρ Fr F δ σ H x y a b c} r dx dy e {Q} q => by
  unfold fEq at e
  split at e
  · cases e; cases dx; cases dy
    exact .inl (.inr ⟨rfl, by rw [dec_str]; exact q F _ H (Same.refl _) r (.bl _)⟩)
  · split at e
    · rename_i h
      cases e
      exact .inl (.inl ⟨a, b, dp_old _ _ (dx.up r.sub) (shaped_noDict h.1), dp_old _ _ (dy.up r.sub) (shaped_noDict h.2), h.1, h.2, q F _ H (Same.refl _) r (.bl _)⟩)
    · split at e
      · rename_i h
        cases e
        exact .inr (noneL_emp h r.sub dx dy (q F _ H (Same.refl _) r (.bl _)))
      · cases e
theorem opv_ne : OpV K mg (rNeA K) fNe := fun {ρ Fr F δ σ H x y a b c} r dx dy e {Q} q => by
  unfold fNe at e
  split at e
  · cases e; cases dx; cases dy
    exact .inl (.inr ⟨rfl, by rw [dec_str]; exact q F _ H (Same.refl _) r (.bl _)⟩)
  · split at e
    · rename_i h
      cases e
      exact .inl (.inl ⟨a, b, dp_old _ _ (dx.up r.sub) (shaped_noDict h.1), dp_old _ _ (dy.up r.sub) (shaped_noDict h.2), h.1, h.2, q F _ H (Same.refl _) r (.bl _)⟩)
    · split at e
      · rename_i h
        cases e
        exact .inr (noneL_emp h r.sub dx dy (q F _ H (Same.refl _) r (.bl _)))
      · cases e
def fLt : PyData → PyData → Res PyData
  | .int i, .int j => .ok (.bool (decide (i < j)))
  | .str i, .str j => .ok (.bool (decide (i.cps.toList < j.cps.toList)))
  | _, _ => .no
def fLe : PyData → PyData → Res PyData
  | .int i, .int j => .ok (.bool (decide (i ≤ j)))
  | .str i, .str j => .ok (.bool (decide (i.cps.toList ≤ j.cps.toList)))
  | _, _ => .no
/-- < of data that are alike -/
def scN : PyData → Bool
  | .none => true
  | _ => false
def cmpD (f : PyData → PyData → Bool) (a b : PyData) : Res PyData := if W.alike a b = true ∧ scN a = false ∧ a.depth ≤ 60 ∧ a.hasDict = false ∧ b.hasDict = false then .ok (.bool (f a b)) else .no
def rCmpD (K : PySem.W.Frag) (f : PyData → PyData → Bool) : R2 := fun x y H Q => ∃ d e, L2.Dp K H x d ∧ L2.Dp K H y e ∧ W.alike d e = true ∧ d ≠ .none ∧ d.depth ≤ 60 ∧ Q (.bl (f d e)) H
theorem op_ltD (hu : X.A.units + 64 < cLine) : OpR X (compareOp .Lt) (rCmpD X.K W.dataLt) := by
  intro pins s σ H x y v u Q I rx ry h
  obtain ⟨d, e, hd, he, al, nn, dp, q⟩ := h
  obtain ⟨as, r1⟩ := Dp.reads I d x v hd rx
  obtain ⟨bs, r2⟩ := Dp.reads I e y u he ry
  exact W.lt_data r1 r2 al nn (by omega) ⟨.bl _, H, I, rfl, q⟩
theorem op_gtD (hu : X.A.units + 64 < cLine) : OpR X (compareOp .Gt) (rCmpD X.K fun a b => W.dataLt b a) := by
  intro pins s σ H x y v u Q I rx ry h
  obtain ⟨d, e, hd, he, al, nn, dp, q⟩ := h
  obtain ⟨as, r1⟩ := Dp.reads I d x v hd rx
  obtain ⟨bs, r2⟩ := Dp.reads I e y u he ry
  exact W.gt_data r1 r2 al nn (by omega) ⟨.bl _, H, I, rfl, q⟩
theorem op_leD (hu : X.A.units + 64 < cLine) : OpR X (compareOp .LtE) (rCmpD X.K fun a b => !W.dataLt b a) := by
  intro pins s σ H x y v u Q I rx ry h
  obtain ⟨d, e, hd, he, al, nn, dp, q⟩ := h
  obtain ⟨as, r1⟩ := Dp.reads I d x v hd rx
  obtain ⟨bs, r2⟩ := Dp.reads I e y u he ry
  exact W.le_data r1 r2 al nn (by omega) ⟨.bl _, H, I, rfl, q⟩
theorem op_geD (hu : X.A.units + 64 < cLine) : OpR X (compareOp .GtE) (rCmpD X.K fun a b => !W.dataLt a b) := by
  intro pins s σ H x y v u Q I rx ry h
  obtain ⟨d, e, hd, he, al, nn, dp, q⟩ := h
  obtain ⟨as, r1⟩ := Dp.reads I d x v hd rx
  obtain ⟨bs, r2⟩ := Dp.reads I e y u he ry
  exact W.ge_data r1 r2 al nn (by omega) ⟨.bl _, H, I, rfl, q⟩
def rCmpA (K : PySem.W.Frag) (f : PyData → PyData → Bool) (g : Int → Int → V) : R2 := fun x y H Q => rCmpD K f x y H Q ∨ rI0 g x y H Q
theorem op_ltA (hu : X.A.units + 64 < cLine) : OpR X (compareOp .Lt) (rCmpA X.K W.dataLt fun i j => .bl (decide (i < j))) := (op_ltD hu).or op_lt
theorem op_gtA (hu : X.A.units + 64 < cLine) : OpR X (compareOp .Gt) (rCmpA X.K (fun a b => W.dataLt b a) fun i j => .bl (decide (j < i))) := (op_gtD hu).or op_gt
theorem op_leA (hu : X.A.units + 64 < cLine) : OpR X (compareOp .LtE) (rCmpA X.K (fun a b => !W.dataLt b a) fun i j => .bl (decide (i ≤ j))) := (op_leD hu).or op_le
theorem op_geA (hu : X.A.units + 64 < cLine) : OpR X (compareOp .GtE) (rCmpA X.K (fun a b => !W.dataLt a b) fun i j => .bl (decide (j ≤ i))) := (op_geD hu).or op_ge
def cmpA (f : PyData → PyData → Bool) (g : Int → Int → Bool) : PyData → PyData → Res PyData
  | .int i, .int j => .ok (.bool (g i j))
  | a, b => cmpD f a b
theorem opv_cmpA {f : PyData → PyData → Bool} {g : Int → Int → Bool} : OpV K mg (rCmpA K f fun i j => .bl (g i j)) (cmpA f g) := fun {ρ Fr F δ σ H x y a b c} r dx dy e {Q} q => by
  unfold cmpA at e
  split at e
  · rename_i i j
    cases e; cases dx; cases dy
    exact .inr ⟨i, j, rfl, rfl, q F _ H (Same.refl _) r (.bl _)⟩
  · unfold cmpD at e
    split at e
    · rename_i h
      cases e
      exact .inl ⟨a, b, dp_old _ _ (dx.up r.sub) h.2.2.2.1, dp_old _ _ (dy.up r.sub) h.2.2.2.2, h.1, fun z => by rw [z] at h; exact absurd h.2.1 (by decide), h.2.2.1, q F _ H (Same.refl _) r (.bl _)⟩
    · cases e
def fLtI : PyData → PyData → Res PyData := cmpA W.dataLt fun i j => decide (i < j)
def fLeI : PyData → PyData → Res PyData := cmpA (fun a b => !W.dataLt b a) fun i j => decide (i ≤ j)
def fGtI : PyData → PyData → Res PyData := cmpA (fun a b => W.dataLt b a) fun i j => decide (j < i)
def fGeI : PyData → PyData → Res PyData := cmpA (fun a b => !W.dataLt a b) fun i j => decide (j ≤ i)
/-- is None, is True, is False -/
def fIsN : PyData → PyData → Res PyData
  | a, .none => .ok (.bool (match a with | .none => true | _ => false))
  | .bool a, .bool b => .ok (.bool (a == b))
  | _, _ => .no
def fNotN : PyData → PyData → Res PyData
  | a, .none => .ok (.bool (match a with | .none => false | _ => true))
  | .bool a, .bool b => .ok (.bool (!(a == b)))
  | _, _ => .no
def rIsA (neg : Bool) : R2 := fun x y H Q => (y = .non ∧ Q (.bl (if neg then !decide (x = .non) else decide (x = .non))) H) ∨ ∃ a b, x = .bl a ∧ y = .bl b ∧ Q (.bl (if neg then !(a == b) else a == b)) H
theorem bool_beq (a b : Bool) : (Value.bool a == Value.bool b) = (a == b) := by cases a <;> cases b <;> rfl
theorem op_isN : OpR X (compareOp .Is) (rIsA false) := by
  intro pins s σ H x y v u Q I rx ry h
  rcases h with ⟨rfl, q⟩ | ⟨a, b, rfl, rfl, q⟩
  · exact L2.op_isN pins s σ H x .non v u Q I rx ry ⟨rfl, q⟩
  · cases (show v = Value.bool a from rx)
    cases (show u = Value.bool b from ry)
    exact wpAny_is_plain rfl (fin_bl I q (bool_beq a b).symm)
theorem op_notN : OpR X (compareOp .IsNot) (rIsA true) := by
  intro pins s σ H x y v u Q I rx ry h
  rcases h with ⟨rfl, q⟩ | ⟨a, b, rfl, rfl, q⟩
  · exact L2.op_notN pins s σ H x .non v u Q I rx ry ⟨rfl, q⟩
  · cases (show v = Value.bool a from rx)
    cases (show u = Value.bool b from ry)
    exact wpAny_isNot_plain rfl (fin_bl I q (congrArg not (bool_beq a b).symm))
theorem opv_isN : OpV K mg (rIsA false) fIsN := fun {ρ Fr F δ σ H x y a b c} r dx dy e {Q} q => by
  unfold fIsN at e
  split at e
  · rename_i a'
    cases e; cases dy
    refine .inl ⟨rfl, q F _ H (Same.refl _) r ?_⟩
    cases dx <;> exact .bl _
  · cases e; cases dx; cases dy
    exact .inr ⟨_, _, rfl, rfl, q F _ H (Same.refl _) r (.bl _)⟩
  · cases e
theorem opv_notN : OpV K mg (rIsA true) fNotN := fun {ρ Fr F δ σ H x y a b c} r dx dy e {Q} q => by
  unfold fNotN at e
  split at e
  · rename_i a'
    cases e; cases dy
    refine .inl ⟨rfl, q F _ H (Same.refl _) r ?_⟩
    cases dx <;> exact .bl _
  · cases e; cases dx; cases dy
    exact .inr ⟨_, _, rfl, rfl, q F _ H (Same.refl _) r (.bl _)⟩
  · cases e
/-- {} -/
theorem re_dict0 {pos : Pos} : RE X (.Dict [] [] pos) tDNewK (mC (.dict [])) := ⟨pe_dnewK, fun {ρ Fr F δ σ H d δ'} r e {Q} q => by
  cases e
  exact fun p hp => q _ _ _ (same_upd (r.fF hp)) (r.frz hp) (.dct upd_same)⟩
/-- x in a list or tuple of flat things -/
def flatD : PyData → Bool
  | .none | .bool _ | .int _ | .str _ => true
  | _ => false
def inD (x : PyData) (xs : List PyData) : Bool := xs.any fun y => PyData.eqv y x
def fIn (neg : Bool) : PyData → PyData → Res PyData
  | x, .list xs => if flatD x = true ∧ xs.all flatD = true then .ok (.bool (if neg then !inD x xs else inD x xs)) else .no
  | x, .tuple xs => if flatD x = true ∧ xs.all flatD = true then .ok (.bool (if neg then !inD x xs else inD x xs)) else .no
  | _, _ => .no
theorem flat_of {F : Hp} {v : V} {d : PyData} (h : Dp K F v d) (f : flatD d = true) : flatV v = true := by
  cases h <;> first | rfl | cases f
theorem flats_of {F : Hp} : ∀ {vs : List V} {ds : List PyData}, DpAll K F vs ds → ds.all flatD = true → vs.all flatV = true
  | _, [], h, _ => by cases h; rfl
  | _, d :: ds, h, f => by
    cases h with
    | cons h1 h2 =>
      rw [List.all_cons, Bool.and_eq_true] at f ⊢
      exact ⟨flat_of h1 f.1, flats_of h2 f.2⟩
theorem eqv_flat {F : Hp} {v u : V} {d e : PyData} (h : Dp K F v d) (h' : Dp K F u e) (f : flatD d = true) (f' : flatD e = true) : eqV v u = PyData.eqv d e := by
  cases h <;> first | cases f | skip
  all_goals (cases h' <;> first | cases f' | skip)
  all_goals first | rfl | (simp only [eqV, PyData.eqv]; done) | (simp [eqV, PyData.eqv]; done)
theorem inV_of {F : Hp} {u : V} {e : PyData} (h' : Dp K F u e) (f' : flatD e = true) : ∀ {vs : List V} {ds : List PyData}, DpAll K F vs ds → ds.all flatD = true → inV u vs = inD e ds
  | _, [], h, _ => by cases h; rfl
  | _, d :: ds, h, f => by
    cases h with
    | cons h1 h2 =>
      rw [List.all_cons, Bool.and_eq_true] at f
      have ih := inV_of h' f' h2 f.2
      unfold inV inD at ih ⊢
      rw [List.any_cons, List.any_cons, ih, eqv_flat h1 h' f.1 f']
theorem opv_in (neg : Bool) : OpV K mg (rIn K neg) (fIn neg) := fun {ρ Fr F δ σ H x y a b c} r dx dy e {Q} q => by
  unfold fIn at e
  split at e
  · split at e
    · rename_i xs hf
      cases e
      cases dy with
      | lst h1 d1 =>
        refine ⟨_, _, rfl, .inl (sqL_mono r.sub h1), flat_of dx hf.1, flats_of d1 hf.2, ?_⟩
        rw [inV_of dx hf.1 d1 hf.2]
        exact q F _ H (Same.refl _) r (.bl _)
    · cases e
  · split at e
    · rename_i xs hf
      cases e
      cases dy with
      | tup h1 d1 =>
        refine ⟨_, _, rfl, .inr (sqT_mono r.sub h1), flat_of dx hf.1, flats_of d1 hf.2, ?_⟩
        rw [inV_of dx hf.1 d1 hf.2]
        exact q F _ H (Same.refl _) r (.bl _)
    · cases e
  · cases e
theorem re_cmp {op : CmpOp} {r : R2} {f} {a b : Expr} {ta tb : TE} {ma mb : ME} {pos : Pos} (ho : OpR X (compareOp op) r) (hv : OpV X.K X.mg r f) (ha : RE X a ta ma) (hb : RE X b tb mb) (hm : behindInMarks op b = false) : RE X (.Compare a [op] [b] pos) (tOp r ta tb) (mOp f ma mb) :=
  ⟨pe_cmpR ho ha.pe hb.pe hm, sn_op hv ha.sn hb.sn⟩

/-! tests -/
def mT (m : ME) : MT := fun δ => match m δ with
  | .ok (.bool b, δ1) => .ok (b, δ1)
  | .err c d => .err c d
  | _ => .no
theorem sn_test {t : TE} {m : ME} (h : SndE K mg t m) : SndT K mg (tTest t) (mT m) := fun {ρ Fr F δ σ H d δ'} r e {Q} q => by
  unfold mT at e
  split at e
  · rename_i b δ1 e1
    cases e
    exact h r e1 fun F1 v H1 s1 r1 d1 => by cases d1; exact ⟨_, rfl, q F1 H1 s1 r1⟩
  · cases e
  · cases e
theorem sn_tB {t : TE} {m : ME} (h : SndE K mg t m) : SndT K mg (tB t) (mT m) := fun {ρ Fr F δ σ H d δ'} r e {Q} q => by
  unfold mT at e
  split at e
  · rename_i b δ1 e1
    cases e
    exact h r e1 fun F1 v H1 s1 r1 d1 => by cases d1; exact ⟨_, rfl, q F1 H1 s1 r1⟩
  · cases e
  · cases e
theorem rt_cmp {op : CmpOp} {r : R2} {f} {a b : Expr} {ta tb : TE} {ma mb : ME} {pos : Pos} (ho : OpR X (compareOp op) r) (hv : OpV X.K X.mg r f) (ha : RE X a ta ma) (hb : RE X b tb mb) (hm : behindInMarks op b = false) : RT X (.Compare a [op] [b] pos) (tTest (tOp r ta tb)) (mT (mOp f ma mb)) :=
  ⟨pt_cmpR ho ha.pe hb.pe hm, sn_test (sn_op hv ha.sn hb.sn)⟩
theorem rt_val {e : Expr} {t : TE} {m : ME} (h : RE X e t m) (he : ∀ whole, isTrue e X.env whole = (do let v ← whole; standAt e.pos; holding [v] (truthy v)) := by intro _; rfl) : RT X e (tB t) (mT m) := ⟨pt_val h.pe he, sn_tB h.sn⟩
def mAndT (a b : MT) : MT := fun δ => match a δ with
  | .ok (true, δ1) => b δ1
  | .ok (false, δ1) => .ok (false, δ1)
  | .err c d => .err c d
  | .no => .no
def mOrT (a b : MT) : MT := fun δ => match a δ with
  | .ok (true, δ1) => .ok (true, δ1)
  | .ok (false, δ1) => b δ1
  | .err c d => .err c d
  | .no => .no
def mNotT (a : MT) : MT := fun δ => match a δ with
  | .ok (b, δ1) => .ok (!b, δ1)
  | .err c d => .err c d
  | .no => .no
theorem sn_and {t u : TT} {a b : MT} (ha : SndT K mg t a) (hb : SndT K mg u b) : SndT K mg (tAnd t u) (mAndT a b) := fun {ρ Fr F δ σ H d δ'} r e {Q} q => by
  unfold mAndT at e
  split at e
  · rename_i δ1 e1
    exact ha r e1 fun F1 H1 s1 r1 => iteT (hb r1 e fun F2 H2 s2 r2 => q F2 H2 (s1.trans s2) r2)
  · rename_i δ1 e1
    cases e
    exact ha r e1 fun F1 H1 s1 r1 => iteF (q F1 H1 s1 r1)
  · cases e
  · cases e
theorem sn_or {t u : TT} {a b : MT} (ha : SndT K mg t a) (hb : SndT K mg u b) : SndT K mg (tOr t u) (mOrT a b) := fun {ρ Fr F δ σ H d δ'} r e {Q} q => by
  unfold mOrT at e
  split at e
  · rename_i δ1 e1
    cases e
    exact ha r e1 fun F1 H1 s1 r1 => iteT (q F1 H1 s1 r1)
  · rename_i δ1 e1
    exact ha r e1 fun F1 H1 s1 r1 => iteF (hb r1 e fun F2 H2 s2 r2 => q F2 H2 (s1.trans s2) r2)
  · cases e
  · cases e
theorem sn_not {t : TT} {a : MT} (ha : SndT K mg t a) : SndT K mg (tNot t) (mNotT a) := fun {ρ Fr F δ σ H d δ'} r e {Q} q => by
  unfold mNotT at e
  split at e
  · rename_i b δ1 e1
    cases e
    exact ha r e1 fun F1 H1 s1 r1 => q F1 H1 s1 r1
  · cases e
  · cases e
section
variable {a b : Expr} {rest : List Expr} {t u : TT} {ma mb : MT} {pos : Pos}
theorem rw_and1 (ha : RT X a t ma) : RW X (.BoolOp .And [a] pos) t ma := ⟨pw_and1 ha.pt, ha.sn⟩
theorem rw_or1 (ha : RT X a t ma) : RW X (.BoolOp .Or [a] pos) t ma := ⟨pw_or1 ha.pt, ha.sn⟩
theorem rw_and (ha : RT X a t ma) (hb : RW X (.BoolOp .And (b :: rest) pos) u mb) : RW X (.BoolOp .And (a :: b :: rest) pos) (tAnd t u) (mAndT ma mb) := ⟨pw_and ha.pt hb.pw, sn_and ha.sn hb.sn⟩
theorem rw_or (ha : RT X a t ma) (hb : RW X (.BoolOp .Or (b :: rest) pos) u mb) : RW X (.BoolOp .Or (a :: b :: rest) pos) (tOr t u) (mOrT ma mb) := ⟨pw_or ha.pt hb.pw, sn_or ha.sn hb.sn⟩
theorem RW.rt {e : Expr} (h : RW X e t ma) : RT X e t ma := ⟨h.pw.pt, h.sn⟩
theorem rt_not (ha : RT X a t ma) : RT X (.UnaryOp .Not a pos) (tNot t) (mNotT ma) := ⟨pt_not ha.pt, sn_not ha.sn⟩
end
/-! and, or, not of truth values as values -/
def mAndV (a b : ME) : ME := fun δ => match a δ with
  | .ok (.bool true, δ1) => b δ1
  | .ok (.bool false, δ1) => .ok (.bool false, δ1)
  | .err c d => .err c d
  | _ => .no
def mOrV (a b : ME) : ME := fun δ => match a δ with
  | .ok (.bool true, δ1) => .ok (.bool true, δ1)
  | .ok (.bool false, δ1) => b δ1
  | .err c d => .err c d
  | _ => .no
def mNotV (a : ME) : ME := fun δ => match a δ with
  | .ok (.bool b, δ1) => .ok (.bool !b, δ1)
  | .err c d => .err c d
  | _ => .no
theorem sn_andV {t u : TE} {a b : ME} (ha : SndE K mg t a) (hb : SndE K mg u b) : SndE K mg (tAndV t u) (mAndV a b) := fun {ρ Fr F δ σ H d δ'} r e {Q} q => by
  unfold mAndV at e
  split at e
  · rename_i δ1 e1
    exact ha r e1 fun F1 v H1 s1 r1 d1 => by cases d1; exact ⟨true, rfl, iteT (hb r1 e fun F2 v2 H2 s2 r2 => q F2 v2 H2 (s1.trans s2) r2)⟩
  · rename_i δ1 e1
    cases e
    exact ha r e1 fun F1 v H1 s1 r1 d1 => by cases d1; exact ⟨false, rfl, iteF (q F1 _ H1 s1 r1 (.bl _))⟩
  · cases e
  · cases e
theorem sn_orV {t u : TE} {a b : ME} (ha : SndE K mg t a) (hb : SndE K mg u b) : SndE K mg (tOrV t u) (mOrV a b) := fun {ρ Fr F δ σ H d δ'} r e {Q} q => by
  unfold mOrV at e
  split at e
  · rename_i δ1 e1
    cases e
    exact ha r e1 fun F1 v H1 s1 r1 d1 => by cases d1; exact ⟨true, rfl, iteT (q F1 _ H1 s1 r1 (.bl _))⟩
  · rename_i δ1 e1
    exact ha r e1 fun F1 v H1 s1 r1 d1 => by cases d1; exact ⟨false, rfl, iteF (hb r1 e fun F2 v2 H2 s2 r2 => q F2 v2 H2 (s1.trans s2) r2)⟩
  · cases e
  · cases e
theorem sn_notV {t : TE} {a : ME} (ha : SndE K mg t a) : SndE K mg (tNotV t) (mNotV a) := fun {ρ Fr F δ σ H d δ'} r e {Q} q => by
  unfold mNotV at e
  split at e
  · rename_i b δ1 e1
    cases e
    exact ha r e1 fun F1 v H1 s1 r1 d1 => by cases d1; exact ⟨b, rfl, q F1 _ H1 s1 r1 (.bl _)⟩
  · cases e
  · cases e
section
variable {a b : Expr} {rest : List Expr} {t u : TE} {ma mb : ME} {pos : Pos}
theorem re_one {op} (ha : RE X a t ma) : RE X (.BoolOp op [a] pos) t ma := ⟨pe_one ha.pe, ha.sn⟩
theorem re_and (ha : RE X a t ma) (hb : RE X (.BoolOp .And (b :: rest) pos) u mb) : RE X (.BoolOp .And (a :: b :: rest) pos) (tAndV t u) (mAndV ma mb) := ⟨pe_and ha.pe hb.pe, sn_andV ha.sn hb.sn⟩
theorem re_or (ha : RE X a t ma) (hb : RE X (.BoolOp .Or (b :: rest) pos) u mb) : RE X (.BoolOp .Or (a :: b :: rest) pos) (tOrV t u) (mOrV ma mb) := ⟨pe_or ha.pe hb.pe, sn_orV ha.sn hb.sn⟩
theorem re_not (ha : RE X a t ma) : RE X (.UnaryOp .Not a pos) (tNotV t) (mNotV ma) := ⟨pe_not ha.pe, sn_notV ha.sn⟩
end
/-! a if c else b -/
def mIf (c : MT) (a b : ME) : ME := fun δ => match c δ with
  | .ok (true, δ1) => a δ1
  | .ok (false, δ1) => b δ1
  | .err c d => .err c d
  | .no => .no
theorem sn_if {c : TT} {t u : TE} {mc : MT} {a b : ME} (hc : SndT K mg c mc) (ha : SndE K mg t a) (hb : SndE K mg u b) : SndE K mg (tIf c t u) (mIf mc a b) := fun {ρ Fr F δ σ H d δ'} r e {Q} q => by
  unfold mIf at e
  split at e
  · rename_i δ1 e1
    exact hc r e1 fun F1 H1 s1 r1 => iteT (ha r1 e fun F2 v2 H2 s2 r2 => q F2 v2 H2 (s1.trans s2) r2)
  · rename_i δ1 e1
    exact hc r e1 fun F1 H1 s1 r1 => iteF (hb r1 e fun F2 v2 H2 s2 r2 => q F2 v2 H2 (s1.trans s2) r2)
  · cases e
  · cases e
theorem re_if {c a b : Expr} {tc : TT} {t u : TE} {mc : MT} {ma mb : ME} {pos : Pos} (hc : RT X c tc mc) (ha : RE X a t ma) (hb : RE X b u mb) : RE X (.IfExp c a b pos) (tIf tc t u) (mIf mc ma mb) := ⟨pe_ifExp hc.pt ha.pe hb.pe, sn_if hc.sn ha.sn hb.sn⟩

/-! argument lists, displays -/
def mNil : MA := fun δ => .ok ([], δ)
def mCons (a : ME) (as : MA) : MA := fun δ => match a δ with
  | .ok (x, δ1) => (match as δ1 with
    | .ok (xs, δ2) => .ok (x :: xs, δ2)
    | .err c d => .err c d
    | .no => .no)
  | .err c d => .err c d
  | .no => .no
theorem sn_nil : SndA K mg tNil mNil := fun {ρ Fr F δ σ H d δ'} r e {Q} q => by
  cases e
  exact q F [] H (Same.refl _) r .nil
theorem sn_cons {t : TE} {u : TA} {a : ME} {as : MA} (ha : SndE K mg t a) (hs : SndA K mg u as) : SndA K mg (tCons t u) (mCons a as) := fun {ρ Fr F δ σ H d δ'} r e {Q} q => by
  unfold mCons at e
  split at e
  · rename_i x δ1 e1
    split at e
    · rename_i xs δ2 e2
      cases e
      exact ha r e1 fun F1 v H1 s1 r1 d1 => hs r1 e2 fun F2 vs H2 s2 r2 d2 => q F2 (v :: vs) H2 (s1.trans s2) r2 (.cons (d1.up s2) d2)
    · cases e
    · cases e
  · cases e
  · cases e
theorem ra_nil : RA X [] tNil mNil := ⟨pa_nil, sn_nil⟩
theorem ra_cons {e : Expr} {es : List Expr} {t : TE} {u : TA} {a : ME} {as : MA} (ha : RE X e t a) (hs : RA X es u as) (hq : starEach (e :: es) X.env = (false, eval e X.env) :: starEach es X.env := by rfl) : RA X (e :: es) (tCons t u) (mCons a as) :=
  ⟨pa_cons ha.pe hs.pa hq, sn_cons ha.sn hs.sn⟩
/-- a tuple; a new list -/
def mTup (as : MA) : ME := fun δ => match as δ with
  | .ok (xs, δ1) => if xs.length ≤ 100000 then .ok (.tuple xs, δ1) else .no
  | .err c d => .err c d
  | .no => .no
def mLst (as : MA) : MN := fun δ => match as δ with
  | .ok (xs, δ1) => if xs.length ≤ 100000 then .ok (.own xs, δ1) else .no
  | .err c d => .err c d
  | .no => .no
theorem lim_sz {n : Nat} (h : n ≤ 100000) : n ≤ sizeLine := Nat.le_trans h (by decide)
theorem sn_tup {u : TA} {as : MA} (hs : SndA K mg u as) : SndE K mg (tTup u) (mTup as) := fun {ρ Fr F δ σ H d δ'} r e {Q} q => by
  unfold mTup at e
  split at e
  · rename_i xs δ1 e1
    split at e
    · rename_i hz
      cases e
      refine hs r e1 fun F1 vs H1 s1 r1 d1 => ⟨by rw [dpa_len d1]; exact lim_sz hz, fun p hp => ?_⟩
      have s2 := same_upd (o := .tup vs) (r1.fF hp)
      exact q _ _ _ (s1.trans s2) (r1.frz hp) (.tup (SqT.of upd_same) (d1.up s2))
    · cases e
  · cases e
  · cases e
theorem sn_lst {u : TA} {as : MA} (hs : SndA K mg u as) : SndN K mg (tLst u) (mLst as) := fun {ρ Fr F δ σ H d δ'} r e {Q} q => by
  unfold mLst at e
  split at e
  · rename_i xs δ1 e1
    split at e
    · rename_i hz
      cases e
      refine hs r e1 fun F1 vs H1 s1 r1 d1 => ⟨by rw [dpa_len d1]; exact lim_sz hz, fun p hp => ?_⟩
      exact q _ _ _ s1 (r1.temp hp d1)
    · cases e
  · cases e
  · cases e
theorem re_tup {es : List Expr} {u : TA} {as : MA} {x1} {pos : Pos} (h : RA X es u as) : RE X (.Tuple es x1 pos) (tTup u) (mTup as) := ⟨pe_tup h.pa, sn_tup h.sn⟩
theorem rn_lst {es : List Expr} {u : TA} {as : MA} {pos : Pos} (h : RA X es u as) : RN X (.List es pos) (tLst u) (mLst as) := ⟨pe_lst h.pa, sn_lst h.sn⟩
end
end CW

namespace CW
open PySem PySem.Spec PyProof.Rows L2
section
variable {X : Cx} {K : PySem.W.Frag} {mg : Str → Option Value}

/-! a < b < c -/
def mChain (f g : PyData → PyData → Res PyData) (ma mb mc : ME) : ME := fun δ => match ma δ with
  | .ok (x, δ1) => (match mb δ1 with
    | .ok (y, δ2) => (match f x y with
      | .ok (.bool true) => (match mc δ2 with
        | .ok (z, δ3) => (match g y z with
          | .ok w => .ok (w, δ3)
          | .err c d => .err c d
          | .no => .no)
        | .err c d => .err c d
        | .no => .no)
      | .ok (.bool false) => .ok (.bool false, δ2)
      | .err c d => .err c d
      | _ => .no)
    | .err c d => .err c d
    | .no => .no)
  | .err c d => .err c d
  | .no => .no
theorem sn_chain {r r' : R2} {f g} {ta tb tc : TE} {ma mb mc : ME} (ho : OpV K mg r f) (ho' : OpV K mg r' g) (ha : SndE K mg ta ma) (hb : SndE K mg tb mb) (hc : SndE K mg tc mc) : SndE K mg (tChain r r' ta tb tc) (mChain f g ma mb mc) := fun {ρ Fr F δ σ H d δ'} r e {Q} q => by
  unfold mChain at e
  split at e
  · rename_i x δ1 e1
    split at e
    · rename_i y δ2 e2
      split at e
      · rename_i e3
        split at e
        · rename_i z δ3 e4
          split at e
          · rename_i w e5
            cases e
            refine ha r e1 fun F1 v H1 s1 r1 d1 => hb r1 e2 fun F2 u H2 s2 r2 d2 => ho r2 (d1.up s2) d2 e3 fun F3 k H3 s3 r3 d3 => ?_
            cases d3
            refine ⟨true, rfl, iteT ?_⟩
            refine hc r3 e4 fun F4 w4 H4 s4 r4 d4 => ho' r4 (d2.up (s3.trans s4)) d4 e5 fun F5 v5 H5 s5 r5 d5 => q F5 v5 H5 ((((s1.trans s2).trans s3).trans s4).trans s5) r5 d5
          · cases e
          · cases e
        · cases e
        · cases e
      · rename_i e3
        cases e
        refine ha r e1 fun F1 v H1 s1 r1 d1 => hb r1 e2 fun F2 u H2 s2 r2 d2 => ho r2 (d1.up s2) d2 e3 fun F3 k H3 s3 r3 d3 => ?_
        cases d3
        exact ⟨false, rfl, iteF (q F3 _ H3 ((s1.trans s2).trans s3) r3 (.bl _))⟩
      · cases e
      · cases e
    · cases e
    · cases e
  · cases e
  · cases e

/-! e[i] -/
theorem dpa_atI {F : Hp} {vs : List V} {ds : List PyData} {i : Int} {d : PyData} (h : DpAll K F vs ds) (e : atI ds i = some d) : ∃ v, atI vs i = some v ∧ Dp K F v d := by
  unfold atI at e ⊢
  rw [dpa_len h]
  cases q : ixN ds.length i with
  | none => rw [q] at e; cases e
  | some j =>
    rw [q] at e
    obtain ⟨v, e1, e2⟩ := dpa_get h (show ds[j]? = some d from e)
    exact ⟨v, e1, e2⟩
def fIx : PyData → PyData → Res PyData
  | .list xs, .int i => (match atI xs i with
    | some d => .ok d
    | none => .no)
  | .tuple xs, .int i => (match atI xs i with
    | some d => .ok d
    | none => .no)
  | .str z, .int i => if z.length ≤ sizeLine then (match atI z.cps.toList i with
    | some c => .ok (.str ⟨#[c]⟩)
    | none => .no) else .no
  | _, _ => .no
theorem opv_ix : OpV K mg (rIx K) fIx := fun {ρ Fr F δ σ H x y a b c} r dx dy e {Q} q => by
  unfold fIx at e
  split at e
  · split at e
    · rename_i xs i d e1
      cases e
      cases dx with
      | lst h1 d1 =>
        cases dy
        obtain ⟨v, e2, e3⟩ := dpa_atI d1 e1
        exact .inl ⟨_, _, _, v, rfl, rfl, sqL_mono r.sub h1, e2, q F v H (Same.refl _) r e3⟩
    · cases e
  · split at e
    · rename_i xs i d e1
      cases e
      cases dx with
      | tup h1 d1 =>
        cases dy
        obtain ⟨v, e2, e3⟩ := dpa_atI d1 e1
        exact .inr (.inl ⟨_, _, _, v, rfl, rfl, sqT_mono r.sub h1, e2, q F v H (Same.refl _) r e3⟩)
    · cases e
  · split at e
    · rename_i hz
      split at e
      · rename_i e1
        cases e; cases dx; cases dy
        exact .inr (.inr ⟨_, _, _, rfl, rfl, hz, e1, q F _ H (Same.refl _) r (.str _)⟩)
      · cases e
    · cases e
  · cases e
theorem re_ix {a b : Expr} {ta tb : TE} {ma mb : ME} {pos : Pos} (ha : RE X a ta ma) (hb : RE X b tb mb) (hs : PlainIx b := by exact fun _ _ => rfl) : RE X (.Subscript a b pos) (tOp (rIx X.K) ta tb) (mOp fIx ma mb) := ⟨pe_ix ix_seq ha.pe hb.pe hs, sn_op opv_ix ha.sn hb.sn⟩

/-! e[lo:hi] -/
abbrev MO := Ev → Res (Option Int × Ev)
def SndO (K : PySem.W.Frag) (mg : Str → Option Value) (t : TO) (m : MO) : Prop := ∀ {ρ : Nat → Addr} {Fr F : Hp} {δ : Ev} {σ : L2.St} {H : Hp} {d : Option Int} {δ' : Ev}, Rel K mg ρ Fr F δ σ H → m δ = .ok (d, δ') →
  ∀ {Q : Option Int → Hp → Prop}, (∀ F' H', Same F F' → Rel K mg ρ Fr F' δ' σ H' → Q d H') → t σ H Q
structure RO (X : Cx) (e : Option Expr) (t : TO) (m : MO) : Prop where
  po : PO X e t
  sn : SndO X.K X.mg t m
def mNoPart : MO := fun δ => .ok (none, δ)
def mPart (m : ME) : MO := fun δ => match m δ with
  | .ok (.int i, δ1) => .ok (some i, δ1)
  | .err c d => .err c d
  | _ => .no
theorem ro_none : RO X none tNoPart mNoPart := ⟨po_none, fun {ρ Fr F δ σ H d δ'} r e {Q} q => by cases e; exact q F H (Same.refl _) r⟩
theorem ro_some {e : Expr} {t : TE} {m : ME} (h : RE X e t m) : RO X (some e) (tPart t) (mPart m) := ⟨po_some h.pe, fun {ρ Fr F δ σ H d δ'} r e {Q} q => by
  unfold mPart at e
  split at e
  · rename_i i δ1 e1
    cases e
    exact h.sn r e1 fun F1 v H1 s1 r1 d1 => by cases d1; exact ⟨i, rfl, q F1 H1 s1 r1⟩
  · cases e
  · cases e⟩
def cutD {α : Type} (xs : List α) (lo hi : Option Int) : List α := (xs.drop (HT.sIx xs.length 0 lo)).take (HT.sIx xs.length xs.length hi - HT.sIx xs.length 0 lo)
def fSl : PyData → Option Int → Option Int → Res Sl
  | .list xs, lo, hi => .ok (.own (cutD xs lo hi))
  | .tuple xs, lo, hi => .ok (.val (.tuple (cutD xs lo hi)))
  | .str z, lo, hi => if z.length ≤ sizeLine then .ok (.val (.str (cutS z lo hi))) else .no
  | _, _, _ => .no
def rSlAll (K : PySem.W.Frag) : V → Option Int → Option Int → Hp → VK → Prop := fun x lo hi H Q => rSlL K x lo hi H Q ∨ (rSlA K x lo hi H Q ∨ rSlS x lo hi H Q)
theorem sl_all : SlR X (rSlAll X.K) := sl_list.or (sl_tupA.or sl_str)
theorem dpa_cut {F : Hp} {vs : List V} {ds : List PyData} {lo hi : Option Int} (h : DpAll K F vs ds) : DpAll K F (cutV vs lo hi) (cutD ds lo hi) := by
  unfold cutV cutD
  rw [dpa_len h]
  exact dpa_take _ (dpa_drop _ h)
def mSlice (ma : ME) (ml mh : MO) : MN := fun δ => match ma δ with
  | .ok (x, δ1) => (match ml δ1 with
    | .ok (lo, δ2) => (match mh δ2 with
      | .ok (hi, δ3) => (match fSl x lo hi with
        | .ok s => .ok (s, δ3)
        | .err c d => .err c d
        | .no => .no)
      | .err c d => .err c d
      | .no => .no)
    | .err c d => .err c d
    | .no => .no)
  | .err c d => .err c d
  | .no => .no
theorem sn_slice {ta : TE} {tl th : TO} {ma : ME} {ml mh : MO} (ha : SndE K mg ta ma) (hl : SndO K mg tl ml) (hh : SndO K mg th mh) : SndN K mg (tSl (rSlAll K) ta tl th) (mSlice ma ml mh) := fun {ρ Fr F δ σ H d δ'} r e {Q} q => by
  unfold mSlice at e
  split at e
  · rename_i x δ1 e1
    split at e
    · rename_i lo δ2 e2
      split at e
      · rename_i hi δ3 e3
        split at e
        · rename_i s e4
          cases e
          refine ha r e1 fun F1 v H1 s1 r1 d1 => hl r1 e2 fun F2 H2 s2 r2 => hh r2 e3 fun F3 H3 s3 r3 => ?_
          have d3 := d1.up (s2.trans s3)
          have s13 := (s1.trans s2).trans s3
          unfold fSl at e4
          split at e4
          · cases e4
            cases d3 with
            | lst h1 da =>
              refine .inl ⟨_, _, rfl, sqL_mono r3.sub h1, fun p hp => ?_⟩
              exact q _ _ _ s13 (r3.temp hp (dpa_cut da))
          · cases e4
            cases d3 with
            | tup h1 da =>
              refine .inr (.inl ⟨_, _, rfl, sqT_mono r3.sub h1, fun hw => ?_, fun hw p hp => ?_⟩)
              · refine q _ _ _ s13 (r3.tval (.tup h1 ?_))
                have hc := dpa_cut (lo := lo) (hi := hi) da
                unfold cutV at hc
                rw [hw.1, hw.2] at hc
                simpa using hc
              · exact q _ _ _ (s13.trans (same_upd (r3.fF hp))) ((r3.frz hp).tval (.tup (SqT.of upd_same) ((dpa_cut da).up (same_upd (r3.fF hp)))))
          · split at e4
            · rename_i hz
              cases e4; cases d3
              exact .inr (.inr ⟨_, rfl, hz, q _ _ _ s13 (r3.tval (.str _))⟩)
            · cases e4
          · cases e4
        · cases e
        · cases e
      · cases e
      · cases e
    · cases e
    · cases e
  · cases e
  · cases e
theorem rn_slice {e : Expr} {lo hi : Option Expr} {ta : TE} {tl th : TO} {ma : ME} {ml mh : MO} {p2 pos : Pos} (ha : RE X e ta ma) (hl : RO X lo tl ml) (hh : RO X hi th mh) : RN X (.Subscript e (.Slice lo hi none p2) pos) (tSl (rSlAll X.K) ta tl th) (mSlice ma ml mh) :=
  ⟨pe_slice sl_all ha.pe hl.po hh.po, sn_slice ha.sn hl.sn hh.sn⟩

/-! built-ins by their names -/
def CallN (K : PySem.W.Frag) (mg : Str → Option Value) (r : List V → Hp → VK → Prop) (f : List PyData → Res Sl) : Prop := ∀ {ρ : Nat → Addr} {Fr F : Hp} {δ : Ev} {σ : L2.St} {H : Hp} {vs : List V} {ds : List PyData} {s : Sl}, Rel K mg ρ Fr F δ σ H → DpAll K F vs ds → f ds = .ok s →
  ∀ {Q : VK}, (∀ F' v H', Same F F' → Rel K mg ρ Fr F' (s :: δ) (some v :: σ) H' → Q v H') → r vs H Q
def mCall (f : List PyData → Res Sl) (as : MA) : MN := fun δ => match as δ with
  | .ok (ds, δ1) => (match f ds with
    | .ok s => .ok (s, δ1)
    | .err c d => .err c d
    | .no => .no)
  | .err c d => .err c d
  | .no => .no
theorem sn_call {r : List V → Hp → VK → Prop} {f} {t : TA} {as : MA} (hc : CallN K mg r f) (ha : SndA K mg t as) : SndN K mg (tCB r t) (mCall f as) := fun {ρ Fr F δ σ H d δ'} r e {Q} q => by
  unfold mCall at e
  split at e
  · rename_i ds δ1 e1
    split at e
    · rename_i s e2
      cases e
      exact ha r e1 fun F1 vs H1 s1 r1 d1 => hc r1 d1 e2 fun F2 v H2 s2 r2 => q F2 v H2 (s1.trans s2) r2
    · cases e
    · cases e
  · cases e
  · cases e
section
variable {x : Str} {p pos : Pos} {e : Expr} {es : List Expr} {t : TA} {as : MA} {id T : String} {r : List V → Hp → VK → Prop} {f : List PyData → Res Sl}
theorem rn_callB (hc : CallR X (.builtin id) r) (hn : CallN X.K X.mg r f) (hg : Gl X x) (hm : X.mg x = none) (hv : bootBuiltins x = some (.builtin id)) (ha : RA X (e :: es) t as) (h1 : x ≠ "__name__" := by decide) (h2 : (x == ("__debug__" : Str)) = false := by decide)
    (h3 : starEach (e :: es) X.env = (false, eval e X.env) :: starEach es X.env := by rfl) (h4 : (backTo pos (starEach es X.env)).any (·.1) = false := by rfl) : RN X (.Call (.Name x p) (e :: es) [] pos) (tCB r t) (mCall f as) :=
  ⟨pe_callB hc hg hm hv ha.pa h1 h2 h3 h4, sn_call hn ha.sn⟩
theorem rn_callTy (hc : CallR X (.type T) r) (hn : CallN X.K X.mg r f) (hg : Gl X x) (hm : X.mg x = none) (hv : bootBuiltins x = some (.type T)) (ha : RA X (e :: es) t as) (h1 : x ≠ "__name__" := by decide) (h2 : (x == ("__debug__" : Str)) = false := by decide)
    (h3 : starEach (e :: es) X.env = (false, eval e X.env) :: starEach es X.env := by rfl) (h4 : (backTo pos (starEach es X.env)).any (·.1) = false := by rfl) : RN X (.Call (.Name x p) (e :: es) [] pos) (tCB r t) (mCall f as) :=
  ⟨pe_callTy hc hg hm hv ha.pa h1 h2 h3 h4, sn_call hn ha.sn⟩
end
end
end CW

namespace CW
open PySem PySem.Spec PyProof.Rows L2

section
variable {prog : Program} {w : World} {A : Around} {E : Value → Shared → Prop} {s : Shared}
variable {it : Addr} {fp : List Addr} {n i : Nat} {P : Nat → Value → Prop} {St : Nat → Heap → Prop}
/-- a draw that may end, with an item -/
theorem nextOrEnd_some (D : Draws prog w A it fp n P St) {Q : Option Value → Shared → Prop} (hi : i < n) (st : St i s.heap)
    (k : ∀ x h' tk, P i x → St (i + 1) h' → Heap.SameBut it s.heap h' → Q (some x) { s with heap := h', toks := tk }) : wpAny (model prog w) A (Builtin.SmallTypes.nextOrEnd (.ref it)) Q E s := by
  unfold Builtin.SmallTypes.nextOrEnd
  exact wpAny_bind (wpAny_attempt (D.item i _ _ _ hi st fun x h' tk p1 p2 p3 => wpAny_pure (k x h' tk p1 p2 p3)))
/-- .. at its end -/
theorem nextOrEnd_none (D : Draws prog w A it fp n P St) {Q : Option Value → Shared → Prop} (st : St n s.heap)
    (k : ∀ h', Heap.ExtBut it s.heap h' → Q none { s with heap := h' }) : wpAny (model prog w) A (Builtin.SmallTypes.nextOrEnd (.ref it)) Q E s := by
  unfold Builtin.SmallTypes.nextOrEnd
  refine wpAny_bind (wpAny_attempt (D.done _ _ _ st fun h' e hk he => ?_))
  obtain ⟨o, ho, hc⟩ := he
  refine wpAny_bind (wpAny_isInstance (T := "StopIteration") (b := true) ⟨o, ho, hc⟩ isSubtype_stop ?_)
  exact wpAny_pure (k h' hk)
/-- the end of an iterator is thrown -/
theorem stop_run {α : Type} {Q : α → Shared → Prop} (hh : A.handled = none) (k : ∀ h' e, (∀ b o, s.heap.get? b = some o → h'.get? b = some o) → (∃ o, h'.get? e = some o ∧ o.cls = .type "StopIteration") → E (.ref e) { s with heap := h' }) :
    wpAny (model prog w) A (Builtin.SmallTypes.stopIteration : Sem α) Q E s := by
  unfold Builtin.SmallTypes.stopIteration
  refine wpAny_bind ?_
  simp only [newExc, newTuple]
  refine wpAny_bind (wpAny_newObj_type ?_ (by size_fits))
  refine wpAny_bind (m := firstArgMember _ _) (wpAny_of_eq (a := Value.none) (by first | rfl | (simp only [firstArgMember]; rfl)) ?_)
  refine wpAny_newObj_type ?_ (by size_fits)
  simp only [raiseNew]
  refine wpAny_bind (wpAny_handled ?_)
  first | rw [show A.in1.handled = none from hh] | rw [hh]
  refine wpAny_bind (wpAny_pure (wpAny_throw ?_))
  exact k _ _ (fun b o q => Heap.get?_push_of_some _ (Heap.get?_push_of_some _ q)) ⟨_, Heap.get?_push_size _ rfl, rfl⟩
end

theorem wp_skip {α : Type} {M : Model} {A : Around} {E : Value → Shared → Prop} {s : Shared} {t e : Sem α} {Q : α → Shared → Prop} (h : wpAny M A e Q E s) : wpAny M A (if (0 : Nat) > 0 then t else e) Q E s := by
  rw [if_neg (by decide)]; exact h
/-- a zip with strict=True -/
abbrev ZipS (h : Heap) (z TI TO : Addr) (f0 : Value) : Prop :=
  h.get? z = some { cls := .type "zip", dict := none, data := .fields #[f0, .bool false, .bool true, .ref TI, .ref TO], slots := #[] }
section
variable {prog : Program} {w : World} {A : Around} {E : Value → Shared → Prop} {s : Shared} {z TI TO i1 i2 : Addr} {fp1 fp2 : List Addr} {n i : Nat} {P1 P2 : Nat → Value → Prop} {St1 St2 : Nat → Heap → Prop} {a1 a2 : Value}
theorem zipS_some {Q : Value → Shared → Prop} (S : ZipSep2 z TI TO i1 i2 fp1 fp2) (D1 : Draws prog w A i1 fp1 n P1 St1) (D2 : Draws prog w A i2 fp2 n P2 St2)
    (hz : ZipS s.heap z TI TO .none) (hTI : IsTupOf2 s.heap TI (.ref i1) (.ref i2)) (hTO : IsTupOf2 s.heap TO a1 a2) (st1 : St1 i s.heap) (st2 : St2 i s.heap) (hlt : i < n)
    (k : ∀ x1 x2 h' tk, P1 i x1 → P2 i x2 → ZipS h' z TI TO (rawInt s.heap.objs.size) → IsTupOf2 h' TO x1 x2 → St1 (i + 1) h' → St2 (i + 1) h' → IsTupOf2 h' s.heap.objs.size x1 x2 → h'.objs.size = s.heap.objs.size + 1 →
      (∀ c o, c ≠ z → c ≠ TO → c ≠ i1 → c ≠ i2 → s.heap.get? c = some o → h'.get? c = some o) → Q (.ref s.heap.objs.size) { s with heap := h', toks := tk }) :
    wpAny (model prog w) A (Builtin.«zip.__next__» ⟨[.ref z], []⟩) (fun fin s' => ∃ v, fin = .done (.ret v) ∧ Q v s') E s := by
  obtain ⟨h0, gs, dr, tk0, os⟩ := s
  show wpAny _ _ (field (.ref z) 2 >>= _) _ _ _
  refine wpAny_bind (wpAny_field hz rfl (x := .bool true) rfl ?_)
  show wpAny _ _ (field (.ref z) 3 >>= _) _ _ _
  refine wpAny_bind (wpAny_field hz rfl (x := .ref TI) rfl ?_)
  refine wpAny_bind (wpAny_seqItems hTI rfl ?_)
  show wpAny _ _ (Builtin.SmallTypes.ownedTupleIsFree (.ref z) >>= _) _ _ _
  refine wpAny_bind ?_
  unfold Builtin.SmallTypes.ownedTupleIsFree
  refine wpAny_bind (wpAny_field hz rfl (x := .none) rfl (wpAny_pure ?_))
  simp only [if_true]
  refine wpAny_bind (wpAny_rule ?_)
  refine wpAny_bind (wpAny_field hz rfl (x := .ref TO) rfl ?_)
  refine wpAny_bind (wpAny_setField_rec hz (by simp) fun g0 hz0 b0 => ?_)
  replace hz0 : ZipS g0 z TI TO .ellipsis := hz0
  replace b0 : Heap.SameBut z h0 g0 := b0
  refine wpAny_bind ?_
  simp only [List.zipIdx_cons, List.zipIdx_nil, List.forIn_cons, List.forIn_nil]
  refine wpAny_bind (wpAny_bind (wpAny_onRaise ?_))
  show wpAny _ _ (Builtin.SmallTypes.nextOrEnd (.ref i1)) _ _ ⟨g0, gs, dr, tk0, os⟩
  refine nextOrEnd_some D1 hlt (D1.over st1 b0 S.zf1) fun x1 p1 tk1 hx1 sn1 c1 => ?_
  replace c1 : Heap.SameBut i1 g0 p1 := c1
  have u1 : IsTupOf2 p1 TO a1 a2 := c1.extBut _ _ S.Ti1 (b0.extBut _ _ S.TOz hTO)
  refine wpAny_bind (wpAny_seqItems (s := ⟨p1, gs, dr, tk1, os⟩) u1 rfl ?_)
  refine wpAny_bind (updateSeq_IsTupOf2 (s := ⟨p1, gs, dr, tk1, os⟩) u1 fun g1 t1 b1 => ?_)
  replace t1 : IsTupOf2 g1 TO x1 a2 := t1
  replace b1 : Heap.SameBut TO p1 g1 := b1
  refine wpAny_bind (wpAny_letGo (wpAny_pure ?_))
  refine wpAny_bind (wpAny_bind (wpAny_onRaise ?_))
  show wpAny _ _ (Builtin.SmallTypes.nextOrEnd (.ref i2)) _ _ ⟨g1, gs, dr, tk1, os⟩
  refine nextOrEnd_some D2 hlt (D2.over (D2.over (D2.over st2 b0 S.zf2) c1 S.sep1_2) b1 S.Tf2) fun x2 p2 tk2 hx2 sn2 c2 => ?_
  replace c2 : Heap.SameBut i2 g1 p2 := c2
  have u2 : IsTupOf2 p2 TO x1 a2 := c2.extBut _ _ S.Ti2 t1
  refine wpAny_bind (wpAny_seqItems (s := ⟨p2, gs, dr, tk2, os⟩) u2 rfl ?_)
  refine wpAny_bind (updateSeq_IsTupOf2 (s := ⟨p2, gs, dr, tk2, os⟩) u2 fun g2 t2 b2 => ?_)
  replace t2 : IsTupOf2 g2 TO x1 x2 := t2
  replace b2 : Heap.SameBut TO p2 g2 := b2
  refine wpAny_bind (wpAny_letGo (wpAny_pure (wpAny_pure ?_)))
  refine wpAny_bind (wpAny_seqItems (s := ⟨g2, gs, dr, tk2, os⟩) t2 rfl ?_)
  refine wpAny_bind (wpAny_newTuple ?_)
  have sz : g2.objs.size = h0.objs.size := by rw [b2.1, c2.1, b1.1, c1.1, b0.1]
  have zz : ZipS g2 z TI TO .ellipsis := b2.extBut _ _ S.TOz.symm (c2.extBut _ _ S.zi2 (b1.extBut _ _ S.TOz.symm (c1.extBut _ _ S.zi1 hz0)))
  have kk : ∀ c o, c ≠ z → c ≠ TO → c ≠ i1 → c ≠ i2 → h0.get? c = some o → g2.get? c = some o := fun c o q1 q2 q3 q4 e =>
    b2.extBut _ _ q2 (c2.extBut _ _ q4 (b1.extBut _ _ q2 (c1.extBut _ _ q3 (b0.extBut _ _ q1 e))))
  have j1 : St1 (i + 1) g2 := D1.over (D1.over (D1.over sn1 b1 S.Tf1) c2 S.sep2_1) b2 S.Tf1
  have j2 : St2 (i + 1) g2 := D2.over sn2 b2 S.Tf2
  have zl : z < g2.objs.size := Heap.lt_size zz
  show wpAny _ _ (Builtin.SmallTypes.ownedTupleHandOut (.ref z) (.ref g2.objs.size) >>= _) _ _ ⟨g2.push { cls := .type "tuple", data := .seq #[x1, x2] }, gs, dr, tk2, os⟩
  refine wpAny_bind ?_
  unfold Builtin.SmallTypes.ownedTupleHandOut
  have z6 : ZipS (g2.push { cls := .type "tuple", data := .seq #[x1, x2] }) z TI TO .ellipsis := Heap.get?_push_of_some _ zz
  refine wpAny_bind (wpAny_setField_rec z6 (by simp) fun h7 z7 s7 => ?_)
  replace z7 : ZipS h7 z TI TO (rawInt g2.objs.size) := z7
  refine wpAny_setField_rec z7 (by simp) fun h8 z8 s8 => ?_
  replace z8 : ZipS h8 z TI TO (rawInt g2.objs.size) := z8
  replace s7 : Heap.SameBut z (g2.push { cls := .type "tuple", data := .seq #[x1, x2] }) h7 := s7
  replace s8 : Heap.SameBut z h7 h8 := s8
  have up : ∀ c o, c ≠ z → g2.get? c = some o → h8.get? c = some o := fun c o q1 e => s8.extBut _ _ q1 (s7.extBut _ _ q1 (Heap.get?_push_of_some _ e))
  have t8 : IsTupOf2 h8 g2.objs.size x1 x2 := s8.extBut _ _ (Nat.ne_of_gt zl) (s7.extBut _ _ (Nat.ne_of_gt zl) (Heap.get?_push_size _ rfl))
  have n8 : h8.objs.size = g2.objs.size + 1 := by rw [s8.1, s7.1, Heap.size_push]
  rw [sz] at z8 t8 n8
  refine wpAny_pure ⟨_, rfl, ?_⟩
  show Q (.ref g2.objs.size) ⟨h8, gs, dr, tk2, os⟩
  rw [sz]
  exact k x1 x2 h8 tk2 hx1 hx2 z8 (up _ _ S.TOz t2) (D1.frame _ _ _ j1 fun b hb o e => up b o (fun q => S.zf1 (q ▸ hb)) e) (D2.frame _ _ _ j2 fun b hb o e => up b o (fun q => S.zf2 (q ▸ hb)) e) t8 n8 fun c o q1 q2 q3 q4 e => up c o q1 (kk c o q1 q2 q3 q4 e)
theorem zipS_none {Q : Fin → Shared → Prop} (hh : A.handled = none) (S : ZipSep2 z TI TO i1 i2 fp1 fp2) (D1 : Draws prog w A i1 fp1 n P1 St1) (D2 : Draws prog w A i2 fp2 n P2 St2)
    (hz : ZipS s.heap z TI TO .none) (hTI : IsTupOf2 s.heap TI (.ref i1) (.ref i2)) (hTO : IsTupOf2 s.heap TO a1 a2) (st1 : St1 n s.heap) (st2 : St2 n s.heap)
    (k : ∀ h' tk e, (∀ c o, c ≠ z → c ≠ TO → c ≠ i1 → c ≠ i2 → s.heap.get? c = some o → h'.get? c = some o) → (∃ o, h'.get? e = some o ∧ o.cls = .type "StopIteration") → E (.ref e) { s with heap := h', toks := tk }) :
    wpAny (model prog w) A (Builtin.«zip.__next__» ⟨[.ref z], []⟩) Q E s := by
  obtain ⟨h0, gs, dr, tk0, os⟩ := s
  show wpAny _ _ (field (.ref z) 2 >>= _) _ _ _
  refine wpAny_bind (wpAny_field hz rfl (x := .bool true) rfl ?_)
  show wpAny _ _ (field (.ref z) 3 >>= _) _ _ _
  refine wpAny_bind (wpAny_field hz rfl (x := .ref TI) rfl ?_)
  refine wpAny_bind (wpAny_seqItems hTI rfl ?_)
  show wpAny _ _ (Builtin.SmallTypes.ownedTupleIsFree (.ref z) >>= _) _ _ _
  refine wpAny_bind ?_
  unfold Builtin.SmallTypes.ownedTupleIsFree
  refine wpAny_bind (wpAny_field hz rfl (x := .none) rfl (wpAny_pure ?_))
  simp only [if_true]
  refine wpAny_bind (wpAny_rule ?_)
  refine wpAny_bind (wpAny_field hz rfl (x := .ref TO) rfl ?_)
  refine wpAny_bind (wpAny_setField_rec hz (by simp) fun g0 hz0 b0 => ?_)
  replace hz0 : ZipS g0 z TI TO .ellipsis := hz0
  replace b0 : Heap.SameBut z h0 g0 := b0
  refine wpAny_bind ?_
  simp only [List.zipIdx_cons, List.zipIdx_nil, List.forIn_cons, List.forIn_nil]
  refine wpAny_bind (wpAny_bind (wpAny_onRaise ?_))
  show wpAny _ _ (Builtin.SmallTypes.nextOrEnd (.ref i1)) _ _ ⟨g0, gs, dr, tk0, os⟩
  refine nextOrEnd_none D1 (D1.over st1 b0 S.zf1) fun q hq => ?_
  replace hq : Heap.ExtBut i1 g0 q := hq
  have zq : ZipS q z TI TO .ellipsis := hq _ _ S.zi1 hz0
  refine wpAny_bind (wpAny_setField_rec (s := ⟨q, gs, dr, tk0, os⟩) zq (by simp) fun q1 zq1 c1 => ?_)
  replace c1 : Heap.SameBut z q q1 := c1
  refine wpAny_bind ?_
  refine wp_skip (t := Builtin.SmallTypes.stopIteration) ?_
  rw [if_neg (by decide)]
  simp only [List.drop_succ_cons, List.drop_zero, List.zipIdx_cons, List.zipIdx_nil, List.forIn_cons, List.forIn_nil]
  refine wpAny_bind (wpAny_bind (wpAny_bind (nextOrEnd_none (s := ⟨q1, gs, dr, tk0, os⟩) D2 (D2.over (D2.frame _ _ _ (D2.over st2 b0 S.zf2) fun b hb o e => hq b o (fun q' => S.sep1_2 (q' ▸ hb)) e) c1 S.zf2) fun q2 hq2 => ?_)))
  replace hq2 : Heap.ExtBut i2 q1 q2 := hq2
  simp only [Option.isSome_none, Bool.false_eq_true, if_false]
  refine wpAny_pure (wpAny_pure (wpAny_bind (wpAny_rule ?_)))
  refine stop_run (s := ⟨q2, gs, dr, tk0, os⟩) hh fun h' e hk he => ?_
  refine k h' tk0 e (fun c o d1 d2 d3 d4 x => ?_) he
  exact hk _ _ (hq2 _ _ d4 (c1.extBut _ _ d1 (hq _ _ d3 (b0.extBut _ _ d1 x))))
theorem pyNext_zipS_some {Q : Option Value → Shared → Prop} (S : ZipSep2 z TI TO i1 i2 fp1 fp2) (D1 : Draws prog w A.in1 i1 fp1 n P1 St1) (D2 : Draws prog w A.in1 i2 fp2 n P2 St2)
    (hz : ZipS s.heap z TI TO .none) (hTI : IsTupOf2 s.heap TI (.ref i1) (.ref i2)) (hTO : IsTupOf2 s.heap TO a1 a2) (st1 : St1 i s.heap) (st2 : St2 i s.heap) (hlt : i < n)
    (k : ∀ x1 x2 h' tk, P1 i x1 → P2 i x2 → ZipS h' z TI TO (rawInt s.heap.objs.size) → IsTupOf2 h' TO x1 x2 → St1 (i + 1) h' → St2 (i + 1) h' → IsTupOf2 h' s.heap.objs.size x1 x2 → h'.objs.size = s.heap.objs.size + 1 →
      (∀ c o, c ≠ z → c ≠ TO → c ≠ i1 → c ≠ i2 → s.heap.get? c = some o → h'.get? c = some o) → Q (some (.ref s.heap.objs.size)) { s with heap := h', toks := tk }) :
    wpAny (model prog w) A (pyNext (.ref z)) Q E s := by
  have ty : s.TypeIs (.ref z) "zip" := ⟨_, hz, rfl⟩
  unfold pyNext
  refine wpAny_bind (wpAny_attempt (wpAny_callSpecial?_slot (name := Str.ofString "__next__") ty F.slot_zip_next ?_))
  exact wpAny_call_entry F.slot_zip_next ty F.entry_zip_next (zipS_some S D1 D2 hz hTI hTO st1 st2 hlt fun x1 x2 h' tk y1 y2 b1 b2 d1 d2 b5 b6 b7 => wpAny_pure (k x1 x2 h' tk y1 y2 b1 b2 d1 d2 b5 b6 b7)) (F.args_zip_next_1 _)
theorem pyNext_zipS_none {Q : Option Value → Shared → Prop} (hh : A.handled = none) (S : ZipSep2 z TI TO i1 i2 fp1 fp2) (D1 : Draws prog w A.in1 i1 fp1 n P1 St1) (D2 : Draws prog w A.in1 i2 fp2 n P2 St2)
    (hz : ZipS s.heap z TI TO .none) (hTI : IsTupOf2 s.heap TI (.ref i1) (.ref i2)) (hTO : IsTupOf2 s.heap TO a1 a2) (st1 : St1 n s.heap) (st2 : St2 n s.heap)
    (k : ∀ h' tk, (∀ c o, c ≠ z → c ≠ TO → c ≠ i1 → c ≠ i2 → s.heap.get? c = some o → h'.get? c = some o) → Q none { s with heap := h', toks := tk }) : wpAny (model prog w) A (pyNext (.ref z)) Q E s := by
  have ty : s.TypeIs (.ref z) "zip" := ⟨_, hz, rfl⟩
  unfold pyNext
  refine wpAny_bind (wpAny_attempt (wpAny_callSpecial?_slot (name := Str.ofString "__next__") ty F.slot_zip_next ?_))
  refine wpAny_call_entry F.slot_zip_next ty F.entry_zip_next (zipS_none (A := A.in1) hh S D1 D2 hz hTI hTO st1 st2 fun h' tk e hk he => ?_) (F.args_zip_next_1 _)
  obtain ⟨o, ho, hc⟩ := he
  refine wpAny_bind (wpAny_isInstance (T := "StopIteration") (b := true) ⟨o, ho, hc⟩ isSubtype_stop ?_)
  exact wpAny_pure (k _ _ hk)
/-- the flag lies in the object alone -/
theorem letGo_zipS {elts : List Expr} {x1 : Nat} {pos : Pos} {T : Addr} {Q : Unit → Shared → Prop} (hz : ZipS s.heap z TI TO (rawInt T))
    (k : ∀ h', ZipS h' z TI TO .none → Heap.SameBut z s.heap h' → Q () { s with heap := h' }) :
    wpAny (model prog w) A (letOwnedTupleGo (.Tuple elts x1 pos) (.ref z) (.ref T)) Q E s := by
  unfold letOwnedTupleGo
  refine wpAny_bind (wpAny_load hz ?_)
  show wpAny _ _ (if (["enumerate", "zip", "dict_itemiterator", "dict_reverseitemiterator", "odict_iterator", "itertools.zip_longest", "itertools.pairwise"].contains "zip" && (#[rawInt T, .bool false, .bool true, .ref TI, .ref TO] : Array Value)[0]? == some (rawInt T)) = true then _ else _) Q E s
  rw [if_pos (by simp)]
  refine wpAny_bind (wpAny_rule ?_)
  show wpAny _ _ (setField (.ref z) 0 .none) Q E s
  exact wpAny_setField_rec hz (by simp) fun h' z' s' => k h' z' s'
theorem pyIter_zipS {f0 : Value} {Q : Value → Shared → Prop} (hz : ZipS s.heap z TI TO f0) (h : Q (.ref z) s) : wpAny (model prog w) A (pyIter (.ref z)) Q E s := by
  have ty : s.TypeIs (.ref z) "zip" := ⟨_, hz, rfl⟩
  refine wpAny_pyIter_slot ty F.slot_zip_iter (wpAny_call_entry F.slot_zip_iter ty F.entry_zip_iter ?_ (F.args_zip_iter_1 _))
  show wpAny _ _ (ret (.ref z)) _ _ s
  exact wpAny_pure ⟨_, rfl, "zip", _, ty, F.slot_zip_next.lookup, h⟩
end

/-! zip(v1, v2, strict=True) begins -/
abbrev zsH (h : Heap) (o1 o2 : Obj) : Heap := (gzO2 h o1 o2).push { cls := .type "zip", data := .fields #[.none, .bool false, .bool true, .ref ((h.push o1).push o2).objs.size, .ref (gzT2 h o1 o2).objs.size] }
theorem typeCall_zipS (a b : Value) : checkTypeCall "zip" ⟨[a, b], [(Str.ofString "strict", .bool true)]⟩ = pure () := by kernel_rfl
theorem newCall_zipS (a b : Value) : checkBuiltinCall "zip.__new__" ⟨[.type "zip", a, b], [(Str.ofString "strict", .bool true)]⟩ = pure () := by kernel_rfl
theorem init_zipS (obj a b : Value) : argsOk "object.__init__" ⟨[obj, a, b], [(Str.ofString "strict", .bool true)]⟩ := by unfold argsOk; kernel_rfl
theorem meets_zipS {v1 v2 : Value} {o1 o2 : Obj} {H1 H2 : Heap → Prop} (B1 : Begins v1 o1 H1) (B2 : Begins v2 o2 H2) :
    Meets (Builtin.«zip.__new__» ⟨[.type "zip", v1, v2], [(Str.ofString "strict", .bool true)]⟩) (fun _ R s => (H1 s.heap ∧ H2 s.heap) ∧
      R (.ok (.ret (.ref (gzO2 s.heap o1 o2).objs.size))) { s with heap := zsH s.heap o1 o2 }) :=
  .of_wp fun prog w A R s h => by
    obtain ⟨hp, g, d, tk, os⟩ := s; obtain ⟨⟨h1, h2⟩, h⟩ := h
    have hsub := sub_zip
    have r1 : ∀ {A' : Around} {E : Value → Shared → Prop} {Q : Value → Shared → Prop}, Q (.ref hp.objs.size) ⟨(hp.push o1), g, d, tk, os⟩ → wpAny (model prog w) A' (pyIter v1) Q E ⟨hp, g, d, tk, os⟩ :=
      fun q => B1.iter prog w _ _ ⟨hp, g, d, tk, os⟩ _ (B1.keeps _ _ h1 fun b o' e => e) q
    have r2 : ∀ {A' : Around} {E : Value → Shared → Prop} {Q : Value → Shared → Prop}, Q (.ref (hp.push o1).objs.size) ⟨((hp.push o1).push o2), g, d, tk, os⟩ → wpAny (model prog w) A' (pyIter v2) Q E ⟨(hp.push o1), g, d, tk, os⟩ :=
      fun q => B2.iter prog w _ _ ⟨(hp.push o1), g, d, tk, os⟩ _ (B2.keeps _ _ h2 fun b o' e => (Heap.get?_push_of_some _ e)) q
    wp_walk using r1, r2
    exact ⟨_, rfl, h⟩
section
variable {prog : Program} {w : World} {A : Around} {E : Value → Shared → Prop} {s : Shared}
theorem zipS_begins {v1 v2 : Value} {o1 o2 : Obj} {H1 H2 : Heap → Prop} {Q : Value → Shared → Prop} (B1 : Begins v1 o1 H1) (B2 : Begins v2 o2 H2) (h1 : H1 s.heap) (h2 : H2 s.heap)
    (h : ∀ h', ZipS h' (s.heap.objs.size + 4) (s.heap.objs.size + 2) (s.heap.objs.size + 3) .none → IsTupOf2 h' (s.heap.objs.size + 2) (.ref s.heap.objs.size) (.ref (s.heap.objs.size + 1)) →
      IsTupOf2 h' (s.heap.objs.size + 3) .none .none → h'.get? s.heap.objs.size = some o1 → h'.get? (s.heap.objs.size + 1) = some o2 → h'.objs.size = s.heap.objs.size + 5 →
      (∀ c o, s.heap.get? c = some o → h'.get? c = some o) → Q (.ref (s.heap.objs.size + 4)) { s with heap := h' }) :
    wpAny (model prog w) A (call (.type "zip") [v1, v2] [(Str.ofString "strict", .bool true)]) Q E s := by
  refine callType_newKw F.called_zip (by decide) (typeCall_zipS _ _) (newCall_zipS _ _) (fun obj => init_zipS obj _ _) F.entry_zip_new (meets_zipS B1 B2) ⟨⟨h1, h2⟩, ?_⟩
  have e1 : (s.heap.push o1).objs.size = s.heap.objs.size + 1 := by rw [Heap.size_push]
  have e2 : ((s.heap.push o1).push o2).objs.size = s.heap.objs.size + 2 := by rw [Heap.size_push, e1]
  have e3 : (gzT2 s.heap o1 o2).objs.size = s.heap.objs.size + 3 := by rw [Heap.size_push, e2]
  have e4 : (gzO2 s.heap o1 o2).objs.size = s.heap.objs.size + 4 := by rw [Heap.size_push, e3]
  have e5 : (zsH s.heap o1 o2).objs.size = s.heap.objs.size + 5 := by rw [Heap.size_push, e4]
  have gZ : (zsH s.heap o1 o2).get? (gzO2 s.heap o1 o2).objs.size = some { cls := .type "zip", data := .fields #[.none, .bool false, .bool true, .ref ((s.heap.push o1).push o2).objs.size, .ref (gzT2 s.heap o1 o2).objs.size] } := Heap.get?_push_size _ rfl
  have gO : (zsH s.heap o1 o2).get? (gzT2 s.heap o1 o2).objs.size = some { cls := .type "tuple", data := .seq #[.none, .none] } := Heap.get?_push_of_some _ (Heap.get?_push_size _ rfl)
  have gT : (zsH s.heap o1 o2).get? ((s.heap.push o1).push o2).objs.size = some { cls := .type "tuple", data := .seq #[.ref s.heap.objs.size, .ref (s.heap.push o1).objs.size] } := Heap.get?_push_of_some _ (Heap.get?_push_of_some _ (Heap.get?_push_size _ rfl))
  have g1 : (zsH s.heap o1 o2).get? s.heap.objs.size = some o1 := Heap.get?_push_of_some _ (Heap.get?_push_of_some _ (Heap.get?_push_of_some _ (Heap.get?_push_of_some _ (Heap.get?_push_size _ B1.free))))
  have g2 : (zsH s.heap o1 o2).get? (s.heap.push o1).objs.size = some o2 := Heap.get?_push_of_some _ (Heap.get?_push_of_some _ (Heap.get?_push_of_some _ (Heap.get?_push_size _ B2.free)))
  rw [e4, e3, e2] at gZ
  rw [e3] at gO
  rw [e2, e1] at gT
  rw [e1] at g2
  show _ ∧ _
  rw [e4]
  exact ⟨⟨_, gZ, rfl⟩, h _ gZ gT gO g1 g2 e5 fun c o e => Heap.get?_push_of_some _ (Heap.get?_push_of_some _ (Heap.get?_push_of_some _ (Heap.get?_push_of_some _ (Heap.get?_push_of_some _ e))))⟩
end
end CW

namespace CW
open PySem PySem.Spec PyProof.Rows L2

/-! a list (true) or a tuple (false) that is read -/
def SqS (K : PySem.W.Frag) (H : Hp) (k : Bool) (a : Addr) (xs : List V) : Prop := match k with
  | true => SqL K H a xs
  | false => SqT K H a xs
def ItAt (h : Heap) (k : Bool) (it a : Addr) (i : Nat) : Prop := match k with
  | true => h.IsListIter it a i
  | false => h.IsTupleIter it a i
def SeqA (h : Heap) (k : Bool) (a : Addr) (its : Array Value) : Prop := match k with
  | true => h.IsList a its
  | false => h.IsTuple a its
def itObj (k : Bool) (a : Addr) : Obj := match k with
  | true => { cls := .type "list_iterator", data := .fields #[.ref a, .int 0 0] }
  | false => { cls := .type "tuple_iterator", data := .fields #[.ref a, .int 0 0] }
theorem ItAt.keep {h h' : Heap} {k : Bool} {it a : Addr} {i : Nat} (x : ItAt h k it a i) (e : ∀ o, h.get? it = some o → h'.get? it = some o) : ItAt h' k it a i := by
  cases k with
  | true => exact Heap.IsListIter.at (show h.IsListIter it a i from x) e
  | false => exact Heap.IsTupleIter.at (show h.IsTupleIter it a i from x) e
theorem ItAt.obj {h : Heap} {k : Bool} {it a : Addr} {i : Nat} (x : ItAt h k it a i) : ∃ o, h.get? it = some o ∧ ∀ v, o.data ≠ .cell v := by
  cases k with
  | true => obtain ⟨o, e, _, d⟩ := (show h.IsListIter it a i from x); exact ⟨o, e, fun v q => by rw [d] at q; cases q⟩
  | false => obtain ⟨o, e, _, d⟩ := (show h.IsTupleIter it a i from x); exact ⟨o, e, fun v q => by rw [d] at q; cases q⟩
theorem ItAt.start {h : Heap} {k : Bool} {it a : Addr} (e : h.get? it = some (itObj k a)) : ItAt h k it a 0 := by
  cases k with
  | true => exact ⟨_, e, rfl, rfl⟩
  | false => exact ⟨_, e, rfl, rfl⟩
theorem draws_seq {prog : Program} {w : World} {A : Around} (hh : A.handled = none) (k : Bool) (it a : Addr) (hne : a ≠ it) (its : Array Value) :
    Draws prog w A it [it, a] its.size (fun i v => its[i]? = some v) (fun i h => ItAt h k it a i ∧ SeqA h k a its) := by
  cases k with
  | true => exact Draws.list hh it a hne its
  | false => exact Draws.tuple hh it a hne its
theorem begins_seq (k : Bool) (a : Addr) (its : Array Value) : Begins (.ref a) (itObj k a) fun h => SeqA h k a its := by
  cases k with
  | true => exact begins_list a its
  | false => exact begins_tuple a its
section
variable {X : Cx} {pins : List (Addr × Obj)} {σ : L2.St} {H : Hp} {s : Shared} {a : Addr} {xs ys : List V} {k : Bool}
theorem inv_seq (I : Inv X pins σ H s) (h : SqS X.K H k a xs) : ∃ its : List Value, Vals xs its ∧ SeqA s.heap k a its.toArray := by
  cases k with
  | true => obtain ⟨its, r, p, _⟩ := I.list (show SqL X.K H a xs from h); exact ⟨its, r, p.isList⟩
  | false => obtain ⟨its, r, p, _⟩ := I.tuple (show SqT X.K H a xs from h); exact ⟨its, r, p⟩
theorem inv_seq_inj (I : Inv X pins σ H s) (h : SqS X.K H k a xs) (h' : SqS X.K H k a ys) : xs = ys := by
  cases k with
  | true => exact I.list_inj h h'
  | false => exact I.tuple_inj h h'
theorem seq_there {h : Heap} {its : Array Value} (x : SeqA h k a its) : ∃ o, h.get? a = some o := by
  cases k with
  | true => obtain ⟨o, e, _⟩ := (show h.IsList a its from x); exact ⟨o, e⟩
  | false => obtain ⟨o, e, _⟩ := (show h.IsTuple a its from x); exact ⟨o, e⟩
end

/-- records at ch have turned -/
theorem inv_turned {X : Cx} {pins : List (Addr × Obj)} {σ : L2.St} {H : Hp} {s : Shared} {h' : Heap} {tk : Nat} {ch : List Addr} (I : Inv X pins σ H s) (hf : ∀ b ∈ ch, FpOk X pins H b) (kp : ∀ b o, b ∉ ch → s.heap.get? b = some o → h'.get? b = some o) :
    Inv X pins σ H { s with heap := h', toks := tk } := by
  refine I.step (g' := s.gens) (d' := s.drawn) (t' := tk) (ch := ch) (fun b hb => ⟨(hf b hb).2.2.2.1, (hf b hb).2.1, (hf b hb).2.2.2.2.1, (hf b hb).2.2.2.2.2⟩) (fun b o _ _ hc e _ => kp b o hc e) (fun b o _ _ hc e _ => ⟨o.slots, kp b o hc e⟩)
    (fun _ _ _ _ n => n) (fun b o hc e => ⟨o, kp b o hc e⟩) (fun _ _ q => q) (fun _ _ _ q => q) (fun _ ps q => ⟨#[], by rw [q]; simp⟩) (fun m hm => ?_) (fun b u q => ?_) I.bare
  · obtain ⟨o, es, ep, ho, r⟩ := hm
    exact ⟨o, es, ep, kp _ o (fun z => (hf _ z).2.1 rfl) ho, r⟩
  · have nc : ∀ c w, H c = some w → c ∉ ch := fun c w q z => by rw [(hf c z).1] at q; cases q
    refine (I.hok b u q).stay (fun c v hc q2 => kp c v ?_ q2) (fun _ q => q) fun _ _ q => q
    rcases hc with z | z
    · rw [z]; exact nc b u q
    · exact nc c _ z
/-! enumerate -/
def ItEn (K : PySem.W.Frag) (k : Bool) (a : Addr) : It :=
  ⟨fun i H => ∃ (xs : List V) (x : V), SqS K H k a xs ∧ xs[i]? = some x,
    fun i H v H' => ∃ T x, v = .ref T ∧ H T = none ∧ H' = upd H T (.tup [.int (i : Nat), x]) ∧ ∀ xs, SqS K H k a xs → xs[i]? = some x,
    fun i H => ∃ xs : List V, SqS K H k a xs ∧ xs.length = i⟩
theorem turn_en {P : Program} {w : World} {K : PySem.W.Frag} {elts : List Expr} {kk : Nat} {tpos : Pos} {k : Bool} {a e it : Addr} (hei : e ≠ it) (hea : e ≠ a) (hia : a ≠ it) :
    Turn P w K (.Tuple elts kk tpos) (ItEn K k a) [e, it] e (fun i h => (∃ old, IsEnum h e it ((0 : Int) + (i : Int)) old) ∧ ItAt h k it a i) where
  mem := by simp
  obj := fun i h st b hb => by
    obtain ⟨⟨old, he⟩, hi⟩ := st
    have q : b = e ∨ b = it := by simpa using hb
    rcases q with z | z
    · rw [z]; exact ⟨_, he, fun v q => nomatch q⟩
    · rw [z]; exact hi.obj
  keep := fun i h h' st c => let ⟨⟨old, he⟩, hi⟩ := st; ⟨⟨old, c e (by simp) _ he⟩, hi.keep fun o q => c it (by simp) o q⟩
  item := by
    intro X hP hw hK hc i pins s σ H E I hf st hg
    subst hP hw hK
    obtain ⟨xs, x, hq, hx⟩ := hg
    obtain ⟨its, rv, sq⟩ := inv_seq I hq
    obtain ⟨u, hu, ru⟩ := rv.get hx
    have hlt : i < its.toArray.size := by
      rcases Nat.lt_or_ge i its.length with z | z
      · simpa using z
      · rw [List.getElem?_eq_none z] at hu; cases hu
    have W := WalksT.enumFrom (prog := X.prog) (w := X.w) (A := X.A) 0 (draws_seq (A := X.A.in1) (I.ok.hd hc) k it a hia its.toArray) e hei (by simp [hei, hea]) (by simp)
    refine W.item i s _ _ hlt ⟨st.1, st.2, sq⟩ fun T vals h' tk hv hT hTu hm kp => ⟨_, rfl, ?_⟩
    obtain ⟨t, x', hx', rfl⟩ := hv
    have ex : x' = u := by
      rw [List.getElem?_toArray, hu] at hx'
      exact (Option.some.inj hx').symm
    subst ex
    refine W.go elts kk tpos i T { s with heap := h', toks := tk } _ _ hm fun h'' st'' kp2 => ?_
    have hT2 : IsTup h'' T #[.int ((0 : Int) + (i : Int)) t, x'] := Heap.IsTuple.at hTu fun o q => kp2 T o (W.apart i T h' hm) q
    have e0 : ((0 : Int) + (i : Int)) = ((i : Nat) : Int) := by omega
    have new : ObjOk X.prog X.w (upd H T (.tup [.int (i : Nat), x])) h'' T (.tup [.int (i : Nat), x]) :=
      ⟨by show 2 ≤ sizeLine; decide, [.int ((0 : Int) + (i : Int)) t, x'], .cons ⟨t, by rw [e0]⟩ (.cons ru .nil), hT2⟩
    have I1 : Inv X pins σ (upd H T (.tup [.int (i : Nat), x])) { s with heap := h'', toks := tk } :=
      I.turnedNew (ch := [e, it]) (fun b ob hb q => kp2 b ob hb (kp b ob hb q)) hf hT new
    refine ⟨.ref T, _, I1, rfl, ⟨T, x, rfl, I.hok.fresh hT, rfl, fun ys hy => by rw [inv_seq_inj I hy hq]; exact hx⟩, ⟨st''.1, st''.2.1⟩, fun b hb => ?_⟩
    have hb' : b < s.heap.objs.size := by
      obtain ⟨⟨old, he⟩, hi⟩ := st
      have q : b = e ∨ b = it := by simpa using hb
      rcases q with z | z
      · rw [z]; exact Heap.lt_size he
      · rw [z]; obtain ⟨o, q, _⟩ := hi.obj; exact Heap.lt_size q
    rw [upd_ne (Nat.ne_of_lt (Nat.lt_of_lt_of_le hb' hT))]
    exact (hf b hb).1
  done := by
    intro X hP hw hK hc i pins s σ H E I hf st hg
    subst hP hw hK
    obtain ⟨xs, hq, rfl⟩ := hg
    obtain ⟨its, rv, sq⟩ := inv_seq I hq
    have hl : xs.length = its.toArray.size := by simpa using rv.length
    have W := WalksT.enumFrom (prog := X.prog) (w := X.w) (A := X.A) 0 (draws_seq (A := X.A.in1) (I.ok.hd hc) k it a hia its.toArray) e hei (by simp [hei, hea]) (by simp)
    refine W.done s _ _ ⟨by rw [← hl]; exact st.1, by rw [← hl]; exact st.2, sq⟩ fun h' tk kp => ⟨rfl, ?_⟩
    exact inv_turned I hf kp
  self := fun A i s Q E st h => let ⟨⟨_, he⟩, _⟩ := st; wpAny_pyIter_enum he h
/-! zip of two, strict or not -/
def ZpS (b : Bool) (h : Heap) (z TI TO : Addr) (f0 : Value) : Prop := match b with
  | true => ZipS h z TI TO f0
  | false => IsZip h z TI TO f0
def ItZp (K : PySem.W.Frag) (st k1 k2 : Bool) (a b : Addr) : It :=
  ⟨fun i H => ∃ (xs ys : List V) (x y : V), SqS K H k1 a xs ∧ SqS K H k2 b ys ∧ xs[i]? = some x ∧ ys[i]? = some y ∧ (st = true → xs.length = ys.length),
    fun i H v H' => ∃ T x y, v = .ref T ∧ H T = none ∧ H' = upd H T (.tup [x, y]) ∧ (∀ xs, SqS K H k1 a xs → xs[i]? = some x) ∧ ∀ ys, SqS K H k2 b ys → ys[i]? = some y,
    fun i H => ∃ xs ys : List V, SqS K H k1 a xs ∧ SqS K H k2 b ys ∧ i = min xs.length ys.length ∧ (st = true → xs.length = ys.length)⟩
section
variable {prog : Program} {w : World} {A : Around} {E : Value → Shared → Prop} {s : Shared} {z TI TO i1 i2 : Addr} {fp1 fp2 : List Addr} {n1 n2 n i : Nat} {P1 P2 : Nat → Value → Prop} {St1 St2 : Nat → Heap → Prop} {a1 a2 : Value}
theorem zp_some {b : Bool} {Q : Option Value → Shared → Prop} (S : ZipSep2 z TI TO i1 i2 fp1 fp2) (D1 : Draws prog w A.in1 i1 fp1 n1 P1 St1) (D2 : Draws prog w A.in1 i2 fp2 n2 P2 St2) (hb : b = true → n1 = n2)
    (hz : ZpS b s.heap z TI TO .none) (hTI : IsTupOf2 s.heap TI (.ref i1) (.ref i2)) (hTO : IsTupOf2 s.heap TO a1 a2) (st1 : St1 i s.heap) (st2 : St2 i s.heap) (l1 : i < n1) (l2 : i < n2)
    (k : ∀ x1 x2 h' tk, P1 i x1 → P2 i x2 → ZpS b h' z TI TO (rawInt s.heap.objs.size) → IsTupOf2 h' TO x1 x2 → St1 (i + 1) h' → St2 (i + 1) h' → IsTupOf2 h' s.heap.objs.size x1 x2 → h'.objs.size = s.heap.objs.size + 1 →
      (∀ c o, c ≠ z → c ≠ TO → c ≠ i1 → c ≠ i2 → s.heap.get? c = some o → h'.get? c = some o) → Q (some (.ref s.heap.objs.size)) { s with heap := h', toks := tk }) :
    wpAny (model prog w) A (pyNext (.ref z)) Q E s := by
  cases b with
  | true => obtain rfl := hb rfl; exact pyNext_zipS_some S D1 D2 hz hTI hTO st1 st2 l1 k
  | false => exact wpAny_pyNext_zipD2_item S D1 D2 hz hTI hTO st1 st2 l1 l2 k
theorem zp_none {b : Bool} {Q : Option Value → Shared → Prop} (hh : A.handled = none) (S : ZipSep2 z TI TO i1 i2 fp1 fp2) (D1 : Draws prog w A.in1 i1 fp1 n1 P1 St1) (D2 : Draws prog w A.in1 i2 fp2 n2 P2 St2) (hb : b = true → n1 = n2)
    (hz : ZpS b s.heap z TI TO .none) (hTI : IsTupOf2 s.heap TI (.ref i1) (.ref i2)) (hTO : IsTupOf2 s.heap TO a1 a2) (st1 : St1 i s.heap) (st2 : St2 i s.heap) (hi : i = min n1 n2)
    (k : ∀ h' tk, (∀ c o, c ≠ z → c ≠ TO → c ≠ i1 → c ≠ i2 → s.heap.get? c = some o → h'.get? c = some o) → Q none { s with heap := h', toks := tk }) : wpAny (model prog w) A (pyNext (.ref z)) Q E s := by
  cases b with
  | true =>
    obtain rfl := hb rfl
    rw [Nat.min_self] at hi
    subst hi
    exact pyNext_zipS_none hh S D1 D2 hz hTI hTO st1 st2 k
  | false => exact wpAny_pyNext_zipD2_end S D1 D2 hz hTI hTO st1 st2 (by omega) (by omega) (by omega) k
theorem zp_go {b : Bool} {elts : List Expr} {x1 : Nat} {pos : Pos} {T : Addr} {Q : Unit → Shared → Prop} (hz : ZpS b s.heap z TI TO (rawInt T))
    (k : ∀ h', ZpS b h' z TI TO .none → Heap.SameBut z s.heap h' → Q () { s with heap := h' }) : wpAny (model prog w) A (letOwnedTupleGo (.Tuple elts x1 pos) (.ref z) (.ref T)) Q E s := by
  cases b with
  | true => exact letGo_zipS hz k
  | false => exact wpAny_letOwnedTupleGo_zip hz k
theorem zp_iter {b : Bool} {f0 : Value} {Q : Value → Shared → Prop} (hz : ZpS b s.heap z TI TO f0) (h : Q (.ref z) s) : wpAny (model prog w) A (pyIter (.ref z)) Q E s := by
  cases b with
  | true => exact pyIter_zipS hz h
  | false => exact wpAny_pyIter_zip hz h
theorem ZpS.ob {b : Bool} {h : Heap} {f0 : Value} (x : ZpS b h z TI TO f0) : ∃ o, h.get? z = some o ∧ ∀ v, o.data ≠ .cell v := by
  cases b with
  | true => exact ⟨_, x, fun v q => nomatch q⟩
  | false => exact ⟨_, x, fun v q => nomatch q⟩
theorem ZpS.keep {b : Bool} {h h' : Heap} {f0 : Value} (x : ZpS b h z TI TO f0) (e : ∀ o, h.get? z = some o → h'.get? z = some o) : ZpS b h' z TI TO f0 := by
  cases b with
  | true => exact e _ x
  | false => exact e _ x
end
structure ZAp (z TI TO i1 i2 a b : Addr) : Prop where
  sep : ZipSep2 z TI TO i1 i2 [i1, a] [i2, b]
  a1 : a ≠ i1
  b2 : b ≠ i2
theorem turn_zp {P : Program} {w : World} {K : PySem.W.Frag} {elts : List Expr} {kk : Nat} {tpos : Pos} {st k1 k2 : Bool} {a b z TI TO i1 i2 : Addr} (D : ZAp z TI TO i1 i2 a b) :
    Turn P w K (.Tuple elts kk tpos) (ItZp K st k1 k2 a b) [z, TI, TO, i1, i2] z (fun i h => ZpS st h z TI TO .none ∧ IsTupOf2 h TI (.ref i1) (.ref i2) ∧ (∃ x y, IsTupOf2 h TO x y) ∧ ItAt h k1 i1 a i ∧ ItAt h k2 i2 b i) where
  mem := by simp
  obj := fun i h q c hc => by
    obtain ⟨hz, hTI, ⟨x, y, hTO⟩, h1, h2⟩ := q
    have e' : c = z ∨ c = TI ∨ c = TO ∨ c = i1 ∨ c = i2 := by simpa using hc
    rcases e' with q | q | q | q | q
    · rw [q]; exact hz.ob
    · rw [q]; exact ⟨_, hTI, fun v q => nomatch q⟩
    · rw [q]; exact ⟨_, hTO, fun v q => nomatch q⟩
    · rw [q]; exact h1.obj
    · rw [q]; exact h2.obj
  keep := fun i h h' q k => by
    obtain ⟨hz, hTI, ⟨x, y, hTO⟩, h1, h2⟩ := q
    exact ⟨hz.keep fun o e => k z (by simp) o e, k TI (by simp) _ hTI, ⟨x, y, k TO (by simp) _ hTO⟩, h1.keep fun o q => k i1 (by simp) o q, h2.keep fun o q => k i2 (by simp) o q⟩
  item := by
    intro X hP hw hK hc i pins s σ H E I hf q hg
    subst hP hw hK
    obtain ⟨hz, hTI, ⟨x0, y0, hTO⟩, h1, h2⟩ := q
    obtain ⟨xs, ys, x, y, qx, qy, ex, ey, el⟩ := hg
    obtain ⟨its1, r1, p1⟩ := inv_seq I qx
    obtain ⟨its2, r2, p2⟩ := inv_seq I qy
    obtain ⟨u1, g1, ru1⟩ := r1.get ex
    obtain ⟨u2, g2, ru2⟩ := r2.get ey
    have m1 := r1.length
    have m2 := r2.length
    have lt1 : i < its1.toArray.size := by
      rcases Nat.lt_or_ge i its1.length with z | z
      · simpa using z
      · rw [List.getElem?_eq_none z] at g1; cases g1
    have lt2 : i < its2.toArray.size := by
      rcases Nat.lt_or_ge i its2.length with z | z
      · simpa using z
      · rw [List.getElem?_eq_none z] at g2; cases g2
    have dr1 := draws_seq (prog := X.prog) (w := X.w) (A := X.A.in1) (I.ok.hd hc) k1 i1 a D.a1 its1.toArray
    have dr2 := draws_seq (prog := X.prog) (w := X.w) (A := X.A.in1) (I.ok.hd hc) k2 i2 b D.b2 its2.toArray
    obtain ⟨oz, ez, _⟩ := hz.ob
    have zl : z < s.heap.objs.size := Heap.lt_size ez
    refine zp_some D.sep dr1 dr2 (fun e => by have := el e; simp only [List.size_toArray]; omega) hz hTI hTO ⟨h1, p1⟩ ⟨h2, p2⟩ lt1 lt2 fun x1 x2 h' tk v1 v2 z' TO' s1' s2' hT hsz hk => ⟨_, rfl, ?_⟩
    have ev1 : x1 = u1 := by rw [List.getElem?_toArray, g1] at v1; exact (Option.some.inj v1).symm
    have ev2 : x2 = u2 := by rw [List.getElem?_toArray, g2] at v2; exact (Option.some.inj v2).symm
    subst ev1 ev2
    refine zp_go (s := { s with heap := h', toks := tk }) z' fun h'' z'' sb => ?_
    have hT2 : h''.get? s.heap.objs.size = some { cls := .type "tuple", data := .seq #[x1, x2] } := (sb.2 _ (Nat.ne_of_gt zl)).trans hT
    have new : ObjOk X.prog X.w (upd H s.heap.objs.size (.tup [x, y])) h'' s.heap.objs.size (.tup [x, y]) :=
      ⟨by show 2 ≤ sizeLine; decide, [x1, x2], .cons ru1 (.cons ru2 .nil), ⟨_, hT2, rfl, _, rfl⟩⟩
    have kp : ∀ c o, c ∉ [z, TI, TO, i1, i2] → s.heap.get? c = some o → h''.get? c = some o := fun c o hb q =>
      (sb.2 c (fun q' => hb (by simp [q']))).trans (hk c o (fun q' => hb (by simp [q'])) (fun q' => hb (by simp [q'])) (fun q' => hb (by simp [q'])) (fun q' => hb (by simp [q'])) q)
    have I1 : Inv X pins σ (upd H s.heap.objs.size (.tup [x, y])) { s with heap := h'', toks := tk } := I.turnedNew (ch := [z, TI, TO, i1, i2]) kp hf (Nat.le_refl _) new
    have S := D.sep
    refine ⟨.ref s.heap.objs.size, _, I1, rfl, ⟨_, x, y, rfl, I.hok.fresh (Nat.le_refl _), rfl, fun l hl => by rw [inv_seq_inj I hl qx]; exact ex, fun l hl => by rw [inv_seq_inj I hl qy]; exact ey⟩,
      ⟨z'', (sb.2 _ S.TIz).trans (hk _ _ S.TIz S.TITO S.TIi1 S.TIi2 hTI), ⟨x1, x2, (sb.2 _ S.TOz).trans TO'⟩, s1'.1.keep fun o q => (sb.2 _ S.zi1.symm).trans q, s2'.1.keep fun o q => (sb.2 _ S.zi2.symm).trans q⟩, fun c hcm => ?_⟩
    have hcl : c < s.heap.objs.size := by
      have e' : c = z ∨ c = TI ∨ c = TO ∨ c = i1 ∨ c = i2 := by simpa using hcm
      rcases e' with q | q | q | q | q
      · rw [q]; exact zl
      · rw [q]; exact Heap.lt_size hTI
      · rw [q]; exact Heap.lt_size hTO
      · rw [q]; obtain ⟨o, q, _⟩ := h1.obj; exact Heap.lt_size q
      · rw [q]; obtain ⟨o, q, _⟩ := h2.obj; exact Heap.lt_size q
    rw [upd_ne (Nat.ne_of_lt hcl)]
    exact (hf c hcm).1
  done := by
    intro X hP hw hK hc i pins s σ H E I hf q hg
    subst hP hw hK
    obtain ⟨hz, hTI, ⟨x0, y0, hTO⟩, h1, h2⟩ := q
    obtain ⟨xs, ys, qx, qy, ei, el⟩ := hg
    obtain ⟨its1, r1, p1⟩ := inv_seq I qx
    obtain ⟨its2, r2, p2⟩ := inv_seq I qy
    have m1 := r1.length
    have m2 := r2.length
    have dr1 := draws_seq (prog := X.prog) (w := X.w) (A := X.A.in1) (I.ok.hd hc) k1 i1 a D.a1 its1.toArray
    have dr2 := draws_seq (prog := X.prog) (w := X.w) (A := X.A.in1) (I.ok.hd hc) k2 i2 b D.b2 its2.toArray
    refine zp_none (I.ok.hd hc) D.sep dr1 dr2 (fun e => by have := el e; simp only [List.size_toArray]; omega) hz hTI hTO ⟨h1, p1⟩ ⟨h2, p2⟩ (by simp only [List.size_toArray]; omega) fun h' tk hk => ⟨rfl, ?_⟩
    exact inv_turned I hf fun c o hb q => hk c o (fun q' => hb (by simp [q'])) (fun q' => hb (by simp [q'])) (fun q' => hb (by simp [q'])) (fun q' => hb (by simp [q'])) q
  self := fun A i s Q E st h => zp_iter st.1 h

/-! enumerate(v), zip(v, w), zip(v, w, strict=True) as what a loop walks -/
theorem meets_enB {v : Value} {o : Obj} {H : Heap → Prop} (B : Begins v o H) :
    Meets (Builtin.«enumerate.__new__» ⟨[.type "enumerate", v], []⟩) (fun _ R s => H s.heap ∧
      R (.ok (.ret (.ref (s.heap.push o).objs.size))) { s with heap := (s.heap.push o).push { cls := .type "enumerate", data := .fields #[.none, .bool false, .ref s.heap.objs.size, rawInt 0, .none, .none] } }) :=
  .of_wp fun prog w A R s h => by
    obtain ⟨hp, g, d, tk, os⟩ := s; obtain ⟨h1, h⟩ := h
    have hsub := sub_enumerate
    have r1 : ∀ {A' : Around} {E : Value → Shared → Prop} {Q : Value → Shared → Prop}, Q (.ref hp.objs.size) ⟨hp.push o, g, d, tk, os⟩ → wpAny (model prog w) A' (pyIter v) Q E ⟨hp, g, d, tk, os⟩ :=
      fun q => B.iter prog w _ _ ⟨hp, g, d, tk, os⟩ _ h1 q
    wp_walk using r1
    refine wpAny_stack_any fun st => wpAny_pure ?_
    split
    · rename_i c _ _ _ _ _
      cases (c == Value.type "enumerate")
      · wp_walk using r1
        exact ⟨_, rfl, h⟩
      · wp_walk using r1
        exact ⟨_, rfl, h⟩
    · wp_walk using r1
      exact ⟨_, rfl, h⟩
end CW

namespace CW
open PySem PySem.Spec PyProof.Rows L2
section
variable {prog : Program} {w : World} {A : Around} {E : Value → Shared → Prop} {s : Shared}
theorem en_begins {v : Value} {o : Obj} {H : Heap → Prop} {Q : Value → Shared → Prop} (B : Begins v o H) (h1 : H s.heap)
    (h : ∀ h', IsEnum h' (s.heap.objs.size + 1) s.heap.objs.size 0 .none → h'.get? s.heap.objs.size = some o → h'.objs.size = s.heap.objs.size + 2 →
      (∀ b o, s.heap.get? b = some o → h'.get? b = some o) → Q (.ref (s.heap.objs.size + 1)) { s with heap := h' }) :
    wpAny (model prog w) A (call (.type "enumerate") [v]) Q E s := by
  refine callType_new F.called_enumerate (by decide) (F.typeCall_enumerate_1 _) (F.newCall_enumerate_1 _) (fun obj => F.args_object_init_2 obj _) F.entry_enumerate_new (meets_enB B) ⟨h1, ?_⟩
  have hz : (s.heap.push o).objs.size = s.heap.objs.size + 1 := Heap.size_push ..
  show _ ∧ _
  rw [hz]
  have he : IsEnum ((s.heap.push o).push { cls := .type "enumerate", data := .fields #[.none, .bool false, .ref s.heap.objs.size, rawInt 0, .none, .none] }) (s.heap.objs.size + 1) s.heap.objs.size 0 .none := by
    have q := Heap.get?_push_size (s.heap.push o) (o := { cls := .type "enumerate", data := .fields #[.none, .bool false, .ref s.heap.objs.size, rawInt 0, .none, .none] }) rfl
    rw [hz] at q; exact q
  exact ⟨⟨_, he, rfl⟩, h _ he (Heap.get?_push_of_some _ (Heap.get?_push_size _ B.free)) (by rw [Heap.size_push, hz]) fun b o x => Heap.get?_push_of_some _ (Heap.get?_push_of_some _ x)⟩
end
/-! a type called with keywords -/
section
variable {M : Model} {A : Around} {E : Value → Shared → Prop} {s : Shared} {env : Env}
theorem callWith_tyK {pos : Pos} {T : String} {e : Expr} {rest : List Expr} {kws : List Keyword} {Q : Value → Shared → Prop}
    (h : wpAny M A (spliced (backTo pos (starEach (e :: rest) env))) (fun vs s₁ => wpAny M A (evalAll ((backToKw pos (keywordEach kws env)).map (·.2)))
      (fun kvs s₂ => wpAny M A (call (.type T) vs (((backToKw pos (keywordEach kws env)).filterMap (·.1)).zip kvs)) Q E s₂) E s₁) E s)
    (he : backTo pos (starEach (e :: rest) env) = (false, eval e env) :: backTo pos (starEach rest env))
    (hpl : (backTo pos (starEach (e :: rest) env)).any (·.1) = false)
    (hall : (backToKw pos (keywordEach kws env)).all (·.1.isSome) = true)
    (hkw : (backToKw pos (keywordEach kws env)).any (·.1.isNone) = false) :
    wpAny M A (callWith pos (.type T) [] (backTo pos (starEach (e :: rest) env)) (backToKw pos (keywordEach kws env))) Q E s := by
  have ev : wpAny M A (evalArgs (.type T) true (backTo pos (starEach (e :: rest) env)) (backToKw pos (keywordEach kws env))) (fun (a : Args) s₁ => wpAny M A (call (.type T) a.pos a.kw) Q E s₁) E s := by
    rw [he] at h ⊢
    exact evalArgs_kwB hall h
  unfold callWith
  refine wpAny_bind (wpAny_holding (wpAny_mono ev (fun a s₁ h₁ => wpAny_bind (wpAny_standAt ?_)) fun _ _ x => x))
  simp only [hpl, hkw, Bool.or_false]
  refine wpAny_bind (wpAny_pure ?_)
  refine wpAny_bind (wpAny_mono h₁ (fun r s₂ hr => ?_) fun _ _ x => x)
  exact wpAny_bind (wpAny_holding (wpAny_point (wpAny_pure hr)))
end
section
variable {X : Cx}
theorem sqs_of {K : PySem.W.Frag} {H : Hp} {a : Addr} {xs : List V} (h : SqL K H a xs ∨ SqT K H a xs) : ∃ k, SqS K H k a xs := by
  rcases h with h | h
  · exact ⟨true, h⟩
  · exact ⟨false, h⟩
/-- what enumerate(e) walks -/
def iEn (K : PySem.W.Frag) (ta : TA) : TI := fun σ H R => ta σ H fun vs H1 => ∃ (k : Bool) (a : Addr) (xs : List V), vs = [.ref a] ∧ SqS K H1 k a xs ∧ R (ItEn K k a) H1
theorem pi_en {e : Expr} {ta : TA} {p pos tpos : Pos} {elts : List Expr} {kk : Nat} (hg : Gl X "enumerate") (hm : X.mg "enumerate" = none) (ha : PA X [e] ta) (hs : starEach [e] X.env = [(false, eval e X.env)] := by rfl) :
    PI X (.Tuple elts kk tpos) (.Call (.Name "enumerate" p) [e] [] pos) (iEn X.K ta) := by
  refine ⟨fun pins s σ H R I h => ?_⟩
  refine Call_ (ld_blt I hg hm boot_enumerate (PyProof.Rows.callWith_type1 (thn (ha.run pos pins s σ H _ I h) fun us s1 ⟨vs, H1, I1, r1, q1⟩ => ?_) hs rfl))
  obtain ⟨k, a, xs, ex, hq, q⟩ := q1
  subst ex
  obtain rfl := Vals.ref1 r1
  obtain ⟨its, rv, sq⟩ := inv_seq I1 hq
  obtain ⟨oa, ea⟩ := seq_there sq
  have la : a < s1.heap.objs.size := Heap.lt_size ea
  refine en_begins (begins_seq k a its.toArray) sq fun h' he hit hsz hk => wpAny_pyIter_enum he ?_
  have I2 : Inv X pins σ H1 { s1 with heap := h' } := I1.kept (t' := s1.toks) hk
  refine ⟨s1.heap.objs.size + 1, [s1.heap.objs.size + 1, s1.heap.objs.size], _, _, H1, rfl, I2, turn_en (k := k) (a := a) (e := s1.heap.objs.size + 1) (it := s1.heap.objs.size) (Nat.succ_ne_self _) (Nat.ne_of_gt (Nat.lt_succ_of_lt la)) (Nat.ne_of_lt la),
    ⟨⟨.none, he⟩, ItAt.start hit⟩, fun b hb => ?_, q⟩
  have hle : s1.heap.objs.size ≤ b := by
    have e' : b = s1.heap.objs.size + 1 ∨ b = s1.heap.objs.size := by simpa using hb
    rcases e' with z | z
    · rw [z]; exact Nat.le_add_right _ _
    · rw [z]; exact Nat.le_refl _
  exact I1.fpOk hle (I1.hok.fresh hle)
/-- what zip(e, f) walks -/
def iZp (K : PySem.W.Frag) (st : Bool) (ta : TA) : TI := fun σ H R => ta σ H fun vs H1 => ∃ (k1 k2 : Bool) (a b : Addr) (xs ys : List V), vs = [.ref a, .ref b] ∧ SqS K H1 k1 a xs ∧ SqS K H1 k2 b ys ∧ R (ItZp K st k1 k2 a b) H1
theorem zAp_new {N a b : Nat} (ha : a < N) (hb : b < N) : ZAp (N + 4) (N + 2) (N + 3) N (N + 1) a b where
  sep := zip_sep2 (fp1 := [a]) (fp2 := [b]) (fun c hc => by have : c = a := (by simpa using hc); rw [this]; exact ha) (fun c hc => by have : c = b := (by simpa using hc); rw [this]; exact hb)
  a1 := Nat.ne_of_lt ha
  b2 := Nat.ne_of_lt (Nat.lt_succ_of_lt hb)
theorem zp_start {pins : List (Addr × Obj)} {σ : L2.St} {H1 : Hp} {s1 : Shared} {R : It → Hp → Prop} {k1 k2 st : Bool} {a b : Addr} {its1 its2 : List Value} {elts : List Expr} {kk : Nat} {tpos : Pos} {h' : Heap} (I1 : Inv X pins σ H1 s1)
    (p1 : SeqA s1.heap k1 a its1.toArray) (p2 : SeqA s1.heap k2 b its2.toArray) (q : R (ItZp X.K st k1 k2 a b) H1)
    (hz : ZpS st h' (s1.heap.objs.size + 4) (s1.heap.objs.size + 2) (s1.heap.objs.size + 3) .none) (hTI : IsTupOf2 h' (s1.heap.objs.size + 2) (.ref s1.heap.objs.size) (.ref (s1.heap.objs.size + 1)))
    (hTO : IsTupOf2 h' (s1.heap.objs.size + 3) .none .none) (g1 : h'.get? s1.heap.objs.size = some (itObj k1 a)) (g2 : h'.get? (s1.heap.objs.size + 1) = some (itObj k2 b))
    (hk : ∀ c o, s1.heap.get? c = some o → h'.get? c = some o) :
    wpAny (model X.prog X.w) X.A (pyIter (.ref (s1.heap.objs.size + 4))) (PIE X pins σ (.Tuple elts kk tpos) R) X.xe { s1 with heap := h' } := by
  obtain ⟨oa, ea⟩ := seq_there p1
  obtain ⟨ob, eb⟩ := seq_there p2
  refine zp_iter (s := { s1 with heap := h' }) hz ?_
  have I2 : Inv X pins σ H1 { s1 with heap := h' } := I1.kept (t' := s1.toks) hk
  refine ⟨s1.heap.objs.size + 4, [s1.heap.objs.size + 4, s1.heap.objs.size + 2, s1.heap.objs.size + 3, s1.heap.objs.size, s1.heap.objs.size + 1], _, _, H1, rfl, I2,
    turn_zp (st := st) (k1 := k1) (k2 := k2) (zAp_new (Heap.lt_size ea) (Heap.lt_size eb)), ⟨hz, hTI, ⟨_, _, hTO⟩, ItAt.start g1, ItAt.start g2⟩, fun c hcm => ?_, q⟩
  have hle : s1.heap.objs.size ≤ c := by
    have e' : c = s1.heap.objs.size + 4 ∨ c = s1.heap.objs.size + 2 ∨ c = s1.heap.objs.size + 3 ∨ c = s1.heap.objs.size ∨ c = s1.heap.objs.size + 1 := by simpa using hcm
    rcases e' with z | z | z | z | z <;> rw [z] <;> first | exact Nat.le_add_right _ _ | exact Nat.le_refl _
  exact I1.fpOk hle (I1.hok.fresh hle)
theorem pi_zp {e e2 : Expr} {ta : TA} {p pos tpos : Pos} {elts : List Expr} {kk : Nat} (hg : Gl X "zip") (hm : X.mg "zip" = none) (ha : PA X [e, e2] ta)
    (hs : starEach [e, e2] X.env = (false, eval e X.env) :: starEach [e2] X.env := by rfl) (hpl : (backTo pos (starEach [e2] X.env)).any (·.1) = false := by rfl) :
    PI X (.Tuple elts kk tpos) (.Call (.Name "zip" p) [e, e2] [] pos) (iZp X.K false ta) := by
  refine ⟨fun pins s σ H R I h => ?_⟩
  refine Call_ (ld_blt I hg hm PyProof.Rows.boot_zip (PyProof.Rows.callWith_type1 (thn (ha.run pos pins s σ H _ I h) fun us s1 ⟨vs, H1, I1, r1, q1⟩ => ?_) hs hpl))
  obtain ⟨k1, k2, a, b, xs, ys, ex, qx, qy, q⟩ := q1
  subst ex
  obtain ⟨u1, u2, rfl, e1, e2⟩ := vals2 r1
  cases e1; cases e2
  obtain ⟨its1, rv1, p1⟩ := inv_seq I1 qx
  obtain ⟨its2, rv2, p2⟩ := inv_seq I1 qy
  exact zip_begins2 (begins_seq k1 a its1.toArray) (begins_seq k2 b its2.toArray) p1 p2 fun h' hz hTI hTO g1 g2 hsz hk => zp_start (st := false) I1 p1 p2 q hz hTI hTO g1 g2 hk
theorem pi_zpS {e e2 : Expr} {ta : TA} {p pos tpos kp cp : Pos} {elts : List Expr} {kk j : Nat} (hg : Gl X "zip") (hm : X.mg "zip" = none) (ha : PA X [e, e2] ta)
    (he : backTo pos (starEach [e, e2] X.env) = (false, eval e X.env) :: backTo pos (starEach [e2] X.env) := by rfl) (hpl : (backTo pos (starEach [e, e2] X.env)).any (·.1) = false := by rfl) :
    PI X (.Tuple elts kk tpos) (.Call (.Name "zip" p) [e, e2] [⟨some "strict", .Constant (.bool true) j cp, kp⟩] pos) (iZp X.K true ta) := by
  refine ⟨fun pins s σ H R I h => ?_⟩
  refine wpAny_Call_Name_kw (ld_blt I hg hm PyProof.Rows.boot_zip ?_)
  refine callWith_tyK (thn (ha.run pos pins s σ H _ I h) fun us s1 ⟨vs, H1, I1, r1, q1⟩ => ?_) he hpl rfl rfl
  refine kws_cons (Constant_bool (kws_nil ?_))
  obtain ⟨k1, k2, a, b, xs, ys, ex, qx, qy, q⟩ := q1
  subst ex
  obtain ⟨u1, u2, rfl, e1, e2⟩ := vals2 r1
  cases e1; cases e2
  obtain ⟨its1, rv1, p1⟩ := inv_seq I1 qx
  obtain ⟨its2, rv2, p2⟩ := inv_seq I1 qy
  exact zipS_begins (begins_seq k1 a its1.toArray) (begins_seq k2 b its2.toArray) p1 p2 fun h' hz hTI hTO g1 g2 hsz hk => zp_start (st := true) I1 p1 p2 q hz hTI hTO g1 g2 hk
end
end CW

namespace CW
open PySem PySem.Spec PyProof.Rows L2

/-! a def's promise where nothing is being shown (so that repr of a list can be told) -/
structure FnG (P : Program) (w : World) (K : PySem.W.Frag) (mg : Str → Option Value) (base : Heap) (CX : CXT) (k : Nat) (f : Addr) (fd : FuncData) (ps : List Str) (sp : Sp) : Prop where
  len : ∀ vs H Q E, sp vs H Q E → vs.length = ps.length
  run : ∀ (A : Around) (outer : List Env) (s : Shared) (H : Hp) (args : Args) (us : List Value) (vs : List V) (Q : VK) (E : XK), A.guards = some [] → Room k A → Env0 P w K mg base A outer s H → BindsTo s fd args (ps.zip us) → Vals vs us → sp vs H Q E →
    codeAny (model P w) A (.call (.ref f) args) (CR CX outer P w H s Q E) s
theorem FnG.mono {P : Program} {w : World} {K : PySem.W.Frag} {mg : Str → Option Value} {base : Heap} {CX : CXT} {j k : Nat} {f : Addr} {fd : FuncData} {ps : List Str} {sp : Sp} (F : FnG P w K mg base CX j f fd ps sp) (h : j ≤ k) :
    FnG P w K mg base CX k f fd ps sp := ⟨F.len, fun A outer s H args us vs Q E hg hr => F.run A outer s H args us vs Q E hg (hr.mono h)⟩
section
variable {P : Program} {w : World} {K : PySem.W.Frag} {mg : Str → Option Value} {base : Heap} {x qual : Str} {params : Arguments} {body : List Stmt} {scope : Scope} {dvs : List V} {kws : List (Str × V)} {f : Addr} {fd : FuncData}
theorem fnG_of {CX : CXT} {N ps : List Str} {k : Nat} {sp : Sp} (D : FunD K x qual params body scope dvs kws f fd) (S : FnScope N ps scope) (len : ∀ vs H Q E, sp vs H Q E → vs.length = ps.length)
    (bd : ∀ (cdv : Value) (A : Around) (outer : List Env) (s : Shared) (H : Hp) (vs : List V) (Q : VK) (E : XK), A.guards = some [] → Room k (A.deeper (envOfC qual scope s.heap.objs.size f cdv)) → sp vs H Q E →
      ∃ t, PSs (cxOf CX P w K mg base N qual scope f cdv A outer s H E) body t ∧ t { nx := fun _ H' => Q .non H', rt := Q } (start N vs) H) : FnG P w K mg base CX (k + 1) f fd ps sp := by
  obtain ⟨oc, od, dV, kV, doc, pm, an, cdv, ct, osl, rfl, lk, hcd, _, _⟩ := D.ex
  refine ⟨len, fun A outer s H args us vs Q E hG hR e0 hB rV hS => ?_⟩
  have hL := len vs H Q E hS
  have kin : K.In s.heap := e0.mod.kin.keeps fun b o z => (e0.bs b o z).1
  have nl : s.heap.NoLimit := e0.mod.nolimit.keeps fun b o z => (e0.bs b o z).1
  have kinds : ∀ y ∈ ps.zip us, scope.names.lookup y.1 = some .local ∨ (scope.names.lookup y.1 = some .cell ∧ ((cellsFrom (s.heap.objs.size + 1) scope.names []).lookup y.1).isSome = true) := by
    rintro ⟨n, v⟩ hy
    rcases S.par n (List.of_mem_zip hy).1 with z | z
    · exact .inl z
    · exact .inr ⟨z, PySem.W.cellsFrom_some _ _ _ (.inl z)⟩
  refine codeAny_call_function hR.depth (kin _ _ lk) rfl S.co S.gen rfl (PySem.W.codeRec_of kin hcd) (hB _ _ _ _ ?_)
  refine wpAny_newFunctionEnv_cells S.kind kinds fun env eE s1 inC => ?_
  subst eE
  refine ⟨nl.keeps inC.toInCall.keep, codeAny_func ?_⟩
  obtain ⟨t, pt, ht⟩ := bd cdv A outer s H vs Q E hG (hR.deeper _) hS
  have J : Inv (cxOf CX P w K mg base N qual scope f cdv A outer s H E) [] (start N vs) H s1 := inv_start S hR.hd e0 hL rV inC
  refine wpAny_mono (pt.run [] s1 (start N vs) H _ J ht) (fun fl s' z => ?_) fun _ _ z => z
  have ends : ∀ {σ' : L2.St} {H' : Hp} {v : V} {u : Value}, Inv (cxOf CX P w K mg base N qual scope f cdv A outer s H E) [] σ' H' s' → RelV v u → Q v H' → CE outer P w H s Q u s' :=
    fun {σ' H' v u} I rv q => ⟨v, H', I.os, I.bare, I.base, I.hok, rv, q⟩
  cases fl with
  | next => obtain ⟨σ', H', I, q⟩ := z; exact ends (v := V.non) (u := Value.none) I rfl q
  | ret u => obtain ⟨v, σ', H', I, rv, q⟩ := z; exact ends I rv q
  | brk => obtain ⟨_, _, _, q⟩ := z; exact q.elim
  | cont => obtain ⟨_, _, _, q⟩ := z; exact q.elim
end

/-! calls of such a def -/
section
variable {X : Cx} {CX : CXT} {k : Nat} {f : Addr} {fd : FuncData} {ps ks : List Str} {sp : Sp} {E : XK} {x : Str} {p pos : Pos} {e : Expr} {es : List Expr} {kws : List Keyword} {t tk : TA}
theorem run_fnG {pins : List (Addr × Obj)} {σ : L2.St} {H : Hp} {s : Shared} {Q : VK} {args : Args} {us : List Value} {vs : List V} (F : FnG X.prog X.w X.K X.mg X.base CX k f fd ps sp) (hG : X.A.guards = some []) (hr : Room k X.A) (hx : Passes CX X E)
    (I : Inv X pins σ H s) (hb : us.length = ps.length → BindsTo s fd args (ps.zip us)) (r : Vals vs us) (h : sp vs H Q E) : wpAny (model X.prog X.w) X.A (call (.ref f) args.pos args.kw) (EP X pins σ Q) X.xe s := by
  have hl : us.length = ps.length := by rw [← r.length]; exact F.len _ _ _ _ h
  refine wpAny_call (codeAny_mono (F.run X.A X.stack s H args us vs Q E hG hr I.env0 (hb hl) r h) fun r s' hq => ?_)
  cases r with
  | error e => exact hx pins σ H s e s' I hq
  | ok fl =>
    cases fl with
    | ret u => exact I.after hq
    | next => exact hq.elim
    | brk => exact hq.elim
    | cont => exact hq.elim
theorem pe_callG (F : FnG X.prog X.w X.K X.mg X.base CX k f fd ps sp) (hG : X.A.guards = some []) (hr : Room k X.A) (hg : Gl X x) (hm : X.mg x = some (.ref f)) (hk : PySem.W.keepIn X.K (.ref f) = true) (hb : Binds X.K fd ps []) (hx : Passes CX X E)
    (ha : PA X (e :: es) t) (hdb : (x == ("__debug__" : Str)) = false := by decide) (he : starEach (e :: es) X.env = (false, eval e X.env) :: starEach es X.env := by rfl) (hpl : (backTo pos (starEach es X.env)).any (·.1) = false := by rfl) :
    PE X (.Call (.Name x p) (e :: es) [] pos) (tCall sp [] E t) := by
  refine ⟨fun pins s σ H Q I h => ?_⟩
  refine wpAny_Call_Name_kw (ld_glob I hg hm ?_ hdb)
  refine PySem.W.callWith_K (h₀ := X.base) I.ok.mod.kin hk (thn (ha.run pos pins s σ H _ I h) fun us s1 ⟨vs, H1, I1, r, q⟩ => ⟨I1.kIn, ?_⟩) he hpl
  have q' : sp vs H1 Q E := by
    have z : sp (vs ++ []) H1 Q E := q
    rwa [List.append_nil] at z
  exact run_fnG (args := ⟨us, []⟩) F hG hr hx I1 (fun hl => by have z := hb s1 us I1.kIn (by simpa using hl); rwa [List.append_nil] at z) r q'
theorem pe_call0G (F : FnG X.prog X.w X.K X.mg X.base CX k f fd ps sp) (hG : X.A.guards = some []) (hr : Room k X.A) (hg : Gl X x) (hm : X.mg x = some (.ref f)) (hk : PySem.W.keepIn X.K (.ref f) = true) (hb : Binds X.K fd ps []) (hx : Passes CX X E)
    (hdb : (x == ("__debug__" : Str)) = false := by decide) : PE X (.Call (.Name x p) [] [] pos) (tCall sp [] E tNil) := by
  refine ⟨fun pins s σ H Q I h => ?_⟩
  refine wpAny_Call_Name_kw (ld_glob I hg hm ?_ hdb)
  exact PySem.W.callWith_K0 I.kIn hk (run_fnG (args := ⟨[], []⟩) (us := []) F hG hr hx I (fun hl => hb s [] I.kIn (by simpa using hl)) .nil h)
/-- the written values in the parameters' order -/
def inOrder {α : Type} (ix : List Nat) (xs : List α) : List α := ix.filterMap fun i => xs[i]?
theorem vals_order {vs : List V} {us : List Value} (r : Vals vs us) : ∀ ix : List Nat, Vals (inOrder ix vs) (inOrder ix us)
  | [] => .nil
  | i :: ix => by
    unfold inOrder
    cases q : vs[i]? with
    | none =>
      have q2 := Vals.none_of r q
      rw [List.filterMap_cons_none q, List.filterMap_cons_none q2]
      exact vals_order r ix
    | some v =>
      obtain ⟨u, q2, rv⟩ := r.get q
      rw [List.filterMap_cons_some q, List.filterMap_cons_some q2]
      exact .cons rv (vals_order r ix)
/-- f(e, .., k = v, ..): ix says where each parameter's value stands among the written ones -/
def KwTo (K : PySem.W.Frag) (fd : FuncData) (ps : List Str) (n : Nat) (ks : List Str) (ix : List Nat) : Prop := ∀ (s : Shared) (us ws : List Value), K.In s.heap → us.length = n → ws.length = ks.length → BindsTo s fd ⟨us, ks.zip ws⟩ (ps.zip (inOrder ix (us ++ ws)))
def tCallO (sp : Sp) (ix : List Nat) (n m : Nat) (E : XK) (t tk : TA) : TE := fun σ H Q => t σ H fun vs H1 => tk σ H1 fun zs H2 => vs.length = n ∧ zs.length = m ∧ sp (inOrder ix (vs ++ zs)) H2 Q E
theorem pe_callGK {ix : List Nat} {n : Nat} (F : FnG X.prog X.w X.K X.mg X.base CX k f fd ps sp) (hG : X.A.guards = some []) (hr : Room k X.A) (hg : Gl X x) (hm : X.mg x = some (.ref f)) (hk : PySem.W.keepIn X.K (.ref f) = true) (hb : KwTo X.K fd ps n ks ix) (hx : Passes CX X E)
    (ha : PA X (e :: es) t) (hkw : PK X kws tk) (hall : (backToKw pos (keywordEach kws X.env)).all (·.1.isSome) = true := by rfl) (hks : (backToKw pos (keywordEach kws X.env)).filterMap (·.1) = ks := by rfl)
    (hdb : (x == ("__debug__" : Str)) = false := by decide) (he : starEach (e :: es) X.env = (false, eval e X.env) :: starEach es X.env := by rfl)
    (hpl : ((backTo pos (starEach (e :: es) X.env)).any (·.1) || (backToKw pos (keywordEach kws X.env)).any (·.1.isNone)) = false := by rfl) :
    PE X (.Call (.Name x p) (e :: es) kws pos) (tCallO sp ix n ks.length E t tk) := by
  refine ⟨fun pins s σ H Q I h => ?_⟩
  refine wpAny_Call_Name_kw (ld_glob I hg hm ?_ hdb)
  refine PySem.W.callWith_KW (h₀ := X.base) I.ok.mod.kin hk hall (thn (ha.run pos pins s σ H _ I h) fun us s1 ⟨vs, H1, I1, r, q⟩ => ?_) hpl he
  refine thn (hkw.run pos pins s1 σ H1 _ I1 q) fun ws s2 ⟨zs, H2, I2, rz, l1, l2, q2⟩ => ⟨I2.kIn, ?_⟩
  rw [hks]
  exact run_fnG (args := ⟨us, ks.zip ws⟩) F hG hr hx I2 (fun hl => hb s2 us ws I2.kIn (r.length.symm.trans l1) (rz.length.symm.trans l2)) (vals_order (r.append rz) ix) q2
theorem pe_callGK0 {ix : List Nat} (F : FnG X.prog X.w X.K X.mg X.base CX k f fd ps sp) (hG : X.A.guards = some []) (hr : Room k X.A) (hg : Gl X x) (hm : X.mg x = some (.ref f)) (hk : PySem.W.keepIn X.K (.ref f) = true) (hb : KwTo X.K fd ps 0 ks ix) (hx : Passes CX X E)
    (hkw : PK X kws tk) (hall : (backToKw pos (keywordEach kws X.env)).all (·.1.isSome) = true := by rfl) (hks : (backToKw pos (keywordEach kws X.env)).filterMap (·.1) = ks := by rfl)
    (hdb : (x == ("__debug__" : Str)) = false := by decide)
    (hpl : ((backTo pos (starEach [] X.env)).any (·.1) || (backToKw pos (keywordEach kws X.env)).any (·.1.isNone)) = false := by rfl) :
    PE X (.Call (.Name x p) [] kws pos) (tCallO sp ix 0 ks.length E tNil tk) := by
  refine ⟨fun pins s σ H Q I h => ?_⟩
  refine wpAny_Call_Name_kw (ld_glob I hg hm ?_ hdb)
  refine PySem.W.callWith_KW0 (h₀ := X.base) I.ok.mod.kin hk hall ?_ hpl
  refine thn (hkw.run pos pins s σ H _ I h) fun ws s2 ⟨zs, H2, I2, rz, l1, l2, q2⟩ => ⟨I2.kIn, ?_⟩
  rw [hks]
  exact run_fnG (args := ⟨[], ks.zip ws⟩) F hG hr hx I2 (fun hl => hb s2 [] ws I2.kIn rfl (rz.length.symm.trans l2)) (vals_order (us := [] ++ ws) rz ix) q2
end

/-! the promise in data: m says what comes of the arguments' slots -/
def spD (K : PySem.W.Frag) (mg : Str → Option Value) (n : Nat) (m : Ev → Res (Sl × Ev)) : Sp := fun vs H Q _ => ∃ (ρ : Nat → Addr) (Fr F : Hp) (as : Ev) (r : Sl) (as' : Ev), vs.length = n ∧ Rel K mg ρ Fr F as (vs.map some) H ∧ m as = .ok (r, as') ∧
  ∀ F' v H', Same F F' → Rel K mg ρ Fr F' (r :: as') (some v :: vs.map some) H' → Q v H'
/-- the arguments' slots behind a body -/
def outA : Ev → Ev → Res Ev
  | [], _ => .ok []
  | .val d :: as, _ :: δ => (match outA as δ with
    | .ok r => .ok (.val d :: r)
    | .err c d => .err c d
    | .no => .no)
  | .io k _ :: as, .io k' ys :: δ => if k = k' then (match outA as δ with
    | .ok r => .ok (.io k ys :: r)
    | .err c d => .err c d
    | .no => .no) else .no
  | .emp :: as, _ :: δ => (match outA as δ with
    | .ok r => .ok (.emp :: r)
    | .err c d => .err c d
    | .no => .no)
  | _, _ => .no
def fnM (nl : Nat) (body : MS) (as : Ev) : Res (Sl × Ev) := match body (as ++ List.replicate nl .emp) with
  | .ok (.rt s, δ') => (match outA as δ' with
    | .ok as' => .ok (s, as')
    | .err c d => .err c d
    | .no => .no)
  | .ok (.nx, δ') => (match outA as δ' with
    | .ok as' => .ok (.val .none, as')
    | .err c d => .err c d
    | .no => .no)
  | .err c d => .err c d
  | _ => .no
section
variable {K : PySem.W.Frag} {mg : Str → Option Value} {ρ : Nat → Addr} {Fr F F' H H' : Hp}
theorem outA_ok (e : Same F F') : ∀ {as δ as' : Ev} {os σ : L2.St} {L0 L : List Addr}, SlotsR K mg ρ F H as os L0 → SlotsR K mg ρ F' H' δ σ L → outA as δ = .ok as' → ∃ L', SlotsR K mg ρ F' H' as' os L' ∧ L'.Sublist L
  | [], δ, as', [], σ, L0, L, h, h', q => by
    cases q
    exact ⟨[], rfl, List.nil_sublist _⟩
  | [], _, _, _ :: _, _, _, _, h, _, _ => h.elim
  | _ :: _, _, _, [], _, _, _, h, _, _ => h.elim
  | a :: as, [], as', o :: os, σ, L0, L, h, h', q => by
    cases a <;> cases q
  | a :: as, s :: δ, as', o :: os, [], L0, L, h, h', q => h'.elim
  | a :: as, s :: δ, as', o :: os, oσ :: σ, L0, L, h, h', q => by
    obtain ⟨A1, A2, rfl, g1, g2⟩ := h
    obtain ⟨B1, B2, rfl, g3, g4⟩ := h'
    cases a with
    | emp =>
      unfold outA at q
      split at q
      · rename_i r e1
        cases q
        obtain ⟨L', c1, c2⟩ := outA_ok e g2 g4 e1
        exact ⟨[] ++ L', ⟨[], L', rfl, rfl, c1⟩, c2.trans (List.sublist_append_right _ _)⟩
      · cases q
      · cases q
    | own xs => cases q
    | fn x => cases q
    | tree d => cases q
    | vk j d => cases q
    | val d =>
      unfold outA at q
      split at q
      · rename_i r e1
        cases q
        obtain ⟨L', c1, c2⟩ := outA_ok e g2 g4 e1
        obtain ⟨rfl, v, rfl, dv⟩ := g1
        exact ⟨[] ++ L', ⟨[], L', rfl, ⟨rfl, v, rfl, dv.up e⟩, c1⟩, c2.trans (List.sublist_append_right _ _)⟩
      · cases q
      · cases q
    | io k xs =>
      cases s with
      | io k' ys =>
        unfold outA at q
        split at q
        · rename_i hk
          subst hk
          split at q
          · rename_i r e1
            cases q
            obtain ⟨L', c1, c2⟩ := outA_ok e g2 g4 e1
            obtain ⟨rfl, rfl, vs, a1, a2⟩ := g1
            obtain ⟨_, rfl, ws, b1, b2⟩ := g3
            exact ⟨[ρ k] ++ L', ⟨[ρ k], L', rfl, ⟨rfl, rfl, ws, b1, b2⟩, c1⟩, c2.append_left _⟩
          · cases q
          · cases q
        · cases q
      | emp => cases q
      | own ys => cases q
      | fn x => cases q
      | tree d => cases q
      | vk j d => cases q
      | val d => cases q
theorem outA_rel {as δ as' : Ev} {os σ : L2.St} {s : Sl} {o : Option V} (e : Same F F') (r0 : Rel K mg ρ Fr F as os H) (r : Rel K mg ρ Fr F' (s :: δ) (o :: σ) H') (q : outA as δ = .ok as') : Rel K mg ρ Fr F' (s :: as') (o :: os) H' := by
  obtain ⟨L0, g0, _, _⟩ := r0.own
  obtain ⟨L, ⟨L1, L2, rfl, g1, g2⟩, nd, av⟩ := r.own
  obtain ⟨L', c1, c2⟩ := outA_ok e g0 g2 q
  have sb : (L1 ++ L').Sublist (L1 ++ L2) := c2.append_left _
  exact ⟨r.sub, r.fr, r.dis, L1 ++ L', ⟨L1, L', rfl, g1, c1⟩, nd.sublist sb, fun a ha => av a (sb.subset ha)⟩
end
end CW

namespace CW
open PySem PySem.Spec PyProof.Rows L2

/-! what a loop walks -/
section
variable (K : PySem.W.Frag) (mg : Str → Option Value)
def ItD (J : It) (F : Hp) (ds : List PyData) : Prop := ∀ (i : Nat) (F2 H2 : Hp), Same F F2 → Same F2 H2 → (i = ds.length → J.stop i H2) ∧ ∀ d, ds[i]? = some d → J.go i H2 ∧ ∀ x H3, J.yld i H2 x H3 →
  ∃ F3, Same F2 F3 ∧ Dp K F3 x d ∧ ∀ {ρ : Nat → Addr} {Fr : Hp} {δ : Ev} {σ : L2.St}, Rel K mg ρ Fr F2 δ σ H2 → Rel K mg ρ Fr F3 δ σ H3
def SndI (w : TI) (m : MA) : Prop := ∀ {ρ : Nat → Addr} {Fr F : Hp} {δ : Ev} {σ : L2.St} {H : Hp} {ds : List PyData} {δ' : Ev}, Rel K mg ρ Fr F δ σ H → m δ = .ok (ds, δ') →
  ∀ {R : It → Hp → Prop}, (∀ F' J H', Same F F' → Rel K mg ρ Fr F' δ' σ H' → ItD K mg J F' ds → R J H') → w σ H R
def SndG (g : TG) (f : PyData → Ev → Res Ev) (js : List Nat) : Prop := ∀ {ρ : Nat → Addr} {Fr F : Hp} {δ : Ev} {σ : L2.St} {H : Hp} {x : V} {d : PyData} {δ' : Ev}, Rel K mg ρ Fr F δ σ H → Dp K F x d → f d δ = .ok δ' →
  ∀ {Q : L2.St → Hp → Prop}, (∀ F' σ' H', Same F F' → Rel K mg ρ Fr F' δ' σ' H' → (∀ k, k ∉ js → σ'[k]? = σ[k]?) → σ'.length = σ.length → Q σ' H') → g x σ H Q
end
structure RI (X : Cx) (tg iter : Expr) (w : TI) (m : MA) : Prop where
  pi : PI X tg iter w
  sn : SndI X.K X.mg w m
structure RG (X : Cx) (tg : Expr) (g : TG) (f : PyData → Ev → Res Ev) (js : List Nat) : Prop where
  pg : PG X tg g
  sn : SndG X.K X.mg g f js

section
variable {X : Cx} {K : PySem.W.Frag} {mg : Str → Option Value}
theorem pi_or {tg iter : Expr} {w w' : TI} (h : PI X tg iter w) (h' : PI X tg iter w') : PI X tg iter (fun σ H R => w σ H R ∨ w' σ H R) :=
  ⟨fun pins s σ H R I q => q.elim (h.run pins s σ H R I) (h'.run pins s σ H R I)⟩
theorem itD_list {F : Hp} {a : Addr} {vs : List V} {ds : List PyData} (h : SqL K F a vs) (d : DpAll K F vs ds) : ItD K mg (Itl K a) F ds := fun i F2 H2 s1 s2 => by
  have hq : SqL K H2 a vs := sqL_mono (s1.trans s2) h
  refine ⟨fun e => ⟨vs, hq, by rw [dpa_len d]; omega⟩, fun d' e => ?_⟩
  obtain ⟨v, e1, e2⟩ := dpa_get d e
  refine ⟨⟨vs, v, hq, e1⟩, fun x H3 y => ?_⟩
  obtain ⟨rfl, y⟩ := y
  have ex := y vs hq
  rw [e1] at ex
  cases ex
  exact ⟨F2, Same.refl _, e2.up s1, fun r => r⟩
theorem itD_tup {F : Hp} {a : Addr} {vs : List V} {ds : List PyData} (h : SqT K F a vs) (d : DpAll K F vs ds) : ItD K mg (Itt K a) F ds := fun i F2 H2 s1 s2 => by
  have hq : SqT K H2 a vs := sqT_mono (s1.trans s2) h
  refine ⟨fun e => ⟨vs, hq, by rw [dpa_len d]; omega⟩, fun d' e => ?_⟩
  obtain ⟨v, e1, e2⟩ := dpa_get d e
  refine ⟨⟨vs, v, hq, e1⟩, fun x H3 y => ?_⟩
  obtain ⟨rfl, y⟩ := y
  have ex := y vs hq
  rw [e1] at ex
  cases ex
  exact ⟨F2, Same.refl _, e2.up s1, fun r => r⟩
/-- a list, a tuple, a text -/
def signsD (z : Str) : List PyData := z.cps.toList.map fun c => .str ⟨#[c]⟩
def itemsD : PyData → Res (List PyData)
  | .list xs => .ok xs
  | .tuple xs => .ok xs
  | .str z => .ok (signsD z)
  | _ => .no
def mItems (m : ME) : MA := fun δ => match m δ with
  | .ok (d, δ1) => (match itemsD d with
    | .ok xs => .ok (xs, δ1)
    | .err c d => .err c d
    | .no => .no)
  | .err c d => .err c d
  | .no => .no
def iAny (K : PySem.W.Frag) (t : TE) : TI := fun σ H R => iList K t σ H R ∨ (iTup K t σ H R ∨ iStr t σ H R)
theorem itD_str {F : Hp} {z : Str} : ItD K mg (Its z) F (signsD z) := fun i F2 H2 s1 s2 => by
  refine ⟨fun e => ?_, fun d' e => ?_⟩
  · show z.cps.size ≤ i
    rw [e]; unfold signsD; simp
  · unfold signsD at e
    rw [List.getElem?_map] at e
    cases q : z.cps.toList[i]? with
    | none => rw [q] at e; cases e
    | some c =>
      rw [q] at e
      have e' : PyData.str ⟨#[c]⟩ = d' := Option.some.inj e
      subst e'
      have q2 : z.cps[i]? = some c := by rw [← Array.getElem?_toList]; exact q
      refine ⟨?_, fun x H3 y => ?_⟩
      · show i < z.cps.size
        rcases Nat.lt_or_ge i z.cps.size with l | l
        · exact l
        · rw [Array.getElem?_eq_none l] at q2; cases q2
      · obtain ⟨rfl, c', e1, rfl⟩ := y
        rw [q2] at e1
        cases e1
        exact ⟨F2, Same.refl _, .str _, fun r => r⟩
theorem sn_items {t : TE} {m : ME} (h : SndE K mg t m) : SndI K mg (iAny K t) (mItems m) := fun {ρ Fr F δ σ H ds δ'} r e {R} q => by
  unfold mItems at e
  split at e
  · rename_i d δ1 e1
    split at e
    · rename_i xs e2
      cases e
      unfold itemsD at e2
      split at e2
      · cases e2
        refine .inl (h r e1 fun F1 v H1 s1 r1 d1 => ?_)
        cases d1 with
        | lst hs da => exact ⟨_, rfl, ⟨_, sqL_mono r1.sub hs⟩, q F1 _ H1 s1 r1 (itD_list hs da)⟩
      · cases e2
        refine .inr (.inl (h r e1 fun F1 v H1 s1 r1 d1 => ?_))
        cases d1 with
        | tup hs da => exact ⟨_, rfl, ⟨_, sqT_mono r1.sub hs⟩, q F1 _ H1 s1 r1 (itD_tup hs da)⟩
      · cases e2
        refine .inr (.inr (h r e1 fun F1 v H1 s1 r1 d1 => ?_))
        cases d1
        exact ⟨_, rfl, q F1 _ H1 s1 r1 itD_str⟩
      · cases e2
    · cases e
    · cases e
  · cases e
  · cases e
theorem ri_any {tg e : Expr} {t : TE} {m : ME} (h : RE X e t m) : RI X tg e (iAny X.K t) (mItems m) := ⟨pi_or (pi_list h.pe) (pi_or (pi_tup h.pe) (pi_str h.pe)), sn_items h.sn⟩
/-- ranges -/
def rngD (lo : Int) (n : Nat) : List PyData := (List.range n).map fun (i : Nat) => PyData.int (lo + (i : Int))
theorem itD_rng {F : Hp} {lo : Int} {n : Nat} : ItD K mg (Itr lo n) F (rngD lo n) := fun i F2 H2 s1 s2 => by
  refine ⟨fun e => ?_, fun d' e => ?_⟩
  · show n ≤ i
    rw [e]; unfold rngD; simp
  · unfold rngD at e
    rw [List.getElem?_map] at e
    cases q : (List.range n)[i]? with
    | none => rw [q] at e; cases e
    | some c =>
      rw [q] at e
      have e' : PyData.int (lo + c) = d' := Option.some.inj e
      subst e'
      obtain ⟨hl, hc⟩ := List.getElem?_eq_some_iff.mp q
      have hn : i < n := by simpa using hl
      have hi : c = i := by rw [← hc]; simp
      subst hi
      refine ⟨hn, fun x H3 y => ?_⟩
      obtain ⟨rfl, rfl⟩ := y
      exact ⟨F2, Same.refl _, .int _, fun r => r⟩
def rOk (i : Int) : Bool := decide (-(2 ^ 62) ≤ i ∧ i < 2 ^ 62)
def mRng1 (as : MA) : MA := fun δ => match as δ with
  | .ok ([.int j], δ1) => if rOk j then .ok (rngD 0 j.toNat, δ1) else .no
  | .err c d => .err c d
  | _ => .no
def mRng2 (as : MA) : MA := fun δ => match as δ with
  | .ok ([.int i, .int j], δ1) => if rOk i && rOk j then .ok (rngD i (j - i).toNat, δ1) else .no
  | .err c d => .err c d
  | _ => .no
theorem sn_rng1 {t : TA} {as : MA} (h : SndA K mg t as) : SndI K mg (iRng1 t) (mRng1 as) := fun {ρ Fr F δ σ H ds δ'} r e {R} q => by
  unfold mRng1 at e
  split at e
  · split at e
    · rename_i j δ1 e1 hj
      cases e
      refine h r e1 fun F1 vs H1 s1 r1 d1 => ?_
      have hj' := of_decide_eq_true hj
      cases d1 with
      | cons d2 d3 =>
        cases d2; cases d3
        exact ⟨_, rfl, hj'.1, hj'.2, q F1 _ H1 s1 r1 itD_rng⟩
    · cases e
  · cases e
  · cases e
theorem sn_rng2 {t : TA} {as : MA} (h : SndA K mg t as) : SndI K mg (iRng2 t) (mRng2 as) := fun {ρ Fr F δ σ H ds δ'} r e {R} q => by
  unfold mRng2 at e
  split at e
  · split at e
    · rename_i i j δ1 e1 hj
      cases e
      refine h r e1 fun F1 vs H1 s1 r1 d1 => ?_
      rw [Bool.and_eq_true] at hj
      have h1 := of_decide_eq_true hj.1
      have h2 := of_decide_eq_true hj.2
      cases d1 with
      | cons d2 d3 =>
        cases d3 with
        | cons d4 d5 =>
          cases d2; cases d4; cases d5
          exact ⟨_, _, rfl, ⟨h1.1, h1.2, h2.1, h2.2⟩, q F1 _ H1 s1 r1 itD_rng⟩
    · cases e
  · cases e
  · cases e
theorem ri_rng1 {tg a : Expr} {t : TA} {as : MA} {p pos : Pos} (hg : Gl X "range") (hm : X.mg "range" = none) (ha : RA X [a] t as) (hs : starEach [a] X.env = [(false, eval a X.env)] := by rfl) : RI X tg (.Call (.Name "range" p) [a] [] pos) (iRng1 t) (mRng1 as) :=
  ⟨pi_range1 hg hm ha.pa hs, sn_rng1 ha.sn⟩
theorem ri_rng2 {tg a b : Expr} {t : TA} {as : MA} {p pos : Pos} (hg : Gl X "range") (hm : X.mg "range" = none) (ha : RA X [a, b] t as) (hs : starEach [a, b] X.env = [(false, eval a X.env), (false, eval b X.env)] := by rfl) (hs2 : starEach [b] X.env = [(false, eval b X.env)] := by rfl) :
    RI X tg (.Call (.Name "range" p) [a, b] [] pos) (iRng2 t) (mRng2 as) := ⟨pi_range2 hg hm ha.pa hs hs2, sn_rng2 ha.sn⟩
/-- enumerate -/
def seqD : PyData → Res (List PyData)
  | .list xs => .ok xs
  | .tuple xs => .ok xs
  | _ => .no
theorem seqD_ok {F : Hp} {v : V} {d : PyData} {xs : List PyData} (h : Dp K F v d) (e : seqD d = .ok xs) : ∃ k a vs, v = .ref a ∧ SqS K F k a vs ∧ DpAll K F vs xs := by
  unfold seqD at e
  split at e
  · cases e
    cases h with
    | lst hs da => exact ⟨true, _, _, rfl, hs, da⟩
  · cases e
    cases h with
    | tup hs da => exact ⟨false, _, _, rfl, hs, da⟩
  · cases e
theorem sqs_mono {F F' : Hp} {k : Bool} {a : Addr} {xs : List V} (e : Same F F') (h : SqS K F k a xs) : SqS K F' k a xs := by
  cases k with
  | true => exact sqL_mono e h
  | false => exact sqT_mono e h
def enD (xs : List PyData) : List PyData := xs.zipIdx.map fun p => .tuple [.int (p.2 : Nat), p.1]
theorem itD_en {F : Hp} {k : Bool} {a : Addr} {vs : List V} {xs : List PyData} (h : SqS K F k a vs) (da : DpAll K F vs xs) : ItD K mg (ItEn K k a) F (enD xs) := fun i F2 H2 s1 s2 => by
  have hq : SqS K H2 k a vs := sqs_mono (s1.trans s2) h
  refine ⟨fun e => ⟨vs, hq, by rw [dpa_len da, e]; unfold enD; simp⟩, fun d' e => ?_⟩
  unfold enD at e
  rw [List.getElem?_map, List.getElem?_zipIdx] at e
  cases q : xs[i]? with
  | none => rw [q] at e; cases e
  | some d =>
    rw [q] at e
    have e' : PyData.tuple [.int ((0 + i : Nat) : Int), d] = d' := Option.some.inj e
    rw [Nat.zero_add] at e'
    subst e'
    obtain ⟨v, e1, e2⟩ := dpa_get da q
    refine ⟨⟨vs, v, hq, e1⟩, fun x H3 y => ?_⟩
    obtain ⟨T, x', rfl, hT, rfl, y⟩ := y
    have ex := y vs hq
    rw [e1] at ex
    cases ex
    have fT := s2.free hT
    exact ⟨upd F2 T (.tup [.int (i : Nat), v]), same_upd fT, .tup (SqT.of upd_same) (.cons (.int _) (.cons (e2.up (s1.trans (same_upd fT))) .nil)), fun r => r.frz hT⟩
def mEn (as : MA) : MA := fun δ => match as δ with
  | .ok ([d], δ1) => (match seqD d with
    | .ok xs => .ok (enD xs, δ1)
    | .err c d => .err c d
    | .no => .no)
  | .err c d => .err c d
  | _ => .no
theorem sn_en {t : TA} {as : MA} (h : SndA K mg t as) : SndI K mg (iEn K t) (mEn as) := fun {ρ Fr F δ σ H ds δ'} r e {R} q => by
  unfold mEn at e
  split at e
  · split at e
    · rename_i d δ1 e1 _ xs e2
      cases e
      refine h r e1 fun F1 vs H1 s1 r1 d1 => ?_
      cases d1 with
      | cons d2 d3 =>
        cases d3
        obtain ⟨k, a, ws, rfl, sq, da⟩ := seqD_ok d2 e2
        exact ⟨k, a, ws, rfl, sqs_mono r1.sub sq, q F1 _ H1 s1 r1 (itD_en sq da)⟩
    · cases e
    · cases e
  · cases e
  · cases e
theorem ri_en {elts : List Expr} {kk : Nat} {tpos p pos : Pos} {a : Expr} {t : TA} {as : MA} (hg : Gl X "enumerate") (hm : X.mg "enumerate" = none) (ha : RA X [a] t as) (hs : starEach [a] X.env = [(false, eval a X.env)] := by rfl) :
    RI X (.Tuple elts kk tpos) (.Call (.Name "enumerate" p) [a] [] pos) (iEn X.K t) (mEn as) := ⟨pi_en hg hm ha.pa hs, sn_en ha.sn⟩
/-- zip -/
def zpD (xs ys : List PyData) : List PyData := List.zipWith (fun x y => .tuple [x, y]) xs ys
theorem itD_zp {F : Hp} {st k1 k2 : Bool} {a b : Addr} {vs ws : List V} {xs ys : List PyData} (h1 : SqS K F k1 a vs) (d1 : DpAll K F vs xs) (h2 : SqS K F k2 b ws) (d2 : DpAll K F ws ys) (hl : st = true → xs.length = ys.length) : ItD K mg (ItZp K st k1 k2 a b) F (zpD xs ys) := fun i F2 H2 s1 s2 => by
  have q1 : SqS K H2 k1 a vs := sqs_mono (s1.trans s2) h1
  have q2 : SqS K H2 k2 b ws := sqs_mono (s1.trans s2) h2
  have hl' : st = true → vs.length = ws.length := fun e => by rw [dpa_len d1, dpa_len d2]; exact hl e
  refine ⟨fun e => ⟨vs, ws, q1, q2, by rw [dpa_len d1, dpa_len d2, e]; unfold zpD; simp, hl'⟩, fun d' e => ?_⟩
  unfold zpD at e
  rw [List.getElem?_zipWith] at e
  cases g1 : xs[i]? with
  | none => rw [g1] at e; cases e
  | some x =>
    cases g2 : ys[i]? with
    | none => rw [g1, g2] at e; cases e
    | some y =>
      rw [g1, g2] at e
      have e' : PyData.tuple [x, y] = d' := Option.some.inj e
      subst e'
      obtain ⟨v, e1, e2⟩ := dpa_get d1 g1
      obtain ⟨w, e3, e4⟩ := dpa_get d2 g2
      refine ⟨⟨vs, ws, v, w, q1, q2, e1, e3, hl'⟩, fun z H3 yy => ?_⟩
      obtain ⟨T, x', y', rfl, hT, rfl, z1, z2⟩ := yy
      have c1 := z1 vs q1
      have c2 := z2 ws q2
      rw [e1] at c1; rw [e3] at c2
      cases c1; cases c2
      have fT := s2.free hT
      have su := s1.trans (same_upd (o := .tup [v, w]) fT)
      exact ⟨upd F2 T (.tup [v, w]), same_upd fT, .tup (SqT.of upd_same) (.cons (e2.up su) (.cons (e4.up su) .nil)), fun r => r.frz hT⟩
def mZp (st : Bool) (as : MA) : MA := fun δ => match as δ with
  | .ok ([c, d], δ1) => (match seqD c with
    | .ok xs => (match seqD d with
      | .ok ys => if (!st || xs.length == ys.length) = true then .ok (zpD xs ys, δ1) else .no
      | .err c d => .err c d
      | .no => .no)
    | .err c d => .err c d
    | .no => .no)
  | .err c d => .err c d
  | _ => .no
theorem sn_zp {st : Bool} {t : TA} {as : MA} (h : SndA K mg t as) : SndI K mg (iZp K st t) (mZp st as) := fun {ρ Fr F δ σ H ds δ'} r e {R} q => by
  unfold mZp at e
  split at e
  · rename_i c d δ1 e1
    split at e
    · rename_i xs e2
      split at e
      · rename_i ys e3
        split at e
        · rename_i hl
          cases e
          refine h r e1 fun F1 vs H1 s1 r1 d1 => ?_
          cases d1 with
          | cons d2 d3 =>
            cases d3 with
            | cons d4 d5 =>
              cases d5
              obtain ⟨k1, a, ws1, rfl, sq1, da1⟩ := seqD_ok d2 e2
              obtain ⟨k2, b, ws2, rfl, sq2, da2⟩ := seqD_ok d4 e3
              refine ⟨k1, k2, a, b, ws1, ws2, rfl, sqs_mono r1.sub sq1, sqs_mono r1.sub sq2, q F1 _ H1 s1 r1 (itD_zp sq1 da1 sq2 da2 fun es => ?_)⟩
              subst es
              simpa using hl
        · cases e
      · cases e
      · cases e
    · cases e
    · cases e
  · cases e
  · cases e
theorem ri_zp {elts : List Expr} {kk : Nat} {tpos p pos : Pos} {a b : Expr} {t : TA} {as : MA} (hg : Gl X "zip") (hm : X.mg "zip" = none) (ha : RA X [a, b] t as)
    (hs : starEach [a, b] X.env = (false, eval a X.env) :: starEach [b] X.env := by rfl) (hpl : (backTo pos (starEach [b] X.env)).any (·.1) = false := by rfl) :
    RI X (.Tuple elts kk tpos) (.Call (.Name "zip" p) [a, b] [] pos) (iZp X.K false t) (mZp false as) := ⟨pi_zp hg hm ha.pa hs hpl, sn_zp ha.sn⟩
theorem ri_zpS {elts : List Expr} {kk j : Nat} {tpos p pos kp cp : Pos} {a b : Expr} {t : TA} {as : MA} (hg : Gl X "zip") (hm : X.mg "zip" = none) (ha : RA X [a, b] t as)
    (he : backTo pos (starEach [a, b] X.env) = (false, eval a X.env) :: backTo pos (starEach [b] X.env) := by rfl) (hpl : (backTo pos (starEach [a, b] X.env)).any (·.1) = false := by rfl) :
    RI X (.Tuple elts kk tpos) (.Call (.Name "zip" p) [a, b] [⟨some "strict", .Constant (.bool true) j cp, kp⟩] pos) (iZp X.K true t) (mZp true as) := ⟨pi_zpS hg hm ha.pa he hpl, sn_zp ha.sn⟩

/-! targets -/
def gSet (i : Nat) (d : PyData) : Ev → Res Ev := fun δ => if i < δ.length then .ok (δ.set i (.val d)) else .no
theorem sn_gname (i : Nat) : SndG K mg (gName i) (gSet i) [i] := fun {ρ Fr F δ σ H x d δ'} r hd e {Q} q => by
  unfold gSet at e
  split at e
  · rename_i hi
    cases e
    refine q F _ H (Same.refl _) ((r.tval hd).set hi) (fun k hk => ?_) (by simp)
    rw [List.getElem?_set_ne (fun z => hk (by simp [z]))]
  · cases e
theorem rg_name (i : Nat) {x : Str} {pos : Pos} (hN : X.N.Nodup) (hi : X.N[i]? = some x := by rfl) (hx : Loc X.env.scope x := by first | exact .inl rfl | exact .inr rfl) (hf : X.fn x = true ∨ X.env.scope.names.lookup x = some .local := by first | exact .inl rfl | exact .inr rfl) : RG X (.Name x pos) (gName i) (gSet i) [i] :=
  ⟨pg_name hN hi hx hf, sn_gname i⟩
/-- several names -/
structure RGs (X : Cx) (ts : List Expr) (g : TGs) (f : List PyData → Ev → Res Ev) (js : List Nat) : Prop where
  pg : PGs X ts g
  sn : ∀ {ρ : Nat → Addr} {Fr F : Hp} {δ : Ev} {σ : L2.St} {H : Hp} {xs : List V} {ds : List PyData} {δ' : Ev}, Rel X.K X.mg ρ Fr F δ σ H → DpAll X.K F xs ds → f ds δ = .ok δ' →
    ∀ {Q : L2.St → Hp → Prop}, (∀ F' σ' H', Same F F' → Rel X.K X.mg ρ Fr F' δ' σ' H' → (∀ k, k ∉ js → σ'[k]? = σ[k]?) → σ'.length = σ.length → Q σ' H') → g xs σ H Q
def gsNil : List PyData → Ev → Res Ev
  | [], δ => .ok δ
  | _, _ => .no
def gsCons (f : PyData → Ev → Res Ev) (g : List PyData → Ev → Res Ev) : List PyData → Ev → Res Ev
  | d :: ds, δ => (match f d δ with
    | .ok δ1 => g ds δ1
    | .err c d => .err c d
    | .no => .no)
  | [], _ => .no
theorem rgs_nil : RGs X [] gNil gsNil [] := ⟨pgs_nil, fun {ρ Fr F δ σ H xs ds δ'} r hd e {Q} q => by
  unfold gsNil at e
  split at e
  · cases e; cases hd
    exact ⟨rfl, q F σ H (Same.refl _) r (fun _ _ => rfl) rfl⟩
  · cases e⟩
theorem rgs_cons {t : Expr} {ts : List Expr} {g : TG} {gs : TGs} {f : PyData → Ev → Res Ev} {fs : List PyData → Ev → Res Ev} {js ks : List Nat} (h : RG X t g f js) (hs : RGs X ts gs fs ks)
    (hp : (assignEach (t :: ts) X.env).map (·.2) = assign t X.env :: (assignEach ts X.env).map (·.2) := by rfl) : RGs X (t :: ts) (gCons g gs) (gsCons f fs) (js ++ ks) := ⟨pgs_cons h.pg hs.pg hp, fun {ρ Fr F δ σ H xs ds δ'} r hd e {Q} q => by
  cases ds with
  | nil => cases e
  | cons d ds =>
    have e' : (match f d δ with | .ok δ1 => fs ds δ1 | .err c d => .err c d | .no => .no) = Res.ok δ' := e
    clear e
    split at e'
    · rename_i δ1 e1
      cases hd with
      | cons h1 h2 =>
        refine ⟨_, _, rfl, h.sn r h1 e1 fun F1 σ1 H1 s1 r1 k1 l1 => ?_⟩
        refine hs.sn r1 (h2.up s1) e' fun F2 σ2 H2 s2 r2 k2 l2 => q F2 σ2 H2 (s1.trans s2) r2 (fun k hk => ?_) (l2.trans l1)
        exact (k2 k (fun z => hk (List.mem_append_right _ z))).trans (k1 k (fun z => hk (List.mem_append_left _ z)))
    · cases e'
    · cases e'⟩
end
end CW

namespace CW
open PySem PySem.Spec PyProof.Rows L2

/-! statements -/
section
variable (K : PySem.W.Frag) (mg : Str → Option Value)
def EndS (ρ : Nat → Addr) (Fr F : Hp) (D : Ends) (δ' : Ev) : Ctl → Prop
  | .nx => ∀ F' σ' H', Same F F' → Rel K mg ρ Fr F' δ' σ' H' → D.nx σ' H'
  | .bk => ∀ F' σ' H', Same F F' → Rel K mg ρ Fr F' δ' σ' H' → D.bk σ' H'
  | .ct => ∀ F' σ' H', Same F F' → Rel K mg ρ Fr F' δ' σ' H' → D.ct σ' H'
  | .rt s => ∀ F' v σ' H', Same F F' → Rel K mg ρ Fr F' (s :: δ') (some v :: σ') H' → D.rt v H'
def SndS (t : TS) (m : MS) : Prop := ∀ {ρ : Nat → Addr} {Fr F : Hp} {δ : Ev} {σ : L2.St} {H : Hp} {c : Ctl} {δ' : Ev}, Rel K mg ρ Fr F δ σ H → m δ = .ok (c, δ') →
  ∀ {D : Ends}, EndS K mg ρ Fr F D δ' c → t D σ H
theorem EndS.up {K : PySem.W.Frag} {mg : Str → Option Value} {ρ : Nat → Addr} {Fr F F1 : Hp} {D : Ends} {δ' : Ev} {c : Ctl} (h : EndS K mg ρ Fr F D δ' c) (e : Same F F1) : EndS K mg ρ Fr F1 D δ' c := by
  cases c with
  | nx => exact fun F' σ' H' s r => h F' σ' H' (e.trans s) r
  | bk => exact fun F' σ' H' s r => h F' σ' H' (e.trans s) r
  | ct => exact fun F' σ' H' s r => h F' σ' H' (e.trans s) r
  | rt x => exact fun F' v σ' H' s r => h F' v σ' H' (e.trans s) r
end
structure RS (X : Cx) (st : Stmt) (t : TS) (m : MS) : Prop where
  ps : PS X st t
  sn : SndS X.K X.mg t m
structure RB (X : Cx) (st : List Stmt) (t : TS) (m : MS) : Prop where
  pss : PSs X st t
  sn : SndS X.K X.mg t m

section
variable {X : Cx} {K : PySem.W.Frag} {mg : Str → Option Value}
def mNext : MS := fun δ => .ok (.nx, δ)
theorem sn_next : SndS K mg tNext mNext := fun {ρ Fr F δ σ H c δ'} r e {D} q => by
  cases e
  exact q F σ H (Same.refl _) r
theorem rb_nil : RB X [] tNext mNext := ⟨pss_nil, sn_next⟩
theorem rs_pass {pos : Pos} : RS X (.Pass pos) tNext mNext := ⟨ps_pass, sn_next⟩
theorem rs_doc {x j pos pos'} : RS X (.Expr (.Constant (.str x) j pos) pos') tNext mNext := ⟨ps_doc, sn_next⟩
def mBreak : MS := fun δ => .ok (.bk, δ)
def mCont : MS := fun δ => .ok (.ct, δ)
theorem rs_break {pos : Pos} : RS X (.Break pos) tBreak mBreak := ⟨ps_break, fun {ρ Fr F δ σ H c δ'} r e {D} q => by cases e; exact q F σ H (Same.refl _) r⟩
theorem rs_continue {pos : Pos} : RS X (.Continue pos) tCont mCont := ⟨ps_continue, fun {ρ Fr F δ σ H c δ'} r e {D} q => by cases e; exact q F σ H (Same.refl _) r⟩
def mSeq (a b : MS) : MS := fun δ => match a δ with
  | .ok (.nx, δ1) => b δ1
  | .ok (.bk, δ1) => .ok (.bk, δ1)
  | .ok (.ct, δ1) => .ok (.ct, δ1)
  | .ok (.rt s, δ1) => .ok (.rt s, δ1)
  | .err c d => .err c d
  | .no => .no
theorem sn_seq {t u : TS} {a b : MS} (ha : SndS K mg t a) (hb : SndS K mg u b) : SndS K mg (tSeq t u) (mSeq a b) := fun {ρ Fr F δ σ H c δ'} r e {D} q => by
  unfold mSeq at e
  split at e
  · rename_i δ1 e1
    exact ha r e1 (D := { D with nx := u D }) fun F1 σ1 H1 s1 r1 => hb r1 e (q.up s1)
  · rename_i δ1 e1
    cases e
    exact ha r e1 (D := { D with nx := u D }) fun F1 σ1 H1 s1 r1 => q F1 σ1 H1 s1 r1
  · rename_i δ1 e1
    cases e
    exact ha r e1 (D := { D with nx := u D }) fun F1 σ1 H1 s1 r1 => q F1 σ1 H1 s1 r1
  · rename_i s δ1 e1
    cases e
    exact ha r e1 (D := { D with nx := u D }) fun F1 v σ1 H1 s1 r1 => q F1 v σ1 H1 s1 r1
  · cases e
  · cases e
theorem rb_cons {st : Stmt} {rest : List Stmt} {t u : TS} {a b : MS} (ha : RS X st t a) (hb : RB X rest u b) : RB X (st :: rest) (tSeq t u) (mSeq a b) := ⟨pss_cons ha.ps hb.pss, sn_seq ha.sn hb.sn⟩
theorem rb_one {st : Stmt} {t : TS} {a : MS} (ha : RS X st t a) : RB X [st] t a := ⟨pss_one ha.ps, ha.sn⟩
/-- a part that raises: nothing is promised -/
def mNever : MS := fun _ => .no
def mRaise (c : Str) (m : ME) : MS := fun δ => match m δ with
  | .ok (d, _) => .err c d
  | .err c d => .err c d
  | .no => .no
theorem rs_never {st : Stmt} : RS X st tNever mNever := ⟨ps_never, fun {ρ Fr F δ σ H c δ'} r e => by cases e⟩
theorem rs_raise {st : Stmt} (c : Str) (m : ME) : RS X st tNever (mRaise c m) := ⟨ps_never, fun {ρ Fr F δ σ H c δ'} r e => by
  unfold mRaise at e
  split at e <;> cases e⟩
theorem rb_never {sts : List Stmt} : RB X sts tNever mNever := ⟨pss_never, fun {ρ Fr F δ σ H c δ'} r e => by cases e⟩

/-! return, expression statements, if -/
def mRet (m : MN) : MS := fun δ => match m δ with
  | .ok (s, δ1) => .ok (.rt s, δ1)
  | .err c d => .err c d
  | .no => .no
theorem sn_ret {t : TE} {m : MN} (h : SndN K mg t m) : SndS K mg (tRet t) (mRet m) := fun {ρ Fr F δ σ H c δ'} r e {D} q => by
  unfold mRet at e
  split at e
  · cases e
    rename_i s δ1 e1
    exact h r e1 fun F1 v H1 s1 r1 => q F1 v σ H1 s1 r1
  · cases e
  · cases e
theorem rs_ret {e : Expr} {t : TE} {m : MN} {pos : Pos} (h : RN X e t m) : RS X (.Return (some e) pos) (tRet t) (mRet m) := ⟨ps_ret h.pe, sn_ret h.sn⟩
theorem rs_retV {e : Expr} {t : TE} {m : ME} {pos : Pos} (h : RE X e t m) : RS X (.Return (some e) pos) (tRet t) (mRet (mVal m)) := rs_ret (rn_val h)
def mRetN : MS := fun δ => .ok (.rt (.val .none), δ)
theorem rs_retN {pos : Pos} : RS X (.Return none pos) tRetN mRetN := ⟨ps_retN, fun {ρ Fr F δ σ H c δ'} r e {D} q => by
  cases e
  exact q F .non σ H (Same.refl _) (r.tval .non)⟩
def mDrop (m : MN) : MS := fun δ => match m δ with
  | .ok (_, δ1) => .ok (.nx, δ1)
  | .err c d => .err c d
  | .no => .no
theorem sn_drop {t : TE} {m : MN} (h : SndN K mg t m) : SndS K mg (tDrop t) (mDrop m) := fun {ρ Fr F δ σ H c δ'} r e {D} q => by
  unfold mDrop at e
  split at e
  · cases e
    rename_i s δ1 e1
    exact h r e1 fun F1 v H1 s1 r1 => q F1 σ H1 s1 r1.tail
  · cases e
  · cases e
theorem rs_expr {e : Expr} {t : TE} {m : MN} {pos : Pos} (h : RN X e t m) (hs : swapsWith e none pos.line X.env = pure false := by rfl) : RS X (.Expr e pos) (tDrop t) (mDrop m) := ⟨ps_expr h.pe hs, sn_drop h.sn⟩
def mIfS (c : MT) (a b : MS) : MS := fun δ => match c δ with
  | .ok (true, δ1) => a δ1
  | .ok (false, δ1) => b δ1
  | .err c d => .err c d
  | .no => .no
theorem sn_ifS {tc : TT} {t u : TS} {c : MT} {a b : MS} (hc : SndT K mg tc c) (ha : SndS K mg t a) (hb : SndS K mg u b) : SndS K mg (tIfS tc t u) (mIfS c a b) := fun {ρ Fr F δ σ H cc δ'} r e {D} q => by
  unfold mIfS at e
  split at e
  · rename_i δ1 e1
    exact hc r e1 fun F1 H1 s1 r1 => iteT (ha r1 e (q.up s1))
  · rename_i δ1 e1
    exact hc r e1 fun F1 H1 s1 r1 => iteF (hb r1 e (q.up s1))
  · cases e
  · cases e
theorem rs_if {c : Expr} {a b : List Stmt} {tc : TT} {t u : TS} {mc : MT} {ma mb : MS} {pos : Pos} (hc : RT X c tc mc) (ha : RB X a t ma) (hb : RB X b u mb) : RS X (.If c a b pos) (tIfS tc t u) (mIfS mc ma mb) := ⟨ps_if hc.pt ha.pss hb.pss, sn_ifS hc.sn ha.sn hb.sn⟩

/-! assignments -/
def mSet (i : Nat) (m : MN) : MS := fun δ => match m δ with
  | .ok (s, δ1) => if i < δ1.length then .ok (.nx, δ1.set i s) else .no
  | .err c d => .err c d
  | .no => .no
theorem sn_set {t : TE} {m : MN} (i : Nat) (h : SndN K mg t m) : SndS K mg (tAsg t (gName i)) (mSet i m) := fun {ρ Fr F δ σ H c δ'} r e {D} q => by
  unfold mSet at e
  split at e
  · split at e
    · rename_i s δ1 e1 hi
      cases e
      exact h r e1 fun F1 v H1 s1 r1 => q F1 _ H1 s1 (r1.set hi)
    · cases e
  · cases e
  · cases e
theorem rs_set (i : Nat) {x : Str} {e : Expr} {t : TE} {m : MN} {pos pos' : Pos} (hN : X.N.Nodup) (h : RN X e t m) (hi : X.N[i]? = some x := by rfl) (hx : Loc X.env.scope x := by first | exact .inl rfl | exact .inr rfl) (hs : swapsWith e (some (.Name x pos')) pos.line X.env = pure false := by rfl)
    (hf : X.fn x = true ∨ X.env.scope.names.lookup x = some .local := by first | exact .inl rfl | exact .inr rfl) : RS X (.Assign [.Name x pos'] e pos) (tAsg t (gName i)) (mSet i m) := ⟨ps_set hN hi hx h.pe hs hf, sn_set i h.sn⟩
def mAsg (m : ME) (g : PyData → Ev → Res Ev) : MS := fun δ => match m δ with
  | .ok (d, δ1) => (match g d δ1 with
    | .ok δ2 => .ok (.nx, δ2)
    | .err c d => .err c d
    | .no => .no)
  | .err c d => .err c d
  | .no => .no
theorem sn_asg {t : TE} {m : ME} {g : TG} {f} {js : List Nat} (h : SndE K mg t m) (hg : SndG K mg g f js) : SndS K mg (tAsg t g) (mAsg m f) := fun {ρ Fr F δ σ H c δ'} r e {D} q => by
  unfold mAsg at e
  split at e
  · split at e
    · rename_i d δ1 e1 _ δ2 e2
      cases e
      exact h r e1 fun F1 v H1 s1 r1 d1 => hg r1 d1 e2 fun F2 σ2 H2 s2 r2 _ _ => q F2 σ2 H2 (s1.trans s2) r2
    · cases e
    · cases e
  · cases e
  · cases e
theorem rs_asg {tg e : Expr} {t : TE} {m : ME} {g : TG} {f} {js : List Nat} {pos : Pos} (h : RE X e t m) (hg : RG X tg g f js) (hs : swapsWithSole [tg] e pos.line X.env = pure false := by rfl) (hw : swappedStores [tg] e X.env = pure none := by rfl)
    (h1 : (assignEach [tg] X.env).map (·.2) = [assign tg X.env] := by rfl) : RS X (.Assign [tg] e pos) (tAsg t g) (mAsg m f) := ⟨ps_asg h.pe hg.pg hs hw h1, sn_asg h.sn hg.sn⟩
/-- a tuple of targets -/
def gsTup (n : Nat) (fs : List PyData → Ev → Res Ev) : PyData → Ev → Res Ev
  | .tuple ds, δ => if ds.length = n then fs ds δ else .no
  | .list ds, δ => if ds.length = n then fs ds δ else .no
  | _, _ => .no
def gTupA (K : PySem.W.Frag) (n : Nat) (t : TGs) : TG := fun v σ H Q => gTup K n t v σ H Q ∨ gLst K n t v σ H Q
theorem rg_tup {es : List Expr} {k : Nat} {t : TGs} {n : Nat} {fs} {js : List Nat} {pos : Pos} (hc : X.calm = true) (h : RGs X es t fs js) (hn : (assignEach es X.env).length = n := by rfl) (hst : (assignEach es X.env).findIdx? (·.1) = none := by rfl) :
    RG X (.Tuple es k pos) (gTupA X.K n t) (gsTup n fs) js := ⟨⟨fun pins s σ H v u Q I r hw => hw.elim (fun hw => (pg_tup hc h.pg hn hst).run pins s σ H v u Q I r hw) (fun hw => (pg_lst hc h.pg hn hst).run pins s σ H v u Q I r hw)⟩, fun {ρ Fr F δ σ H x d δ'} r hd e {Q} q => by
  unfold gsTup at e
  split at e
  · split at e
    · rename_i hl
      cases hd with
      | tup hs da => exact .inl ⟨_, _, rfl, sqT_mono r.sub hs, (dpa_len da).trans hl, h.sn r da e q⟩
    · cases e
  · split at e
    · rename_i hl
      cases hd with
      | lst hs da => exact .inr ⟨_, _, rfl, sqL_mono r.sub hs, (dpa_len da).trans hl, h.sn r da e q⟩
    · cases e
  · cases e⟩
/-- a, b = .., .. at one go -/
def mPar (i j : Nat) (as : MA) : MS := fun δ => match as δ with
  | .ok ([a, b], δ1) => if i < δ1.length ∧ j < δ1.length then .ok (.nx, (δ1.set i (.val a)).set j (.val b)) else .no
  | .err c d => .err c d
  | _ => .no
theorem sn_par {i j : Nat} {t : TA} {as : MA} (h : SndA K mg t as) : SndS K mg (tPar i j t) (mPar i j as) := fun {ρ Fr F δ σ H c δ'} r e {D} q => by
  unfold mPar at e
  split at e
  · split at e
    · rename_i a b δ1 e1 hi
      cases e
      refine h r e1 fun F1 vs H1 s1 r1 d1 => ?_
      cases d1 with
      | cons d2 d3 =>
        cases d3 with
        | cons d4 d5 =>
          cases d5
          exact ⟨_, _, rfl, q F1 _ H1 s1 ((((r1.tval d2).set hi.1).tval d4).set (by rw [List.length_set]; exact hi.2))⟩
    · cases e
  · cases e
  · cases e
theorem rs_par (i j : Nat) {x y : Str} {a b : Expr} {ta : TA} {ma : MA} {px py pt pos : Pos} {kt k2 pt2} (hc : X.calm = true) (hN : X.N.Nodup) (ha : RA X [a, b] ta ma) (hi : X.N[i]? = some x := by rfl) (hj : X.N[j]? = some y := by rfl) (hij : i ≠ j := by decide)
    (hx : X.env.scope.names.lookup x = some .local := by rfl) (hy : X.env.scope.names.lookup y = some .local := by rfl)
    (hw : swappedStores [.Tuple [.Name x px, .Name y py] kt pt] (.Tuple [a, b] k2 pt2) X.env = pure (some [x, y]) := by rfl)
    (hs : swapsWithSole [.Tuple [.Name x px, .Name y py] kt pt] (.Tuple [a, b] k2 pt2) pos.line X.env = pure false := by rfl) :
    RS X (.Assign [.Tuple [.Name x px, .Name y py] kt pt] (.Tuple [a, b] k2 pt2) pos) (tPar i j ta) (mPar i j ma) := ⟨ps_par hc hN hi hj hij hx hy ha.pa hw hs, sn_par ha.sn⟩
def mPar3 (i j l : Nat) (as : MA) : MS := fun δ => match as δ with
  | .ok ([a, b, c], δ1) => if i < δ1.length ∧ j < δ1.length ∧ l < δ1.length then .ok (.nx, ((δ1.set i (.val a)).set j (.val b)).set l (.val c)) else .no
  | .err c d => .err c d
  | _ => .no
theorem sn_par3 {i j l : Nat} {t : TA} {as : MA} (h : SndA K mg t as) : SndS K mg (tPar3 i j l t) (mPar3 i j l as) := fun {ρ Fr F δ σ H c δ'} r e {D} q => by
  unfold mPar3 at e
  split at e
  · split at e
    · rename_i a b c δ1 e1 hi
      cases e
      refine h r e1 fun F1 vs H1 s1 r1 d1 => ?_
      cases d1 with
      | cons d2 d3 =>
        cases d3 with
        | cons d4 d5 =>
          cases d5 with
          | cons d6 d7 =>
            cases d7
            exact ⟨_, _, _, rfl, q F1 _ H1 s1 ((((((r1.tval d2).set hi.1).tval d4).set (by rw [List.length_set]; exact hi.2.1)).tval d6).set (by rw [List.length_set, List.length_set]; exact hi.2.2))⟩
    · cases e
  · cases e
  · cases e
theorem rs_par3 (i j l : Nat) {x y z : Str} {a b c : Expr} {ta : TA} {ma : MA} {px py pz pt pos : Pos} {kt k2 pt2} (hc : X.calm = true) (hN : X.N.Nodup) (ha : RA X [a, b, c] ta ma) (hi : X.N[i]? = some x := by rfl) (hj : X.N[j]? = some y := by rfl) (hl : X.N[l]? = some z := by rfl) (hij : i ≠ j := by decide) (hil : i ≠ l := by decide) (hjl : j ≠ l := by decide)
    (hx : X.env.scope.names.lookup x = some .local := by rfl) (hy : X.env.scope.names.lookup y = some .local := by rfl) (hz : X.env.scope.names.lookup z = some .local := by rfl)
    (hw : swappedStores [.Tuple [.Name x px, .Name y py, .Name z pz] kt pt] (.Tuple [a, b, c] k2 pt2) X.env = pure (some [x, y, z]) := by rfl)
    (hs : swapsWithSole [.Tuple [.Name x px, .Name y py, .Name z pz] kt pt] (.Tuple [a, b, c] k2 pt2) pos.line X.env = pure false := by rfl) :
    RS X (.Assign [.Tuple [.Name x px, .Name y py, .Name z pz] kt pt] (.Tuple [a, b, c] k2 pt2) pos) (tPar3 i j l ta) (mPar3 i j l ma) := ⟨ps_par3 hc hN hi hj hl hij hil hjl hx hy hz ha.pa hw hs, sn_par3 ha.sn⟩

/-! for -/
def forL (g : PyData → Ev → Res Ev) (b : MS) : List PyData → MS
  | [], δ => .ok (.nx, δ)
  | d :: ds, δ => match g d δ with
    | .ok δ1 => (match b δ1 with
      | .ok (.nx, δ2) => forL g b ds δ2
      | .ok (.ct, δ2) => forL g b ds δ2
      | .ok (.bk, δ2) => .ok (.nx, δ2)
      | .ok (.rt s, δ2) => .ok (.rt s, δ2)
      | .err c d => .err c d
      | .no => .no)
    | .err c d => .err c d
    | .no => .no
def mFor (mi : MA) (g : PyData → Ev → Res Ev) (b : MS) : MS := fun δ => match mi δ with
  | .ok (ds, δ1) => forL g b ds δ1
  | .err c d => .err c d
  | .no => .no
theorem sn_for {wi : TI} {g : TG} {tb : TS} {mi : MA} {f} {b : MS} {js : List Nat} (hi : SndI K mg wi mi) (hg : SndG K mg g f js) (hb : SndS K mg tb b) : SndS K mg (tFor wi g tb) (mFor mi f b) := fun {ρ Fr F δ σ H c δ'} r e {D} q => by
  unfold mFor at e
  split at e
  · rename_i ds δ1 e1
    refine hi r e1 fun F1 J H1 s1 r1 it => ?_
    refine ⟨fun i m σ' H' => ∃ F2 δ2, Same F1 F2 ∧ Rel K mg ρ Fr F2 δ2 σ' H' ∧ i + m = ds.length ∧ forL f b (ds.drop i) δ2 = .ok (c, δ'), ⟨ds.length, F1, δ1, Same.refl _, r1, Nat.zero_add _, e⟩, ?_⟩
    rintro i m σ' H' ⟨F2, δ2, s2, r2, hm, e2⟩
    have it' := it i F2 H' s2 r2.sub
    cases q2 : ds[i]? with
    | none =>
      have hl : ds.length ≤ i := List.getElem?_eq_none_iff.mp q2
      have hi : i = ds.length := by omega
      rw [List.drop_eq_nil_of_le hl] at e2
      cases e2
      exact .inl ⟨it'.1 hi, q F2 σ' H' (s1.trans s2) r2⟩
    | some d =>
      obtain ⟨hl, hd⟩ := List.getElem?_eq_some_iff.mp q2
      rw [List.drop_eq_getElem_cons hl, hd] at e2
      obtain ⟨go, yl⟩ := it'.2 d q2
      refine .inr ⟨go, fun σ' H' => ∃ F2 δ2, Same F1 F2 ∧ Rel K mg ρ Fr F2 δ2 σ' H' ∧ forL f b (ds.drop (i + 1)) δ2 = .ok (c, δ'), ?_, ?_⟩
      · rintro σ3 H3 ⟨F3, δ3, s3, r3, e3⟩
        exact ⟨m - 1, by omega, F3, δ3, s3, r3, by omega, e3⟩
      · intro x H3 y
        obtain ⟨F3, s3, dx, up⟩ := yl x H3 y
        have r3 := up r2
        unfold forL at e2
        split at e2
        · rename_i δ4 e4
          refine hg r3 dx e4 fun F4 σ4 H4 s4 r4 _ _ => ?_
          split at e2
          · rename_i δ5 e5
            exact hb r4 e5 fun F5 σ5 H5 s5 r5 => ⟨F5, δ5, ((s2.trans s3).trans s4).trans s5, r5, e2⟩
          · rename_i δ5 e5
            exact hb r4 e5 fun F5 σ5 H5 s5 r5 => ⟨F5, δ5, ((s2.trans s3).trans s4).trans s5, r5, e2⟩
          · rename_i δ5 e5
            cases e2
            exact hb r4 e5 fun F5 σ5 H5 s5 r5 => q F5 σ5 H5 (s1.trans (((s2.trans s3).trans s4).trans s5)) r5
          · rename_i s δ5 e5
            cases e2
            exact hb r4 e5 fun F5 v σ5 H5 s5 r5 => q F5 v σ5 H5 (s1.trans (((s2.trans s3).trans s4).trans s5)) r5
          · cases e2
          · cases e2
        · cases e2
        · cases e2
  · cases e
  · cases e
theorem rs_for {tg iter : Expr} {body : List Stmt} {wi : TI} {g : TG} {tb : TS} {mi : MA} {f} {b : MS} {js : List Nat} {pos : Pos} (hp : PassesOwn (model X.prog X.w) X.A X.env X.xe) (hc : X.calm = true) (hi : RI X tg iter wi mi) (hg : RG X tg g f js) (hb : RB X body tb b)
    (hs : ∀ x, foldedSetIterable iter X.env x = pure x := by intro _; rfl) : RS X (.For tg iter body [] pos) (tFor wi g tb) (mFor mi f b) := ⟨ps_for hp hc hi.pi hg.pg hb.pss hs, sn_for hi.sn hg.sn hb.sn⟩

/-! while -/
def whN (c : MT) (b : MS) : Nat → MS
  | 0, _ => .no
  | n + 1, δ => match c δ with
    | .ok (true, δ1) => (match b δ1 with
      | .ok (.nx, δ2) => whN c b n δ2
      | .ok (.ct, δ2) => whN c b n δ2
      | .ok (.bk, δ2) => .ok (.nx, δ2)
      | .ok (.rt s, δ2) => .ok (.rt s, δ2)
      | .err c d => .err c d
      | .no => .no)
    | .ok (false, δ1) => .ok (.nx, δ1)
    | .err c d => .err c d
    | .no => .no
open Classical in
noncomputable def mWhile (c : MT) (b : MS) : MS := fun δ => if h : ∃ p : Nat × Ctl × Ev, whN c b p.1 δ = .ok p.2 then .ok h.choose.2 else .no
theorem whN_up (c : MT) (b : MS) : ∀ (n : Nat) {δ : Ev} {r : Ctl × Ev}, whN c b n δ = .ok r → ∀ m, n ≤ m → whN c b m δ = .ok r
  | 0, _, _, e, _, _ => by cases e
  | n + 1, δ, r, e, 0, h => by omega
  | n + 1, δ, r, e, m + 1, h => by
    unfold whN at e ⊢
    split at e
    · rename_i δ1 e1
      split at e
      · rename_i δ2 e2
        exact whN_up c b n e m (by omega)
      · rename_i δ2 e2
        exact whN_up c b n e m (by omega)
      · exact e
      · exact e
      · cases e
      · cases e
    · exact e
    · cases e
    · cases e
theorem mWhile_of {c : MT} {b : MS} {n : Nat} {δ : Ev} {r : Ctl × Ev} (h : whN c b n δ = .ok r) : mWhile c b δ = .ok r := by
  unfold mWhile
  have ex : ∃ p : Nat × Ctl × Ev, whN c b p.1 δ = .ok p.2 := ⟨(n, r), h⟩
  rw [dif_pos ex]
  have h2 := ex.choose_spec
  have a := whN_up c b n h (max n ex.choose.1) (Nat.le_max_left _ _)
  have b' := whN_up c b _ h2 (max n ex.choose.1) (Nat.le_max_right _ _)
  rw [a] at b'
  exact b'.symm
theorem mWhile_inv {c : MT} {b : MS} {δ : Ev} {r : Ctl × Ev} (h : mWhile c b δ = .ok r) : ∃ n, whN c b n δ = .ok r := by
  unfold mWhile at h
  split at h
  · rename_i ex
    have h2 := ex.choose_spec
    cases h
    exact ⟨_, h2⟩
  · cases h
theorem sn_while {tc : TT} {tb : TS} {mc : MT} {b : MS} (hc : SndT K mg tc mc) (hb : SndS K mg tb b) : SndS K mg (tWhile tc tb) (mWhile mc b) := fun {ρ Fr F δ σ H c δ'} r e {D} q => by
  obtain ⟨n, e⟩ := mWhile_inv e
  refine ⟨fun m σ' H' => ∃ F2 δ2, Same F F2 ∧ Rel K mg ρ Fr F2 δ2 σ' H' ∧ whN mc b m δ2 = .ok (c, δ'), ⟨n, F, δ, Same.refl _, r, e⟩, ?_⟩
  rintro m σ' H' ⟨F2, δ2, s2, r2, e2⟩
  cases m with
  | zero => cases e2
  | succ m =>
    unfold whN at e2
    split at e2
    · rename_i δ3 e3
      refine hc r2 e3 fun F3 H3 s3 r3 => iteT ?_
      refine ⟨fun σ' H' => ∃ F2 δ2, Same F F2 ∧ Rel K mg ρ Fr F2 δ2 σ' H' ∧ whN mc b m δ2 = .ok (c, δ'), fun σ4 H4 w => ⟨m, Nat.lt_succ_self _, w⟩, ?_⟩
      split at e2
      · rename_i δ5 e5
        exact hb r3 e5 fun F5 σ5 H5 s5 r5 => ⟨F5, δ5, (s2.trans s3).trans s5, r5, e2⟩
      · rename_i δ5 e5
        exact hb r3 e5 fun F5 σ5 H5 s5 r5 => ⟨F5, δ5, (s2.trans s3).trans s5, r5, e2⟩
      · rename_i δ5 e5
        cases e2
        exact hb r3 e5 fun F5 σ5 H5 s5 r5 => q F5 σ5 H5 ((s2.trans s3).trans s5) r5
      · rename_i s δ5 e5
        cases e2
        exact hb r3 e5 fun F5 v σ5 H5 s5 r5 => q F5 v σ5 H5 ((s2.trans s3).trans s5) r5
      · cases e2
      · cases e2
    · rename_i δ3 e3
      cases e2
      exact hc r2 e3 fun F3 H3 s3 r3 => iteF (q F3 σ' H3 (s2.trans s3) r3)
    · cases e2
    · cases e2
theorem rs_while {c : Expr} {body : List Stmt} {tc : TT} {tb : TS} {mc : MT} {b : MS} {pos : Pos} (hp : PassesOwn (model X.prog X.w) X.A X.env X.xe) (hc : RT X c tc mc) (hb : RB X body tb b) : RS X (.While c body [] pos) (tWhile tc tb) (mWhile mc b) := ⟨ps_while hp hc.pt hb.pss, sn_while hc.sn hb.sn⟩
end
end CW

namespace CW
open PySem PySem.Spec PyProof.Rows L2

/-! an owned list: moved, frozen, looked at -/
section
variable {X : Cx} {K : PySem.W.Frag} {mg : Str → Option Value}
section
variable {ρ : Nat → Addr} {Fr F F' H H' : Hp} {δ δ' : Ev} {σ σ' : L2.St}
/-- the list of a slot goes out of it -/
theorem Rel.take {i : Nat} {xs : List PyData} (r : Rel K mg ρ Fr F δ σ H) (h : δ[i]? = some (.own xs)) : ∃ v, σ[i]? = some (some v) ∧ Rel K mg ρ Fr F (.own xs :: δ.set i .emp) (some v :: σ) H := by
  obtain ⟨L, h1, h2, h3⟩ := r.own
  obtain ⟨o, L1, Li, L2, e1, rfl, e3, e4⟩ := slotsR_at h1 h
  obtain ⟨p, vs, rfl, rfl, a1, a2⟩ := e3
  have hl : i < σ.length := by
    by_cases hl : i < σ.length
    · exact hl
    · rw [List.getElem?_eq_none (by omega)] at e1; cases e1
  have es : σ.set i (some (.ref p)) = σ := by
    apply List.ext_getElem?
    intro j
    by_cases hj : i = j
    · subst hj; rw [List.getElem?_set_self hl, e1]
    · rw [List.getElem?_set_ne hj]
  have q := e4 (F' := F) (H' := H) (Same.refl _) (fun _ _ => rfl) .emp (some (.ref p)) [] rfl
  rw [es] at q
  refine ⟨_, e1, r.sub, r.fr, r.dis, [p] ++ (L1 ++ L2), ⟨[p], L1 ++ L2, rfl, ⟨p, vs, rfl, rfl, a1, a2⟩, by simpa using q⟩, ?_, fun a ha => h3 a ?_⟩
  · have pm : (L1 ++ ([p] ++ L2)).Perm ([p] ++ (L1 ++ L2)) := by
      rw [← List.append_assoc, ← List.append_assoc]
      exact List.Perm.append_right _ List.perm_append_comm
    exact pm.nodup_iff.mp h2
  · simp only [List.mem_append] at ha ⊢
    rcases ha with q | q | q
    · exact .inr (.inl q)
    · exact .inl q
    · exact .inr (.inr q)
theorem Rel.drop {i : Nat} (r : Rel K mg ρ Fr F δ σ H) {s : Sl} {o : Option V} (h : SlotR K mg ρ F H s o []) : Rel K mg ρ Fr F (δ.set i s) (σ.set i o) H := by
  cases q : δ[i]? with
  | none =>
    have hl := List.getElem?_eq_none_iff.mp q
    have hl2 : σ.length ≤ i := by rw [← r.len]; exact hl
    rw [List.set_eq_of_length_le hl, List.set_eq_of_length_le hl2]
    exact r
  | some s0 =>
    obtain ⟨L, h1, h2, h3⟩ := r.own
    obtain ⟨o0, L1, Li, L2, e1, rfl, e3, e4⟩ := slotsR_at h1 q
    have sb : (L1 ++ ([] ++ L2)).Sublist (L1 ++ (Li ++ L2)) := by
      refine List.Sublist.append (List.Sublist.refl _) ?_
      simp
    exact ⟨r.sub, r.fr, r.dis, _, e4 (F' := F) (H' := H) (Same.refl _) (fun _ _ => rfl) s o [] h, h2.sublist sb, fun a ha => h3 a (sb.subset ha)⟩
end
theorem Rel.takeT {ρ : Nat → Addr} {Fr F H : Hp} {δ : Ev} {σ : L2.St} {i : Nat} {d : PyData} (r : Rel K mg ρ Fr F δ σ H) (h : δ[i]? = some (.tree d)) : ∃ v, σ[i]? = some (some v) ∧ Rel K mg ρ Fr F (.tree d :: δ.set i .emp) (some v :: σ) H := by
  obtain ⟨L, h1, h2, h3⟩ := r.own
  obtain ⟨o, L1, Li, L2, e1, rfl, ⟨v, rfl, tp⟩, e4⟩ := slotsR_at h1 h
  have hl : i < σ.length := by
    by_cases hl : i < σ.length
    · exact hl
    · rw [List.getElem?_eq_none (by omega)] at e1; cases e1
  have es : σ.set i (some v) = σ := by
    apply List.ext_getElem?
    intro j
    by_cases hj : i = j
    · subst hj; rw [List.getElem?_set_self hl, e1]
    · rw [List.getElem?_set_ne hj]
  have q := e4 (F' := F) (H' := H) (Same.refl _) (fun _ _ => rfl) .emp (some v) [] rfl
  rw [es] at q
  have pm : (L1 ++ (Li ++ L2)).Perm (Li ++ (L1 ++ L2)) := by
    rw [← List.append_assoc, ← List.append_assoc]
    exact List.Perm.append_right _ List.perm_append_comm
  exact ⟨v, e1, r.sub, r.fr, r.dis, Li ++ (L1 ++ L2), ⟨Li, L1 ++ L2, rfl, ⟨v, rfl, tp⟩, by simpa using q⟩, pm.nodup_iff.mp h2, fun a ha => h3 a (pm.mem_iff.mpr ha)⟩
def mMv (i : Nat) : MN := fun δ => match δ[i]? with
  | some (.own xs) => .ok (.own xs, δ.set i .emp)
  | some (.tree d) => .ok (.tree d, δ.set i .emp)
  | some (.val d) => .ok (.val d, δ)
  | _ => .no
theorem sn_mv (i : Nat) : SndN K mg (tVar i) (mMv i) := fun {ρ Fr F δ σ H d δ'} r e {Q} q => by
  unfold mMv at e
  split at e
  · rename_i xs h
    cases e
    obtain ⟨v, e1, r1⟩ := r.take h
    exact ⟨v, e1, q F v H (Same.refl _) r1⟩
  · rename_i d' h
    cases e
    obtain ⟨v, e1, r1⟩ := r.takeT h
    exact ⟨v, e1, q F v H (Same.refl _) r1⟩
  · rename_i d' h
    cases e
    obtain ⟨v, e1, e2⟩ := r.get h
    exact ⟨v, e1, q F v H (Same.refl _) (r.tval e2)⟩
  · cases e
theorem rn_mv (i : Nat) {x : Str} {pos : Pos} (hN : X.N[i]? = some x := by rfl) (hv : Vis X.env.scope x := by first | exact Or.inl rfl | exact Or.inr (Or.inl rfl) | exact Or.inr (Or.inr rfl)) (hd : (x == ("__debug__" : Str)) = false := by decide)
    (hcd : (x == ("__classdict__" : Str)) = false := by decide) : RN X (.Name x pos) (tVar i) (mMv i) := ⟨pe_var hN hv hd hcd, sn_mv i⟩
/-- the list stays in its slot, frozen -/
def mFz (i : Nat) : ME := fun δ => match δ[i]? with
  | some (.own xs) => .ok (.list xs, δ.set i (.val (.list xs)))
  | some (.tree d) => .ok (d, δ.set i (.val d))
  | some (.val d) => .ok (d, δ)
  | _ => .no
theorem sn_fz (i : Nat) : SndE K mg (tVar i) (mFz i) := fun {ρ Fr F δ σ H d δ'} r e {Q} q => by
  unfold mFz at e
  split at e
  · rename_i xs h
    cases e
    obtain ⟨v, e1, r1⟩ := r.take h
    obtain ⟨v', F', e2, s1, r2, d2⟩ := r1.melt (d := .list xs) rfl
    cases e2
    have r3 := r2.drop (i := i) (s := .val (.list xs)) (o := some v) ⟨rfl, v, rfl, d2⟩
    have hl : i < σ.length := by
      by_cases hl : i < σ.length
      · exact hl
      · rw [List.getElem?_eq_none (by omega)] at e1; cases e1
    have es : σ.set i (some v) = σ := by
      apply List.ext_getElem?
      intro j
      by_cases hj : i = j
      · subst hj; rw [List.getElem?_set_self hl, e1]
      · rw [List.getElem?_set_ne hj]
    rw [List.set_set, es] at r3
    exact ⟨v, e1, q F' v H s1 r3 d2⟩
  · rename_i d' h
    cases e
    obtain ⟨v, e1, r1⟩ := r.takeT h
    obtain ⟨v', F', e2, s1, r2, d2⟩ := r1.melt (d := _) rfl
    cases e2
    have r3 := r2.drop (i := i) (s := .val _) (o := some v) ⟨rfl, v, rfl, d2⟩
    have hl : i < σ.length := by
      by_cases hl : i < σ.length
      · exact hl
      · rw [List.getElem?_eq_none (by omega)] at e1; cases e1
    have es : σ.set i (some v) = σ := by
      apply List.ext_getElem?
      intro j
      by_cases hj : i = j
      · subst hj; rw [List.getElem?_set_self hl, e1]
      · rw [List.getElem?_set_ne hj]
    rw [List.set_set, es] at r3
    exact ⟨v, e1, q F' v H s1 r3 d2⟩
  · rename_i d' h
    cases e
    obtain ⟨v, e1, e2⟩ := r.get h
    exact ⟨v, e1, q F v H (Same.refl _) r e2⟩
  · cases e
theorem re_fz (i : Nat) {x : Str} {pos : Pos} (hN : X.N[i]? = some x := by rfl) (hv : Vis X.env.scope x := by first | exact Or.inl rfl | exact Or.inr (Or.inl rfl) | exact Or.inr (Or.inr rfl)) (hd : (x == ("__debug__" : Str)) = false := by decide)
    (hcd : (x == ("__classdict__" : Str)) = false := by decide) : RE X (.Name x pos) (tVar i) (mFz i) := ⟨pe_var hN hv hd hcd, sn_fz i⟩

/-! reading a list that stays owned -/
def less (F : Hp) (L : List Addr) : Hp := fun a => if a ∈ L then none else F a
section
variable {F : Hp} {L : List Addr}
theorem sqt_less {a : Addr} {xs : List V} (hL : ∀ a ∈ L, ∃ vs, F a = some (.lst vs)) (h : SqT K F a xs) : SqT K (less F L) a xs := by
  refine h.imp (fun h => ?_) id
  by_cases q : a ∈ L
  · obtain ⟨vs, e⟩ := hL a q
    rcases h with h | ⟨o, h⟩ <;> (rw [e] at h; cases h)
  · unfold Rd less
    rw [if_neg q]
    exact h
mutual
theorem dp_less (hL : ∀ a ∈ L, ∃ vs, F a = some (.lst vs)) : ∀ (d : PyData) (v : V), scD d = true → Dp K F v d → Dp K (less F L) v d
  | .none, _, _, h => by cases h; exact .non
  | .bool b, _, _, h => by cases h; exact .bl b
  | .int i, _, _, h => by cases h; exact .int i
  | .str x, _, _, h => by cases h; exact .str x
  | .list ds, _, f, _ => by unfold scD at f; cases f
  | .tuple ds, _, f, h => by
    unfold scD at f
    cases h with
    | tup hs ha => exact .tup (sqt_less hL hs) (dpa_less hL ds _ f ha)
  | .dict _, _, f, _ => by unfold scD at f; cases f
theorem dpa_less (hL : ∀ a ∈ L, ∃ vs, F a = some (.lst vs)) : ∀ (ds : List PyData) (vs : List V), scA ds = true → DpAll K F vs ds → DpAll K (less F L) vs ds
  | [], _, _, h => by cases h; exact .nil
  | d :: ds, _, f, h => by
    unfold scA at f
    rw [Bool.and_eq_true] at f
    cases h with
    | cons h1 h2 => exact .cons (dp_less hL d _ f.1 h1) (dpa_less hL ds _ f.2 h2)
end
end
def Sl.see : Sl → Sl
  | .own xs => .val (.list xs)
  | .io _ xs => .val (.list xs)
  | .tree d => .val d
  | s => s
theorem see_slots {ρ : Nat → Addr} {F F1 H : Hp} (hF : Same F F1) : ∀ {δ : Ev} {σ : L2.St} {L : List Addr}, (∀ a ∈ L, F1 a = H a) → SlotsR K mg ρ F H δ σ L → SlotsR K mg ρ F1 H (δ.map Sl.see) σ []
  | [], [], _, _, h => rfl
  | [], _ :: _, _, _, h => h.elim
  | _ :: _, [], _, _, h => h.elim
  | s :: ss, o :: os, _, k, h => by
    obtain ⟨L1, L2, rfl, h1, h2⟩ := h
    have t := see_slots hF (fun a ha => k a (List.mem_append_right _ ha)) h2
    refine ⟨[], [], rfl, ?_, t⟩
    cases s with
    | emp => exact rfl
    | val d => obtain ⟨rfl, v, e1, e2⟩ := h1; exact ⟨rfl, v, e1, e2.up hF⟩
    | own xs =>
      obtain ⟨p, vs, e1, rfl, e2, e3⟩ := h1
      refine ⟨rfl, _, e1, .lst (SqL.of ?_) (e3.up hF)⟩
      rw [k p (by simp)]; exact e2
    | io j xs =>
      obtain ⟨e1, rfl, vs, e2, e3⟩ := h1
      refine ⟨rfl, _, e1, .lst (SqL.of ?_) (e3.up hF)⟩
      rw [k _ (by simp)]; exact e2
    | fn x => obtain ⟨rfl, f, e1, e2⟩ := h1; exact ⟨rfl, f, e1, e2⟩
    | vk j d => obtain ⟨rfl, e1, e2⟩ := h1; exact ⟨rfl, e1, e2.up hF⟩
    | tree d => obtain ⟨v, e1, t⟩ := h1; exact ⟨rfl, v, e1, tp_see hF d v L1 (fun a ha => k a (List.mem_append_left _ ha)) t⟩
theorem Rel.bor {ρ : Nat → Addr} {Fr F H : Hp} {δ : Ev} {σ : L2.St} (r : Rel K mg ρ Fr F δ σ H) : ∃ F1, Same F F1 ∧ Rel K mg ρ Fr F1 (δ.map Sl.see) σ H ∧
    ∀ {F' H' : Hp} {δ' : Ev} {ss : Ev} {os : L2.St}, Same F1 F' → Rel K mg ρ Fr F' (ss ++ δ') (os ++ σ) H' → ss.length = os.length → ∃ L, (∀ a ∈ L, ∃ vs, F' a = some (.lst vs)) ∧ Same F (less F' L) ∧
      ∀ ts, (∀ Ls, SlotsR K mg ρ F' H' ss os Ls → SlotsR K mg ρ (less F' L) H' ts os Ls) → Rel K mg ρ Fr (less F' L) (ts ++ δ) (os ++ σ) H' := by
  obtain ⟨L, h1, h2, h3⟩ := r.own
  have hF1 : Same F (fun a => if a ∈ L then H a else F a) := fun a u e => by
    by_cases q : a ∈ L
    · rw [(h3 a q).1] at e; cases e
    · simp only [q, if_false]; exact e
  refine ⟨fun a => if a ∈ L then H a else F a, hF1, ⟨fun a u e => ?_, r.fr, fun a ha => ?_, [], see_slots hF1 (fun a ha => by simp only [ha, if_true]) h1, List.nodup_nil, fun _ z => nomatch z⟩, ?_⟩
  · by_cases q : a ∈ L
    · simp only [q, if_true] at e; exact e
    · simp only [q, if_false] at e; exact r.sub a u e
  · have q : a ∉ L := fun z => ha (h3 a z).2
    simp only [q, if_false]; exact r.dis a ha
  · intro F' H' δ' ss os s r' hl
    have hLF : ∀ a ∈ L, ∃ vs, F' a = some (.lst vs) ∧ H a = some (.lst vs) := fun a ha => by
      obtain ⟨vs, e⟩ := slotsR_mem h1 ha
      exact ⟨vs, s a _ (by simp only [ha, if_true]; exact e), e⟩
    have hFl : Same F (less F' L) := fun a u e => by
      have q : a ∉ L := fun z => by rw [(h3 a z).1] at e; cases e
      unfold less
      rw [if_neg q]
      exact s a u (by simp only [q, if_false]; exact e)
    have hlF : Same (less F' L) F' := fun a u e => by
      unfold less at e
      by_cases q : a ∈ L
      · rw [if_pos q] at e; cases e
      · rw [if_neg q] at e; exact e
    refine ⟨L, fun a ha => (hLF a ha).imp fun vs e => e.1, hFl, fun ts ht => ?_⟩
    obtain ⟨M, m1, m2, m3⟩ := r'.own
    have split : ∀ {ss : Ev} {os : L2.St} {δ' : Ev} {M : List Addr}, ss.length = os.length → SlotsR K mg ρ F' H' (ss ++ δ') (os ++ σ) M → ∃ M1 M2, M = M1 ++ M2 ∧ SlotsR K mg ρ F' H' ss os M1 := by
      intro ss
      induction ss with
      | nil => intro os δ' M hl h; cases os with
        | nil => exact ⟨[], M, rfl, rfl⟩
        | cons o os => cases hl
      | cons s ss ih => intro os δ' M hl h; cases os with
        | nil => cases hl
        | cons o os =>
          obtain ⟨A, B, rfl, a1, a2⟩ := h
          obtain ⟨M1, M2, rfl, a3⟩ := ih (by simpa using hl) a2
          exact ⟨A ++ M1, M2, by simp, A, M1, rfl, a1, a3⟩
    have join : ∀ {ts : Ev} {os : L2.St} {M1 : List Addr}, SlotsR K mg ρ (less F' L) H' ts os M1 → SlotsR K mg ρ (less F' L) H' (ts ++ δ) (os ++ σ) (M1 ++ L) := by
      intro ts
      induction ts with
      | nil => intro os M1 h; cases os with
        | nil =>
          have e : M1 = [] := h
          subst e
          exact slotsR_mono hFl (fun a ha => by
            obtain ⟨vs, e1, e2⟩ := hLF a ha
            rw [e2]; exact r'.sub a _ e1) h1
        | cons o os => exact h.elim
      | cons t ts ih => intro os M1 h; cases os with
        | nil => exact h.elim
        | cons o os =>
          obtain ⟨A, B, rfl, a1, a2⟩ := h
          exact ⟨A, B ++ L, by simp, a1, ih a2⟩
    obtain ⟨M1, M2, rfl, m4⟩ := split hl m1
    have m5 := List.nodup_append.mp m2
    refine ⟨hlF.trans r'.sub, r'.fr, fun a ha => ?_, M1 ++ L, join (ht M1 m4), ?_, fun a ha => ?_⟩
    · have q := r'.dis a ha
      unfold less
      by_cases z : a ∈ L
      · rw [if_pos z]
      · rw [if_neg z]; exact q
    · refine List.nodup_append.mpr ⟨m5.1, h2, fun a ha b hb e => ?_⟩
      subst e
      have q := (m3 a (List.mem_append_left _ ha)).1
      obtain ⟨vs, e1, _⟩ := hLF a hb
      rw [e1] at q; cases q
    · rcases List.mem_append.mp ha with z | z
      · have q := m3 a (List.mem_append_left _ z)
        refine ⟨?_, q.2⟩
        unfold less
        split
        · rfl
        · exact q.1
      · refine ⟨?_, (h3 a z).2⟩
        unfold less
        rw [if_pos z]
def mBor (m : ME) : ME := fun δ => match m (δ.map Sl.see) with
  | .ok (d, _) => if scD d = true then .ok (d, δ) else .no
  | .err c d => .err c d
  | .no => .no
theorem sn_bor {t : TE} {m : ME} (h : SndE K mg t m) : SndE K mg t (mBor m) := fun {ρ Fr F δ σ H d δ'} r e {Q} q => by
  unfold mBor at e
  split at e
  · split at e
    · rename_i d' δ1 e1 hf
      cases e
      obtain ⟨F1, s1, r1, back⟩ := r.bor
      refine h r1 e1 fun F2 v H2 s2 r2 d2 => ?_
      obtain ⟨L, hL, s3, mk⟩ := back (ss := []) (os := []) s2 r2 rfl
      exact q _ v H2 s3 (mk [] fun Ls z => z) (dp_less hL _ _ hf d2)
    · cases e
  · cases e
  · cases e
theorem RE.bor {e : Expr} {t : TE} {m : ME} (h : RE X e t m) : RE X e t (mBor m) := ⟨h.pe, sn_bor h.sn⟩
def mBorN (m : MN) : MN := fun δ => match m (δ.map Sl.see) with
  | .ok (.val d, _) => if scD d = true then .ok (.val d, δ) else .no
  | .ok (.own xs, _) => if scA xs = true then .ok (.own xs, δ) else .no
  | .err c d => .err c d
  | _ => .no
theorem sn_borN {t : TE} {m : MN} (h : SndN K mg t m) : SndN K mg t (mBorN m) := fun {ρ Fr F δ σ H d δ'} r e {Q} q => by
  unfold mBorN at e
  split at e
  · split at e
    · rename_i d' δ1 e1 hf
      cases e
      obtain ⟨F1, s1, r1, back⟩ := r.bor
      refine h r1 e1 fun F2 v H2 s2 r2 => ?_
      obtain ⟨L, hL, s3, mk⟩ := back (ss := [.val d']) (os := [some v]) s2 r2 rfl
      refine q _ v H2 s3 (mk [.val d'] fun Ls z => ?_)
      obtain ⟨A, B, rfl, ⟨rfl, u, e2, e3⟩, a2⟩ := z
      exact ⟨[], B, rfl, ⟨rfl, u, e2, dp_less hL _ _ hf e3⟩, a2⟩
    · cases e
  · split at e
    · rename_i xs δ1 e1 hf
      cases e
      obtain ⟨F1, s1, r1, back⟩ := r.bor
      refine h r1 e1 fun F2 v H2 s2 r2 => ?_
      obtain ⟨L, hL, s3, mk⟩ := back (ss := [.own xs]) (os := [some v]) s2 r2 rfl
      refine q _ v H2 s3 (mk [.own xs] fun Ls z => ?_)
      obtain ⟨A, B, rfl, ⟨p, vs, e2, rfl, e3, e4⟩, a2⟩ := z
      exact ⟨[p], B, rfl, ⟨p, vs, e2, rfl, e3, dpa_less hL _ _ hf e4⟩, a2⟩
    · cases e
  · cases e
  · cases e
theorem RN.bor {e : Expr} {t : TE} {m : MN} (h : RN X e t m) : RN X e t (mBorN m) := ⟨h.pe, sn_borN h.sn⟩
end
end CW

namespace CW
open PySem PySem.Spec PyProof.Rows L2

section
variable {X : Cx} {K : PySem.W.Frag} {mg : Str → Option Value}

/-! a name's own list: append, pop, an item -/
def mApp (i : Nat) (as : MA) : MN := fun δ => match as δ with
  | .ok ([d], δ1) => (match δ1[i]? with
    | some s => (match s.isOwn with
      | some xs => if xs.length < sizeLine then .ok (.val .none, δ1.set i (s.put (xs ++ [d]))) else .no
      | none => .no)
    | none => .no)
  | .err c d => .err c d
  | _ => .no
/-- the slot's address, ahead of the arguments -/
theorem Rel.ownAt {ρ : Nat → Addr} {Fr F H : Hp} {δ : Ev} {σ : L2.St} {i : Nat} {s : Sl} {xs : List PyData} (r : Rel K mg ρ Fr F δ σ H) (h : δ[i]? = some s) (hs : s.isOwn = some xs) : ∃ p vs, σ[i]? = some (some (.ref p)) ∧ H p = some (.lst vs) :=
  let ⟨p, vs, a, b, _⟩ := r.getOwn h hs
  ⟨p, vs, a, b⟩
def tBMv (K : PySem.W.Frag) (i : Nat) (r : V → List V → Hp → VK → Prop) (t : TA) : TE := tBM K "list" r (tVar i) t
/-- was the slot a list of its own already ahead of the arguments -/
def wasOwn (i : Nat) (δ : Ev) : Bool := match δ[i]? with
  | some s => s.isOwn.isSome
  | none => false
theorem wasOwn_at {ρ : Nat → Addr} {Fr F H : Hp} {δ : Ev} {σ : L2.St} {i : Nat} (r : Rel K mg ρ Fr F δ σ H) (h : wasOwn i δ = true) : ∃ p vs, σ[i]? = some (some (.ref p)) ∧ H p = some (.lst vs) := by
  unfold wasOwn at h
  split at h
  · rename_i s e
    cases q : s.isOwn with
    | none => rw [q] at h; cases h
    | some xs => exact r.ownAt e q
  · cases h
def mOwnM (i : Nat) (f : List PyData → List PyData → Res (PyData × List PyData)) (as : MA) : ME := fun δ => if wasOwn i δ = true then (match as δ with
  | .ok (ds, δ1) => (match δ1[i]? with
    | some s => (match s.isOwn with
      | some xs => (match f xs ds with
        | .ok (d, ys) => .ok (d, δ1.set i (s.put ys))
        | .err c d => .err c d
        | .no => .no)
      | none => .no)
    | none => .no)
  | .err c d => .err c d
  | .no => .no) else .no
/-- a method on a list of its own, by values -/
def OwnR (K : PySem.W.Frag) (r : V → List V → Hp → VK → Prop) (f : List PyData → List PyData → Res (PyData × List PyData)) : Prop := ∀ {F H : Hp} {p : Addr} {vs as : List V} {xs ds : List PyData} {d : PyData} {ys : List PyData}, H p = some (.lst vs) → DpAll K F vs xs → DpAll K F as ds → f xs ds = .ok (d, ys) →
  ∀ {Q : VK}, (∀ v ws, Dp K F v d → DpAll K F ws ys → Q v (upd H p (.lst ws))) → r (.ref p) as H Q
theorem sn_ownM {i : Nat} {r0 : V → List V → Hp → VK → Prop} {f} {t : TA} {as : MA} (hf : OwnR K r0 f) (ha : SndA K mg t as) : SndE K mg (tBMv K i r0 t) (mOwnM i f as) := fun {ρ Fr F δ σ H d δ'} r e {Q} q => by
  unfold mOwnM at e
  split at e
  · rename_i hw
    obtain ⟨p, vs, e0, e1⟩ := wasOwn_at r hw
    split at e
    · rename_i ds δ1 e2
      split at e
      · rename_i s e3
        split at e
        · rename_i xs e4
          split at e
          · rename_i d' ys e5
            cases e
            refine ⟨_, e0, Or.inl ⟨rfl, _, Or.inl (Or.inl e1)⟩, ha r e2 fun F1 as1 H1 s1 r1 d1 => ?_⟩
            obtain ⟨p', vs', g1, g2, g3, g4, g5⟩ := r1.getOwn e3 e4
            rw [e0] at g1
            cases g1
            exact hf g2 g3 d1 e5 fun v ws b1 b2 => q F1 v _ s1 (g5 ws ys b2) b1
          · cases e
          · cases e
        · cases e
      · cases e
    · cases e
    · cases e
  · cases e
def fAppend : List PyData → List PyData → Res (PyData × List PyData) := fun xs ds => match ds with
  | [d] => if xs.length < sizeLine then .ok (.none, xs ++ [d]) else .no
  | _ => .no
theorem own_append : OwnR K rAppend fAppend := fun {F H p vs as xs ds d ys} h1 h2 h3 e {Q} q => by
  unfold fAppend at e
  split at e
  · split at e
    · rename_i d' hz
      cases e
      cases h3 with
      | cons a b =>
        cases b
        exact ⟨_, _, _, rfl, rfl, h1, by rw [dpa_len h2]; exact hz, q _ _ .non (dpa_app h2 (.cons a .nil))⟩
    · cases e
  · cases e
def fPopAt : List PyData → List PyData → Res (PyData × List PyData) := fun xs ds => match ds with
  | [.int i] => if -(2 ^ 63) ≤ i ∧ i < 2 ^ 63 then (match seqIndex? i xs.length with
    | some k => (match xs[k]? with
      | some d => .ok (d, xs.eraseIdx k)
      | none => .no)
    | none => .no) else .no
  | _ => .no
theorem own_popAt : OwnR K rPopAt fPopAt := fun {F H p vs as xs ds d ys} h1 h2 h3 e {Q} q => by
  unfold fPopAt at e
  split at e
  · split at e
    · rename_i i hz
      split at e
      · rename_i k e1
        split at e
        · rename_i d' e2
          cases e
          cases h3 with
          | cons a b =>
            cases a; cases b
            obtain ⟨v, e3, e4⟩ := dpa_get h2 e2
            exact ⟨_, _, _, k, v, rfl, rfl, h1, hz.1, hz.2, by rw [dpa_len h2]; exact e1, e3, q _ _ e4 (dpa_erase k h2)⟩
        · cases e
      · cases e
    · cases e
  · cases e
theorem re_append (i : Nat) {x : Str} {a : Expr} {t : TA} {as : MA} {p1 apos cpos : Pos} (ha : RA X [a] t as) (hN : X.N[i]? = some x := by rfl) (hv : Vis X.env.scope x := by first | exact Or.inl rfl | exact Or.inr (Or.inl rfl) | exact Or.inr (Or.inr rfl)) (hd : (x == ("__debug__" : Str)) = false := by decide)
    (hcd : (x == ("__classdict__" : Str)) = false := by decide)
    (hfew : ((backTo cpos (starEach [a] X.env)).all (fun x => !x.1) && (backToKw cpos (keywordEach [] X.env)).all (fun x => x.1.isSome)
      && decide (([a] : List Expr).length + ([] : List Keyword).length + (if ([] : List Keyword).isEmpty then 0 else 1) < 30)) = true := by rfl)
    (hline : (apos.endLine == cpos.line) = true := by rfl) (hs : starEach [a] X.env = (false, eval a X.env) :: starEach [] X.env := by rfl) (hplain : (backTo cpos (starEach [] X.env)).any (·.1) = false := by rfl) :
    RE X (.Call (.Attribute (.Name x p1) "append" apos) [a] [] cpos) (tBMv X.K i rAppend t) (mOwnM i fAppend as) :=
  ⟨pe_bm PySem.F.plainAttrs_list PySem.F.slot_list_append PySem.F.type_list_append mt_append (pe_var hN hv hd hcd) ha.pa rfl hfew hline hs hplain, sn_ownM own_append ha.sn⟩
theorem re_popAt (i : Nat) {x : Str} {a : Expr} {t : TA} {as : MA} {p1 apos cpos : Pos} (ha : RA X [a] t as) (hN : X.N[i]? = some x := by rfl) (hv : Vis X.env.scope x := by first | exact Or.inl rfl | exact Or.inr (Or.inl rfl) | exact Or.inr (Or.inr rfl)) (hd : (x == ("__debug__" : Str)) = false := by decide)
    (hcd : (x == ("__classdict__" : Str)) = false := by decide)
    (hfew : ((backTo cpos (starEach [a] X.env)).all (fun x => !x.1) && (backToKw cpos (keywordEach [] X.env)).all (fun x => x.1.isSome)
      && decide (([a] : List Expr).length + ([] : List Keyword).length + (if ([] : List Keyword).isEmpty then 0 else 1) < 30)) = true := by rfl)
    (hline : (apos.endLine == cpos.line) = true := by rfl) (hs : starEach [a] X.env = (false, eval a X.env) :: starEach [] X.env := by rfl) (hplain : (backTo cpos (starEach [] X.env)).any (·.1) = false := by rfl) :
    RE X (.Call (.Attribute (.Name x p1) "pop" apos) [a] [] cpos) (tBMv X.K i rPopAt t) (mOwnM i fPopAt as) :=
  ⟨pe_bm PySem.F.plainAttrs_list PySem.F.slot_list_pop PySem.F.type_list_pop mt_popAt (pe_var hN hv hd hcd) ha.pa rfl hfew hline hs hplain, sn_ownM own_popAt ha.sn⟩
def fPop : List PyData → List PyData → Res (PyData × List PyData) := fun xs _ => match xs[xs.length - 1]? with
  | some d => .ok (d, xs.dropLast)
  | none => .no
theorem dpa_dropLast {F : Hp} {vs : List V} {ds : List PyData} (h : DpAll K F vs ds) : DpAll K F vs.dropLast ds.dropLast := by
  rw [List.dropLast_eq_take, List.dropLast_eq_take, dpa_len h]
  exact dpa_take _ h
theorem sn_ownM0 {i : Nat} : SndE K mg (tBM0 K "list" rPop (tVar i)) (mOwnM i fPop (fun δ => .ok ([], δ))) := fun {ρ Fr F δ σ H d δ'} r e {Q} q => by
  unfold mOwnM at e
  split at e
  · rename_i hw
    split at e
    · rename_i ds δ1 e2
      cases e2
      split at e
      · rename_i s e3
        split at e
        · rename_i xs e4
          split at e
          · rename_i d' ys e5
            cases e
            obtain ⟨p', vs', g1, g2, g3, g4, g5⟩ := r.getOwn e3 e4
            refine ⟨_, g1, Or.inl ⟨rfl, _, Or.inl (Or.inl g2)⟩, ?_⟩
            unfold fPop at e5
            split at e5
            · rename_i d2 e6
              cases e5
              obtain ⟨v, e7, e8⟩ := dpa_get g3 e6
              rw [← dpa_len g3] at e7
              exact ⟨_, _, v, rfl, rfl, g2, e7, q F v _ (Same.refl _) (g5 _ _ (dpa_dropLast g3)) e8⟩
            · cases e5
          · cases e
          · cases e
        · cases e
      · cases e
    · cases e
    · cases e
  · cases e
theorem re_pop (i : Nat) {x : Str} {p1 apos cpos : Pos} (hN : X.N[i]? = some x := by rfl) (hv : Vis X.env.scope x := by first | exact Or.inl rfl | exact Or.inr (Or.inl rfl) | exact Or.inr (Or.inr rfl)) (hd : (x == ("__debug__" : Str)) = false := by decide)
    (hcd : (x == ("__classdict__" : Str)) = false := by decide) (hline : (apos.endLine == cpos.line) = true := by rfl) :
    RE X (.Call (.Attribute (.Name x p1) "pop" apos) [] [] cpos) (tBM0 X.K "list" rPop (tVar i)) (mOwnM i fPop (fun δ => .ok ([], δ))) :=
  ⟨pe_bm0 PySem.F.plainAttrs_list PySem.F.slot_list_pop PySem.F.type_list_pop mt_pop (pe_var hN hv hd hcd) rfl hline, sn_ownM0⟩
/-- x[i], x of any kind -/
def mIxV (i : Nat) (mb : ME) : ME := fun δ => match δ[i]? with
  | some s => (match mb δ with
    | .ok (y, δ1) => (match δ1[i]? with
      | some s1 => (match s.isOwn, s1.isOwn with
        | some _, some xs => (match fIx (.list xs) y with
          | .ok d => .ok (d, δ1)
          | .err c d => .err c d
          | .no => .no)
        | none, none => (match s with
          | .val d0 => (match fIx d0 y with
            | .ok d => .ok (d, δ1)
            | .err c d => .err c d
            | .no => .no)
          | _ => .no)
        | _, _ => .no)
      | none => .no)
    | .err c d => .err c d
    | .no => .no)
  | none => .no
theorem fIx_list {xs : List PyData} {y d : PyData} (e : fIx (.list xs) y = .ok d) : ∃ i, y = .int i ∧ atI xs i = some d := by
  cases y with
  | int i =>
    have e' : (match atI xs i with | some d => Res.ok d | none => .no) = .ok d := e
    split at e'
    · rename_i d' h; cases e'; exact ⟨i, rfl, h⟩
    · cases e'
  | _ => cases e
theorem sn_ixV {i : Nat} {tb : TE} {mb : ME} (hb : SndE K mg tb mb) : SndE K mg (tOp (rIx K) (tVar i) tb) (mIxV i mb) := fun {ρ Fr F δ σ H d δ'} r e {Q} q => by
  unfold mIxV at e
  split at e
  · rename_i s e0
    split at e
    · rename_i y δ1 e1
      split at e
      · rename_i s1 e2
        split at e
        · rename_i xs0 xs e3 e4
          split at e
          · rename_i d' e5
            cases e
            obtain ⟨p, vs, g1, g2⟩ := r.ownAt e0 e3
            refine ⟨_, g1, hb r e1 fun F1 u H1 t1 r1 d1 => ?_⟩
            obtain ⟨p', vs', k1, k2, k3, k4, k5⟩ := r1.getOwn e2 e4
            rw [g1] at k1
            cases k1
            obtain ⟨i', rfl, h2⟩ := fIx_list e5
            cases d1
            obtain ⟨v, h3, h4⟩ := dpa_atI k3 h2
            exact .inl ⟨_, _, _, v, rfl, rfl, SqL.of k2, h3, q F1 v H1 t1 r1 h4⟩
          · cases e
          · cases e
        · split at e
          · rename_i d0
            split at e
            · rename_i d' e5
              cases e
              obtain ⟨v, g1, g2⟩ := r.get e0
              exact ⟨v, g1, hb r e1 fun F1 u H1 t1 r1 d1 => opv_ix r1 (g2.up t1) d1 e5 fun F2 w H2 t2 r2 d2 => q F2 w H2 (t1.trans t2) r2 d2⟩
            · cases e
            · cases e
          · cases e
        · cases e
      · cases e
    · cases e
    · cases e
  · cases e
theorem re_ixV (i : Nat) {x : Str} {b : Expr} {tb : TE} {mb : ME} {p1 pos : Pos} (hb : RE X b tb mb) (hN : X.N[i]? = some x := by rfl) (hv : Vis X.env.scope x := by first | exact Or.inl rfl | exact Or.inr (Or.inl rfl) | exact Or.inr (Or.inr rfl)) (hd : (x == ("__debug__" : Str)) = false := by decide)
    (hcd : (x == ("__classdict__" : Str)) = false := by decide) (hs : PlainIx b := by exact fun _ _ => rfl) : RE X (.Subscript (.Name x p1) b pos) (tOp (rIx X.K) (tVar i) tb) (mIxV i mb) := ⟨pe_ix ix_seq (pe_var hN hv hd hcd) hb.pe hs, sn_ixV hb.sn⟩
/-- x[i] = .. -/
def gsIx (i : Nat) (mb : ME) : PyData → Ev → Res Ev := fun d δ => if wasOwn i δ = true then (match mb δ with
  | .ok (.int k, δ1) => (match δ1[i]? with
    | some s => (match s.isOwn with
      | some xs => (match ixN xs.length k with
        | some j => .ok (δ1.set i (s.put (xs.set j d)))
        | none => .no)
      | none => .no)
    | none => .no)
  | .err c d => .err c d
  | _ => .no) else .no
theorem sn_gsub {i : Nat} {tb : TE} {mb : ME} (hb : SndE K mg tb mb) : SndG K mg (gSub (tVar i) tb rSetL) (gsIx i mb) [] := fun {ρ Fr F δ σ H x d δ'} r hd e {Q} q => by
  unfold gsIx at e
  split at e
  · rename_i hw
    obtain ⟨p, vs, e0, _⟩ := wasOwn_at r hw
    split at e
    · rename_i k δ1 e1
      split at e
      · rename_i s e2
        split at e
        · rename_i xs e3
          split at e
          · rename_i j e4
            cases e
            refine ⟨_, e0, hb r e1 fun F1 u H1 t1 r1 d1 => ?_⟩
            obtain ⟨p', vs', k1, k2, k3, k4, k5⟩ := r1.getOwn e2 e3
            rw [e0] at k1
            cases k1
            cases d1
            exact ⟨_, _, _, j, rfl, rfl, k2, by rw [dpa_len k3]; exact e4, q F1 σ _ t1 (k5 _ _ (dpa_set j k3 (hd.up t1))) (fun _ _ => rfl) rfl⟩
          · cases e
        · cases e
      · cases e
    · cases e
    · cases e
  · cases e
theorem rg_ix (i : Nat) {x : Str} {b : Expr} {tb : TE} {mb : ME} {p1 pos : Pos} (hb : RE X b tb mb) (hN : X.N[i]? = some x := by rfl) (hv : Vis X.env.scope x := by first | exact Or.inl rfl | exact Or.inr (Or.inl rfl) | exact Or.inr (Or.inr rfl)) (hd : (x == ("__debug__" : Str)) = false := by decide)
    (hcd : (x == ("__classdict__" : Str)) = false := by decide)
    (ha : ∀ v, assign (.Subscript (.Name x p1) b pos) X.env v = (do
      let ov ← holding [v] (eval (.Name x p1) X.env)
      let iv ← holding [v, ov] (eval b X.env)
      standAt pos
      holding [v, ov, iv] (setItem ov iv v)
      release [v, ov, iv] []) := by intro _; rfl) : RG X (.Subscript (.Name x p1) b pos) (gSub (tVar i) tb rSetL) (gsIx i mb) [] := ⟨pg_sub (pe_var hN hv hd hcd) hb.pe set_list ha, sn_gsub hb.sn⟩
end

/-! [e for x in xs if c] -/
section
variable {X : Cx} {K : PySem.W.Frag} {mg : Str → Option Value}
def clr : Ev → List Nat → Ev
  | δ, [] => δ
  | δ, v :: vs => (clr δ vs).set v .emp
def bck (δ0 : Ev) : List Nat → Ev → Ev
  | [], δ => δ
  | v :: vs, δ => match δ0[v]? with
    | some s => (bck δ0 vs δ).set v s
    | none => bck δ0 vs δ
def calmS : Sl → Bool
  | .own _ => false
  | .io _ _ => false
  | .tree _ => false
  | _ => true
def calmAt (δ : Ev) : List Nat → Bool
  | [] => true
  | v :: vs => (match δ[v]? with
    | some s => calmS s
    | none => true) && calmAt δ vs
def lcL (g : PyData → Ev → Res Ev) (tt : MT) (te : ME) (vs : List Nat) : List PyData → List PyData → Ev → Res (List PyData × Ev)
  | [], acc, δ => .ok (acc, δ)
  | d :: ds, acc, δ => match g d δ with
    | .ok δ2 => (match tt δ2 with
      | .ok (true, δ3) => (match te δ3 with
        | .ok (y, δ4) => if acc.length < sizeLine then lcL g tt te vs ds (acc ++ [y]) (clr δ4 vs) else .no
        | .err c d => .err c d
        | .no => .no)
      | .ok (false, δ3) => lcL g tt te vs ds acc (clr δ3 vs)
      | .err c d => .err c d
      | .no => .no)
    | .err c d => .err c d
    | .no => .no
def mLc (mi : MA) (g : PyData → Ev → Res Ev) (tt : MT) (te : ME) (vs : List Nat) : MN := fun δ => match mi δ with
  | .ok (ds, δ1) => if calmAt δ1 vs = true then (match lcL g tt te vs ds [] (clr δ1 vs) with
    | .ok (ys, δ2) => .ok (.own ys, bck δ1 vs δ2)
    | .err c d => .err c d
    | .no => .no) else .no
  | .err c d => .err c d
  | .no => .no
section
variable {ρ : Nat → Addr} {Fr F F' H H' : Hp} {δ δ' δ0 : Ev} {σ σ' : L2.St}
theorem Rel.clr (r : Rel K mg ρ Fr F δ σ H) : ∀ vs : List Nat, Rel K mg ρ Fr F (clr δ vs) (wipe σ vs) H
  | [] => r
  | v :: vs => by
    unfold CW.clr wipe
    exact (Rel.clr r vs).drop (i := v) (s := .emp) (o := none) rfl
theorem set_self {σ : L2.St} {i : Nat} {o : Option V} (h : σ[i]? = some o) : σ.set i o = σ := by
  have hl : i < σ.length := by
    by_cases hl : i < σ.length
    · exact hl
    · rw [List.getElem?_eq_none (by omega)] at h; cases h
  apply List.ext_getElem?
  intro j
  by_cases hj : i = j
  · subst hj; rw [List.getElem?_set_self hl, h]
  · rw [List.getElem?_set_ne hj]
/-- the wiped slots put back, in the run's list too -/
def unw (σ0 : L2.St) : List Nat → L2.St → L2.St
  | [], σ => σ
  | v :: vs, σ => match σ0[v]? with
    | some s => (unw σ0 vs σ).set v s
    | none => unw σ0 vs σ
theorem unw_len (σ0 : L2.St) (σ : L2.St) : ∀ vs : List Nat, (unw σ0 vs σ).length = σ.length
  | [] => rfl
  | v :: vs => by
    unfold unw
    split
    · rw [List.length_set, unw_len σ0 σ vs]
    · exact unw_len σ0 σ vs
theorem unw_at {σ0 σ : L2.St} (hl : σ.length = σ0.length) {k : Nat} : ∀ {vs : List Nat}, (k ∈ vs ∨ σ[k]? = σ0[k]?) → (unw σ0 vs σ)[k]? = σ0[k]?
  | [], h => by
    rcases h with h | h
    · cases h
    · exact h
  | v :: vs, h => by
    unfold unw
    by_cases q : v = k
    · subst q
      split
      · rename_i s e
        have hv : v < σ0.length := by
          by_cases hv : v < σ0.length
          · exact hv
          · rw [List.getElem?_eq_none (by omega)] at e; cases e
        rw [List.getElem?_set_self (by rw [unw_len, hl]; exact hv), e]
      · rename_i e
        have hv : σ0.length ≤ v := List.getElem?_eq_none_iff.mp e
        rw [e]
        exact List.getElem?_eq_none (by rw [unw_len, hl]; exact hv)
    · have h' : k ∈ vs ∨ σ[k]? = σ0[k]? := by
        rcases h with h | h
        · rcases List.mem_cons.mp h with z | z
          · exact absurd z.symm q
          · exact .inl z
        · exact .inr h
      split
      · rw [List.getElem?_set_ne q]; exact unw_at hl h'
      · exact unw_at hl h'
theorem unw_wipe {σ : L2.St} {vs : List Nat} : unw σ vs (wipe σ vs) = σ := by
  apply List.ext_getElem?
  intro k
  by_cases h : k ∈ vs
  · exact unw_at (wipe_length σ vs) (.inl h)
  · exact unw_at (wipe_length σ vs) (.inr (wipe_out h))
theorem calm_slot {s : Sl} {o : Option V} {L : List Addr} (h : SlotR K mg ρ F H s o L) (e : Same F F') (c : calmS s = true) : SlotR K mg ρ F' H' s o [] := by
  cases s with
  | emp => exact rfl
  | val d => obtain ⟨_, v, a, b⟩ := h; exact ⟨rfl, v, a, b.up e⟩
  | own xs => cases c
  | io k xs => cases c
  | fn x => obtain ⟨_, f, a, b⟩ := h; exact ⟨rfl, f, a, b⟩
  | tree d => cases c
  | vk j d => obtain ⟨_, a, b⟩ := h; exact ⟨rfl, a, b.up e⟩
theorem Rel.bck (r0 : Rel K mg ρ Fr F δ0 σ H) (e : Same F F') {δ2 : Ev} {σ2 : L2.St} : ∀ {vs : List Nat}, calmAt δ0 vs = true → Rel K mg ρ Fr F' δ2 σ2 H' → Rel K mg ρ Fr F' (bck δ0 vs δ2) (unw σ vs σ2) H'
  | [], _, r => r
  | v :: vs, c, r => by
    unfold calmAt at c
    rw [Bool.and_eq_true] at c
    have r1 := Rel.bck r0 e (vs := vs) c.2 r
    unfold CW.bck unw
    cases q : δ0[v]? with
    | none =>
      have hl := List.getElem?_eq_none_iff.mp q
      rw [List.getElem?_eq_none (by rw [← r0.len]; exact hl)]
      exact r1
    | some s =>
      obtain ⟨L, h1, h2, h3⟩ := r0.own
      obtain ⟨o, L1, Li, L2, e1, _, e3, _⟩ := slotsR_at h1 q
      rw [e1]
      have c1 := c.1
      rw [q] at c1
      exact r1.drop (calm_slot e3 e c1)
theorem wipe_eq {σ σ' : L2.St} (hl : σ'.length = σ.length) : ∀ {vs : List Nat}, (∀ k, k ∉ vs → σ'[k]? = σ[k]?) → wipe σ' vs = wipe σ vs := by
  intro vs h
  apply List.ext_getElem?
  intro k
  by_cases q : k ∈ vs
  · have z : ∀ (τ : L2.St) (ws : List Nat), k ∈ ws → (wipe τ ws)[k]? = if k < τ.length then some none else none := by
      intro τ ws
      induction ws with
      | nil => intro z; cases z
      | cons w ws ih =>
        intro z
        unfold wipe
        by_cases hw : w = k
        · subst hw
          by_cases hl : w < τ.length
          · rw [List.getElem?_set_self (by rw [wipe_length]; exact hl), if_pos hl]
          · rw [List.getElem?_eq_none (by rw [List.length_set, wipe_length]; omega), if_neg hl]
        · rw [List.getElem?_set_ne hw]
          rcases List.mem_cons.mp z with z | z
          · exact absurd z.symm hw
          · exact ih z
    rw [z σ' vs q, z σ vs q, hl]
  · rw [wipe_out q, wipe_out q, h k q]
theorem wipe_wipe {σ : L2.St} {vs : List Nat} : wipe (wipe σ vs) vs = wipe σ vs := wipe_eq (wipe_length σ vs) fun k hk => wipe_out hk
end
theorem sn_lc {wi : TI} {g : TG} {tt : TT} {te : TE} {mi : MA} {f} {mt : MT} {me : ME} {vs js : List Nat} (hi : SndI K mg wi mi) (hg : SndG K mg g f js) (ht : SndT K mg tt mt) (he : SndE K mg te me) (hj : ∀ k ∈ js, k ∈ vs) :
    SndN K mg (tLc wi g tt te vs) (mLc mi f mt me vs) := fun {ρ Fr F δ σ H s δ'} r e {Q} q => by
  unfold mLc at e
  split at e
  · rename_i ds δ1 e1
    split at e
    · rename_i hc
      split at e
      · rename_i ys δ2 e2
        cases e
        refine hi r e1 fun F1 J H1 s1 r1 it => ?_
        intro D hD
        have r0 : Rel K mg ρ (upd Fr D (.lst [])) F1 (clr δ1 vs) (wipe σ vs) (upd H1 D (.lst [])) := by
          obtain ⟨p, ws, k1, k2, k3, k4, k5, k6⟩ := ((r1.clr vs).temp (vs := []) (xs := []) hD .nil).stash
          cases k1
          rw [upd_same] at k2
          cases k2
          exact k6
        have fD : Fr D = none := r1.fFr hD
        refine ⟨fun i m H' => ∃ F2 δ3 acc ws, Same F1 F2 ∧ DpAll K F2 ws acc ∧ Rel K mg ρ (upd Fr D (.lst ws)) F2 δ3 (wipe σ vs) H' ∧ i + m = ds.length ∧ lcL f mt me vs (ds.drop i) acc δ3 = .ok (ys, δ2), ⟨ds.length, F1, _, [], [], Same.refl _, .nil, r0, Nat.zero_add _, e2⟩, ?_⟩
        rintro i m H' ⟨F2, δ3, acc, ws, s2, d2, r2, hm, e3⟩
        have it' := it i F2 H' s2 r2.sub
        cases q2 : ds[i]? with
        | none =>
          have hl : ds.length ≤ i := List.getElem?_eq_none_iff.mp q2
          have hi : i = ds.length := by omega
          rw [List.drop_eq_nil_of_le hl] at e3
          cases e3
          refine .inl ⟨it'.1 hi, q F2 _ H' (s1.trans s2) ?_⟩
          -- the list and the slots put back
          have key : Rel K mg ρ (upd Fr D (.lst ws)) F2 (bck δ1 vs δ2) (unw σ vs (wipe σ vs)) H' := by
            have go : ∀ us : List Nat, calmAt δ1 us = true → Rel K mg ρ (upd Fr D (.lst ws)) F2 (bck δ1 us δ2) (unw σ us (wipe σ vs)) H' := by
              intro us
              induction us with
              | nil => exact fun _ => r2
              | cons u us ih =>
                intro c
                unfold calmAt at c
                rw [Bool.and_eq_true] at c
                have r4 := ih c.2
                unfold CW.bck unw
                cases z : δ1[u]? with
                | none =>
                  have hl := List.getElem?_eq_none_iff.mp z
                  rw [List.getElem?_eq_none (by rw [← r1.len]; exact hl)]
                  exact r4
                | some s =>
                  obtain ⟨L0, h1, _, _⟩ := r1.own
                  obtain ⟨o, L1, Li, L2, g1, _, g3, _⟩ := slotsR_at h1 z
                  rw [g1]
                  have c1 := c.1
                  rw [z] at c1
                  exact r4.drop (calm_slot g3 s2 c1)
            exact go vs hc
          rw [unw_wipe] at key
          exact key.unstash fD d2
        | some d =>
          obtain ⟨hl, hd⟩ := List.getElem?_eq_some_iff.mp q2
          rw [List.drop_eq_getElem_cons hl, hd] at e3
          obtain ⟨go, yl⟩ := it'.2 d q2
          refine .inr ⟨go, fun H' => ∃ F2 δ3 acc ws, Same F1 F2 ∧ DpAll K F2 ws acc ∧ Rel K mg ρ (upd Fr D (.lst ws)) F2 δ3 (wipe σ vs) H' ∧ lcL f mt me vs (ds.drop (i + 1)) acc δ3 = .ok (ys, δ2), ?_, ?_⟩
          · rintro H3 ⟨F3, δ4, acc', ws', a1, a2, a3, a4⟩
            exact ⟨m - 1, by omega, F3, δ4, acc', ws', a1, a2, a3, by omega, a4⟩
          · intro x H3 y
            obtain ⟨F3, s3, dx, up⟩ := yl x H3 y
            have r3 := up r2
            unfold lcL at e3
            split at e3
            · rename_i δ4 e4
              refine hg r3 dx e4 fun F4 σ4 H4 s4 r4 k4 l4 => ?_
              have hw : wipe σ4 vs = wipe σ vs := by
                have z := wipe_eq (σ := wipe σ vs) (σ' := σ4) (vs := vs) l4 (fun k hk => k4 k (fun z => hk (hj k z)))
                rw [z, wipe_wipe]
              refine ⟨hw, ?_⟩
              split at e3
              · rename_i δ5 e5
                split at e3
                · rename_i y' δ6 e6
                  split at e3
                  · rename_i hz
                    refine ht r4 e5 fun F5 H5 s5 r5 => iteT (he r5 e6 fun F6 v H6 s6 r6 d6 => ?_)
                    have s26 := ((s3.trans s4).trans s5).trans s6
                    have d26 := d2.up s26
                    refine ⟨ws, r6.fr D _ upd_same, by rw [dpa_len d2]; exact hz, F6, _, acc ++ [y'], ws ++ [v], s2.trans s26, dpa_app d26 (.cons d6 .nil), ?_, e3⟩
                    have r7 := r6.unstash fD d26
                    obtain ⟨p, vs', g1, g2, g3, g4, g5⟩ := r7.getOwn (i := 0) (s := .own acc) (xs := acc) rfl rfl
                    have gp : p = D := by cases g1; rfl
                    subst gp
                    have r8 := g5 (ws ++ [v]) (acc ++ [y']) (dpa_app d26 (.cons d6 .nil))
                    obtain ⟨p2, ws2, k1, k2, k3, _, _, k6⟩ := Rel.stash (δ := δ6) r8
                    cases k1
                    rw [upd_same] at k2
                    cases k2
                    have k7 := k6.clr vs
                    rw [hw] at k7
                    exact k7
                  · cases e3
                · cases e3
                · cases e3
              · rename_i δ5 e5
                refine ht r4 e5 fun F5 H5 s5 r5 => iteF ?_
                have s25 := (s3.trans s4).trans s5
                have k7 := r5.clr vs
                rw [hw] at k7
                exact ⟨F5, _, acc, ws, s2.trans s25, d2.up s25, k7, e3⟩
              · cases e3
              · cases e3
            · cases e3
            · cases e3
      · cases e
      · cases e
    · cases e
  · cases e
  · cases e
end
end CW

namespace CW
open PySem PySem.Spec PyProof.Rows L2
structure RTs (X : Cx) (ifs : List Expr) (t : TT) (m : MT) : Prop where
  pts : PTs X ifs t
  sn : SndT X.K X.mg t m
section
variable {X : Cx}
def mYes : MT := fun δ => .ok (true, δ)
theorem rts_nil : RTs X [] tYes mYes := ⟨pts_nil, fun {ρ Fr F δ σ H d δ'} r e {Q} q => by cases e; exact q F H (Same.refl _) r⟩
theorem rts_one {c : Expr} {t : TT} {m : MT} (h : RT X c t m) : RTs X [c] t m := ⟨pts_one h.pt, h.sn⟩
/-- the context of a comprehension's own scope -/
abbrev BX (X : Cx) (scope : Scope) (s : Shared) (H : Hp) (C : Addr) (cl : List (Str × Addr)) (fp : List Addr) : Cx := X.blk s H scope (compEnvC scope cl C X.env) fp
/-- the reading that a mirror itself tells -/
def cE (K : PySem.W.Frag) (mg : Str → Option Value) (m : ME) : TE := fun σ H Q => ∃ (ρ : Nat → Addr) (Fr F : Hp) (δ : Ev) (d : PyData) (δ' : Ev), Rel K mg ρ Fr F δ σ H ∧ m δ = .ok (d, δ') ∧ ∀ F' v H', Same F F' → Rel K mg ρ Fr F' δ' σ H' → Dp K F' v d → Q v H'
def cT (K : PySem.W.Frag) (mg : Str → Option Value) (m : MT) : TT := fun σ H Q => ∃ (ρ : Nat → Addr) (Fr F : Hp) (δ : Ev) (d : Bool) (δ' : Ev), Rel K mg ρ Fr F δ σ H ∧ m δ = .ok (d, δ') ∧ ∀ F' H', Same F F' → Rel K mg ρ Fr F' δ' σ H' → Q d H'
def cG (K : PySem.W.Frag) (mg : Str → Option Value) (f : PyData → Ev → Res Ev) (vs : List Nat) : TG := fun x σ H Q => ∃ (ρ : Nat → Addr) (Fr F : Hp) (δ : Ev) (d : PyData) (δ' : Ev), Rel K mg ρ Fr F δ σ H ∧ Dp K F x d ∧ f d δ = .ok δ' ∧
  ∀ F' σ' H', Same F F' → Rel K mg ρ Fr F' δ' σ' H' → (∀ k, k ∉ vs → σ'[k]? = σ[k]?) → σ'.length = σ.length → Q σ' H'
theorem sn_cE {K : PySem.W.Frag} {mg : Str → Option Value} {m : ME} : SndE K mg (cE K mg m) m := fun {ρ Fr F δ σ H d δ'} r e {Q} q => ⟨ρ, Fr, F, δ, d, δ', r, e, q⟩
theorem sn_cT {K : PySem.W.Frag} {mg : Str → Option Value} {m : MT} : SndT K mg (cT K mg m) m := fun {ρ Fr F δ σ H d δ'} r e {Q} q => ⟨ρ, Fr, F, δ, d, δ', r, e, q⟩
theorem sn_cG {K : PySem.W.Frag} {mg : Str → Option Value} {f} {vs : List Nat} : SndG K mg (cG K mg f vs) f vs := fun {ρ Fr F δ σ H x d δ'} r h e {Q} q => ⟨ρ, Fr, F, δ, d, δ', r, h, e, q⟩
theorem RE.canon {e : Expr} {t : TE} {m : ME} (h : RE X e t m) : PE X e (cE X.K X.mg m) := ⟨fun pins s σ H Q I ⟨ρ, Fr, F, δ, d, δ', r, e, q⟩ => h.pe.run pins s σ H Q I (h.sn r e q)⟩
theorem RTs.canon {es : List Expr} {t : TT} {m : MT} (h : RTs X es t m) : PTs X es (cT X.K X.mg m) := ⟨fun pins s σ H Q I ⟨ρ, Fr, F, δ, d, δ', r, e, q⟩ => h.pts.run pins s σ H Q I (h.sn r e q)⟩
theorem RG.canon {e : Expr} {g : TG} {f} {js vs : List Nat} (h : RG X e g f js) (hj : ∀ k ∈ js, k ∈ vs) : PG X e (cG X.K X.mg f vs) := ⟨fun pins s σ H v u Q I rv ⟨ρ, Fr, F, δ, d, δ', r, hd, e, q⟩ => h.pg.run pins s σ H v u Q I rv (h.sn r hd e fun F' σ' H' s r k l => q F' σ' H' s r (fun i hi => k i fun z => hi (hj i z)) l)⟩
section
variable {elt tg iter : Expr} {ifs : List Expr} {scope : Scope} {own : List (Str × Nat)} {pos : Pos} {wi : TI} {mi : MA} {f : PyData → Ev → Res Ev} {mt : MT} {me : ME}
theorem rn_lc (own : List (Str × Nat)) (hc : X.calm = true) (hN : X.N.Nodup) (hi : RI X tg iter wi mi) (hg : ∀ s H C cl fp, ∃ g js, RG (BX X scope s H C cl fp) tg g f js ∧ ∀ k ∈ js, k ∈ own.map (·.2)) (ht : ∀ s H C cl fp, ∃ tt, RTs (BX X scope s H C cl fp) ifs tt mt)
    (he : ∀ s H C cl fp, ∃ te, RE (BX X scope s H C cl fp) elt te me) (ok : BlkOk X.N X.env.scope scope own := by exact blkOk_by rfl) (hs : ∀ x, foldedSetIterable iter X.env x = pure x := by intro _; rfl) :
    RN X (.ListComp elt [⟨tg, iter, ifs, 0⟩] scope pos) (tLc wi (cG X.K X.mg f (own.map (·.2))) (cT X.K X.mg mt) (cE X.K X.mg me) (own.map (·.2))) (mLc mi f mt me (own.map (·.2))) :=
  ⟨pe_lc hc hN hi.pi ok (fun s H C cl fp => let ⟨_, _, r, j⟩ := hg s H C cl fp; r.canon j) (fun s H C cl fp => let ⟨_, r⟩ := ht s H C cl fp; r.canon) (fun s H C cl fp => let ⟨_, r⟩ := he s H C cl fp; r.canon) hs,
    sn_lc hi.sn sn_cG sn_cT sn_cE fun _ h => h⟩
theorem rs_setLc (own : List (Str × Nat)) (i : Nat) {y : Str} {py spos : Pos} (hc : X.calm = true) (hN : X.N.Nodup) (hi : RI X tg iter wi mi) (hg : ∀ s H C cl fp, ∃ g js, RG (BX X scope s H C cl fp) tg g f js ∧ ∀ k ∈ js, k ∈ own.map (·.2)) (ht : ∀ s H C cl fp, ∃ tt, RTs (BX X scope s H C cl fp) ifs tt mt)
    (he : ∀ s H C cl fp, ∃ te, RE (BX X scope s H C cl fp) elt te me) (ok : BlkOk X.N X.env.scope scope own := by exact blkOk_by rfl) (hs : ∀ x, foldedSetIterable iter X.env x = pure x := by intro _; rfl)
    (hy : X.N[i]? = some y := by rfl) (hyl : X.env.scope.names.lookup y = some .local := by rfl) (hsw : swapsWith (.ListComp elt [⟨tg, iter, ifs, 0⟩] scope pos) (some (.Name y py)) spos.line X.env = pure true := by rfl) :
    RS X (.Assign [.Name y py] (.ListComp elt [⟨tg, iter, ifs, 0⟩] scope pos) spos) (tAsg (tLc wi (cG X.K X.mg f (own.map (·.2))) (cT X.K X.mg mt) (cE X.K X.mg me) (own.map (·.2))) (gName i)) (mSet i (mLc mi f mt me (own.map (·.2)))) :=
  ⟨ps_setLc hc hN hy hyl hsw hi.pi ok (fun s H C cl fp => let ⟨_, _, r, j⟩ := hg s H C cl fp; r.canon j) (fun s H C cl fp => let ⟨_, r⟩ := ht s H C cl fp; r.canon) (fun s H C cl fp => let ⟨_, r⟩ := he s H C cl fp; r.canon) hs,
    sn_set i (sn_lc hi.sn sn_cG sn_cT sn_cE fun _ h => h)⟩
end
end
end CW

namespace CW
open PySem PySem.Spec PyProof.Rows L2
section
variable {K : PySem.W.Frag} {mg : Str → Option Value} {ρ : Nat → Addr} {Fr F F' H H' : Hp} {δ δ' : Ev} {σ σ' : L2.St}
theorem slotsR_split : ∀ {ss : Ev} {os : L2.St} {L : List Addr}, ss.length = os.length → SlotsR K mg ρ F H (ss ++ δ) (os ++ σ) L → ∃ L1 L2, L = L1 ++ L2 ∧ SlotsR K mg ρ F H ss os L1 ∧ SlotsR K mg ρ F H δ σ L2
  | [], [], L, _, h => ⟨[], L, rfl, rfl, h⟩
  | [], _ :: _, _, h, _ => nomatch h
  | _ :: _, [], _, h, _ => nomatch h
  | s :: ss, o :: os, L, hl, h => by
    obtain ⟨A, B, rfl, a1, a2⟩ := h
    obtain ⟨L1, L2, rfl, a3, a4⟩ := slotsR_split (by simpa using hl) a2
    exact ⟨A ++ L1, L2, by simp, ⟨A, L1, rfl, a1, a3⟩, a4⟩
theorem slotsR_join : ∀ {ss : Ev} {os : L2.St} {L1 L2 : List Addr}, SlotsR K mg ρ F H ss os L1 → SlotsR K mg ρ F H δ σ L2 → SlotsR K mg ρ F H (ss ++ δ) (os ++ σ) (L1 ++ L2)
  | [], [], L1, L2, h, h' => by
    have e : L1 = [] := h
    subst e
    exact h'
  | [], _ :: _, _, _, h, _ => h.elim
  | _ :: _, [], _, _, h, _ => h.elim
  | s :: ss, o :: os, _, _, h, h' => by
    obtain ⟨A, B, rfl, a1, a2⟩ := h
    exact ⟨A, B ++ _, by simp, a1, slotsR_join a2 h'⟩
/-- the slots behind the first ones wait in the frame -/
theorem Rel.hideJ {ss : Ev} {os : L2.St} (hl : ss.length = os.length) (r : Rel K mg ρ Fr F (ss ++ δ) (os ++ σ) H) : ∃ Fr', Rel K mg ρ Fr' F ss os H ∧ (∀ {F1 H1 : Hp}, Same F F1 → Rel K mg ρ Fr' F1 [] [] H1 → Rel K mg ρ Fr F1 δ σ H1) ∧
    ∀ {F' H' : Hp} {ts : Ev} {us : L2.St}, Same F F' → Rel K mg ρ Fr' F' ts us H' → Rel K mg ρ Fr F' (ts ++ δ) (us ++ σ) H' := by
  obtain ⟨L, h1, h2, h3⟩ := r.own
  obtain ⟨L1, LB, rfl, g1, g2⟩ := slotsR_split hl h1
  have nd := List.nodup_append.mp h2
  have key : ∀ {F' H' : Hp} {ts : Ev} {us : L2.St}, Same F F' → Rel K mg ρ (fun a => if a ∈ LB then H a else Fr a) F' ts us H' → Rel K mg ρ Fr F' (ts ++ δ) (us ++ σ) H' := by
    intro F' H' ts us e r'
    obtain ⟨M, m1, m2, m3⟩ := r'.own
    have hLH : ∀ a ∈ LB, H' a = H a := fun a ha => by
      obtain ⟨vs, e1⟩ := slotsR_mem g2 ha
      rw [e1]
      exact r'.fr a _ (by simp only [ha, if_true]; exact e1)
    have hLF : ∀ a ∈ LB, F' a = none := fun a ha => r'.dis a (by
      obtain ⟨vs, e1⟩ := slotsR_mem g2 ha
      simp only [ha, if_true, e1]; simp)
    have hFr : ∀ a u, Fr a = some u → (if a ∈ LB then H a else Fr a) = some u := fun a u q => by
      by_cases z : a ∈ LB
      · rw [(h3 a (List.mem_append_right _ z)).2] at q; cases q
      · rw [if_neg z]; exact q
    refine ⟨r'.sub, fun a u q => r'.fr a u (hFr a u q), fun a ha => ?_, M ++ LB, slotsR_join m1 (slotsR_mono e hLH g2), List.nodup_append.mpr ⟨m2, nd.2.1, fun a ha b hb z => ?_⟩, fun a ha => ?_⟩
    · obtain ⟨u, q⟩ := Option.ne_none_iff_exists'.mp ha
      refine r'.dis a (fun z => ?_)
      have q2 := hFr a u q
      rw [show (if a ∈ LB then H a else Fr a) = none from z] at q2
      cases q2
    · subst z
      have q := (m3 a ha).2
      obtain ⟨vs, e1⟩ := slotsR_mem g2 hb
      simp only [hb, if_true, e1] at q
      cases q
    · rcases List.mem_append.mp ha with z | z
      · refine ⟨(m3 a z).1, ?_⟩
        have q := (m3 a z).2
        by_cases w : a ∈ LB
        · exact (h3 a (List.mem_append_right _ w)).2
        · simp only [w, if_false] at q; exact q
      · exact ⟨hLF a z, (h3 a (List.mem_append_right _ z)).2⟩
  refine ⟨fun a => if a ∈ LB then H a else Fr a, ⟨r.sub, fun a u q => ?_, fun a ha => ?_, L1, g1, nd.1, fun a ha => ⟨(h3 a (List.mem_append_left _ ha)).1, ?_⟩⟩, fun e r' => by simpa using key (ts := []) (us := []) e r', key⟩
  · by_cases z : a ∈ LB
    · simp only [z, if_true] at q; exact q
    · simp only [z, if_false] at q; exact r.fr a u q
  · by_cases z : a ∈ LB
    · exact (h3 a (List.mem_append_right _ z)).1
    · simp only [z, if_false] at ha; exact r.dis a ha
  · have z : a ∉ LB := fun z => nd.2.2 a ha a z rfl
    simp only [z, if_false]
    exact (h3 a (List.mem_append_left _ ha)).2
theorem Rel.swap2 {a b : Sl} {oa ob : Option V} (r : Rel K mg ρ Fr F (a :: b :: δ) (oa :: ob :: σ) H) : Rel K mg ρ Fr F (b :: a :: δ) (ob :: oa :: σ) H := by
  obtain ⟨L, ⟨A, B, rfl, a1, B1, C, rfl, a2, a3⟩, h2, h3⟩ := r.own
  have p : (A ++ (B1 ++ C)).Perm (B1 ++ (A ++ C)) := by
    rw [← List.append_assoc, ← List.append_assoc]
    exact List.Perm.append_right _ List.perm_append_comm
  exact ⟨r.sub, r.fr, r.dis, B1 ++ (A ++ C), ⟨B1, A ++ C, rfl, a2, A, C, rfl, a1, a3⟩, p.nodup_iff.mp h2, fun x hx => h3 x (p.mem_iff.mpr hx)⟩
/-- the parameters' lists under other names -/
def reIo (s : Sl) : Sl := match s with
  | .io _ xs => .own xs
  | .vk _ d => .val d
  | s => s
theorem slot_reIo {ρ' : Nat → Addr} {s : Sl} {o : Option V} {L : List Addr} (h : SlotR K mg ρ F H s o L) : SlotR K mg ρ' F H (reIo s) o L := by
  cases s with
  | emp => exact h
  | val d => exact h
  | own xs => exact h
  | io k xs => obtain ⟨h1, h2, vs, h3, h4⟩ := h; exact ⟨_, vs, h1, h2, h3, h4⟩
  | fn x => exact h
  | tree d => exact h
  | vk j d => obtain ⟨a, b, c⟩ := h; exact ⟨a, _, b, c⟩
theorem Rel.reRho {ρ' : Nat → Addr} {ts : Ev} (r : Rel K mg ρ Fr F δ σ H) (h : ∀ L, SlotsR K mg ρ F H δ σ L → SlotsR K mg ρ' F H ts σ L) : Rel K mg ρ' Fr F ts σ H :=
  let ⟨L, h1, h2, h3⟩ := r.own
  ⟨r.sub, r.fr, r.dis, L, h L h1, h2, h3⟩
/-- values, on top of slots -/
theorem Rel.vals (r : Rel K mg ρ Fr F δ σ H) : ∀ {vs : List V} {ds : List PyData}, DpAll K F vs ds → Rel K mg ρ Fr F (ds.map .val ++ δ) (vs.map some ++ σ) H
  | _, [], h => by cases h; exact r
  | _, d :: ds, h => by
    cases h with
    | cons h1 h2 => exact (Rel.vals r h2).tval h1
end

/-! the def -/
theorem empties {K : PySem.W.Frag} {mg : Str → Option Value} {ρ : Nat → Addr} {F H : Hp} : ∀ n : Nat, SlotsR K mg ρ F H (List.replicate n .emp) (List.replicate n none) []
  | 0 => rfl
  | n + 1 => ⟨[], [], rfl, rfl, empties n⟩
section
variable {P : Program} {w : World} {K : PySem.W.Frag} {mg : Str → Option Value} {base : Heap} {x qual : Str} {params : Arguments} {body : List Stmt} {scope : Scope} {dvs : List V} {kws : List (Str × V)} {f : Addr} {fd : FuncData}
theorem body_of {N : List Str} {n nl : Nat} {t : TS} {m : MS} (hN : N.length = n + nl) (hs : SndS K mg t m) {vs : List V} {H : Hp} {Q : VK} {E : XK} (h : spD K mg n (fnM nl m) vs H Q E) : t { nx := fun _ H' => Q .non H', rt := Q } (L2.start N vs) H := by
  obtain ⟨ρ, Fr, F, as, r, as', hl, rel, e, q⟩ := h
  have hst : L2.start N vs = vs.map some ++ List.replicate nl none := by
    unfold L2.start
    rw [hN, hl, Nat.add_sub_cancel_left]
  rw [hst]
  obtain ⟨L, h1, h2, h3⟩ := rel.own
  have r0 : Rel K mg ρ Fr F (as ++ List.replicate nl .emp) (vs.map some ++ List.replicate nl none) H :=
    ⟨rel.sub, rel.fr, rel.dis, L, by have z := slotsR_join h1 (empties (K := K) (mg := mg) (ρ := ρ) (F := F) (H := H) nl); simpa using z, h2, h3⟩
  unfold fnM at e
  split at e
  · rename_i s δ' e1
    split at e
    · rename_i as2 e2
      cases e
      exact hs r0 e1 fun F' v σ' H' s1 r1 => q F' v H' s1 (outA_rel s1 rel r1 e2)
    · cases e
    · cases e
  · rename_i δ' e1
    split at e
    · rename_i as2 e2
      cases e
      exact hs r0 e1 fun F' σ' H' s1 r1 => q F' .non H' s1 (outA_rel s1 rel (r1.tval .non) e2)
    · cases e
    · cases e
  · cases e
  · cases e
theorem fnG_D {CX : CXT} {N ps : List Str} {k n nl : Nat} {m : MS} (D : FunD K x qual params body scope dvs kws f fd) (S : FnScope N ps scope) (hn : ps.length = n) (hN : N.length = n + nl)
    (bd : ∀ (cdv : Value) (A : Around) (outer : List Env) (s : Shared) (H : Hp) (E : XK), A.guards = some [] → Room k (A.deeper (envOfC qual scope s.heap.objs.size f cdv)) → ∃ t, RB (cxOf CX P w K mg base N qual scope f cdv A outer s H E) body t m) : FnG P w K mg base CX (k + 1) f fd ps (spD K mg n (fnM nl m)) := by
  refine fnG_of D S (fun vs H Q E h => ?_) fun cdv A outer s H vs Q E hG hR h => ?_
  · obtain ⟨_, _, _, _, _, _, hl, _⟩ := h
    rw [hl, hn]
  · obtain ⟨t, b⟩ := bd cdv A outer s H E hG hR
    exact ⟨t, b.pss, body_of hN b.sn h⟩
end

/-! calls of the law's and the program's defs -/
abbrev FM := Ev → Res (Sl × Ev)
def resV : Sl → Option Sl
  | .io _ _ => none
  | .vk _ _ => none
  | s => some s
def mCallV (n : Nat) (f : FM) (as : MA) : MN := fun δ => match as δ with
  | .ok (ds, δ1) => if ds.length = n then (match f (ds.map .val) with
    | .ok (r, _) => (match resV r with
      | some s => .ok (s, δ1)
      | none => .no)
    | .err c d => .err c d
    | .no => .no) else .no
  | .err c d => .err c d
  | .no => .no
theorem resV_slot {K : PySem.W.Frag} {mg : Str → Option Value} {ρ ρ' : Nat → Addr} {F H : Hp} {r s : Sl} {o : Option V} {L : List Addr} (e : resV r = some s) (h : SlotR K mg ρ F H r o L) : SlotR K mg ρ' F H s o L := by
  cases r <;> cases e <;> exact h
section
variable {X : Cx} {K : PySem.W.Frag} {mg : Str → Option Value}
theorem sp_vals {ρ : Nat → Addr} {Fr F H : Hp} {δ : Ev} {σ : L2.St} {vs : List V} {ds : List PyData} {n : Nat} {f : FM} {r s : Sl} {as' : Ev} {Q : VK} {E : XK} (rel : Rel K mg ρ Fr F δ σ H) (d : DpAll K F vs ds) (hn : ds.length = n) (e : f (ds.map .val) = .ok (r, as')) (hr : resV r = some s)
    (q : ∀ F' v H', Same F F' → Rel K mg ρ Fr F' (s :: δ) (some v :: σ) H' → Q v H') : spD K mg n f vs H Q E := by
  obtain ⟨Fr', r1, r2, r3⟩ := Rel.hideJ (ss := []) (os := []) rfl rel
  refine ⟨ρ, Fr', F, ds.map .val, r, as', (dpa_len d).trans hn, by simpa using r1.vals d, e, fun F' v H' s1 r4 => q F' v H' s1 ?_⟩
  obtain ⟨L, ⟨A, B, rfl, a1, a2⟩, nd, av⟩ := r4.own
  have a1' : SlotR K mg ρ F' H' s (some v) A := resV_slot hr a1
  have r5 : Rel K mg ρ Fr' F' [s] [some v] H' := ⟨r4.sub, r4.fr, r4.dis, A, ⟨A, [], by simp, a1', rfl⟩, (List.nodup_append.mp nd).1, fun a ha => av a (List.mem_append_left _ ha)⟩
  exact r3 s1 r5
theorem sn_callV {f : FM} {t : TA} {as : MA} {n : Nat} {E : XK} (ha : SndA K mg t as) : SndN K mg (tCall (spD K mg n f) [] E t) (mCallV n f as) := fun {ρ Fr F δ σ H s δ'} r e {Q} q => by
  unfold mCallV at e
  split at e
  · rename_i ds δ1 e1
    split at e
    · rename_i hn
      split at e
      · rename_i r' as' e2
        split at e
        · rename_i s' e3
          cases e
          refine ha r e1 fun F1 vs H1 s1 r1 d1 => ?_
          rw [List.append_nil]
          exact sp_vals r1 d1 hn e2 e3 fun F' v H' s2 r2 => q F' v H' (s1.trans s2) r2
        · cases e
      · cases e
      · cases e
    · cases e
  · cases e
  · cases e
section
variable {CX : CXT} {k : Nat} {f : Addr} {fd : FuncData} {ps ks : List Str} {n : Nat} {fm : FM} {x : Str} {p pos : Pos} {e : Expr} {es : List Expr} {kws : List Keyword} {t tk : TA} {as ak : MA}
theorem rn_callV (F : FnG X.prog X.w X.K X.mg X.base CX0 k f fd ps (spD X.K X.mg n fm)) (hG : X.A.guards = some []) (hr : Room k X.A) (hg : Gl X x) (hm : X.mg x = some (.ref f)) (hk : PySem.W.keepIn X.K (.ref f) = true) (hb : Binds X.K fd ps [])
    (ha : RA X (e :: es) t as) (hdb : (x == ("__debug__" : Str)) = false := by decide) (he : starEach (e :: es) X.env = (false, eval e X.env) :: starEach es X.env := by rfl) (hpl : (backTo pos (starEach es X.env)).any (·.1) = false := by rfl) :
    RN X (.Call (.Name x p) (e :: es) [] pos) (tCall (spD X.K X.mg n fm) [] E0 t) (mCallV n fm as) := ⟨pe_callG F hG hr hg hm hk hb pass0 ha.pa hdb he hpl, sn_callV ha.sn⟩
theorem rn_callV0 (F : FnG X.prog X.w X.K X.mg X.base CX0 k f fd ps (spD X.K X.mg n fm)) (hG : X.A.guards = some []) (hr : Room k X.A) (hg : Gl X x) (hm : X.mg x = some (.ref f)) (hk : PySem.W.keepIn X.K (.ref f) = true) (hb : Binds X.K fd ps [])
    (hdb : (x == ("__debug__" : Str)) = false := by decide) :
    RN X (.Call (.Name x p) [] [] pos) (tCall (spD X.K X.mg n fm) [] E0 tNil) (mCallV n fm mNil) := ⟨pe_call0G F hG hr hg hm hk hb pass0 hdb, sn_callV sn_nil⟩
end

/-! f(x, ..) with x a list of its own, which f may change -/
def mCallI (i n : Nat) (f : FM) (as : MA) : MN := fun δ => if wasOwn i δ = true then (match as δ with
  | .ok (ds, δ1) => (match δ1[i]? with
    | some s => (match s.isOwn with
      | some xs => if ds.length + 1 = n then (match f (.io 0 xs :: ds.map .val) with
        | .ok (r, .io 0 ys :: _) => (match resV r with
          | some r' => .ok (r', δ1.set i (s.put ys))
          | none => .no)
        | .err c d => .err c d
        | _ => .no) else .no
      | none => .no)
    | none => .no)
  | .err c d => .err c d
  | .no => .no) else .no
/-- any list of its own out of its slot -/
theorem Rel.takeO {ρ : Nat → Addr} {Fr F H : Hp} {δ : Ev} {σ : L2.St} {i : Nat} {s : Sl} {xs : List PyData} (r : Rel K mg ρ Fr F δ σ H) (h : δ[i]? = some s) (hs : s.isOwn = some xs) : ∃ p, σ[i]? = some (some (.ref p)) ∧ (∀ L, SlotR K mg ρ F H s (some (.ref p)) L → L = [p]) ∧ Rel K mg ρ Fr F (s :: δ.set i .emp) (some (.ref p) :: σ) H := by
  obtain ⟨L, h1, h2, h3⟩ := r.own
  obtain ⟨o, L1, Li, L2, e1, rfl, e3, e4⟩ := slotsR_at h1 h
  have key : ∃ p, o = some (.ref p) ∧ Li = [p] ∧ ∀ L, SlotR K mg ρ F H s (some (.ref p)) L → L = [p] := by
    cases s with
    | own ys =>
      obtain ⟨p, vs, rfl, rfl, a1, a2⟩ := e3
      refine ⟨p, rfl, rfl, fun L h => ?_⟩
      obtain ⟨p', vs', b1, b2, _⟩ := h
      cases b1
      exact b2
    | io k ys =>
      obtain ⟨rfl, rfl, vs, a1, a2⟩ := e3
      exact ⟨_, rfl, rfl, fun L h => h.2.1⟩
    | emp => cases hs
    | val d => cases hs
    | fn x => cases hs
    | tree d => cases hs
    | vk j d => cases hs
  obtain ⟨p, rfl, rfl, hp⟩ := key
  have q := e4 (F' := F) (H' := H) (Same.refl _) (fun _ _ => rfl) .emp (some (.ref p)) [] rfl
  rw [set_self e1] at q
  refine ⟨p, e1, hp, r.sub, r.fr, r.dis, [p] ++ (L1 ++ L2), ⟨[p], L1 ++ L2, rfl, e3, by simpa using q⟩, ?_, fun a ha => h3 a ?_⟩
  · have pm : (L1 ++ ([p] ++ L2)).Perm ([p] ++ (L1 ++ L2)) := by
      rw [← List.append_assoc, ← List.append_assoc]
      exact List.Perm.append_right _ List.perm_append_comm
    exact pm.nodup_iff.mp h2
  · simp only [List.mem_append] at ha ⊢
    rcases ha with q | q | q
    · exact .inr (.inl q)
    · exact .inl q
    · exact .inr (.inr q)
theorem sn_callI {i n : Nat} {f : FM} {t : TA} {as : MA} {E : XK} (ha : SndA K mg t as) : SndN K mg (tCall (spD K mg n f) [] E (tCons (tVar i) t)) (mCallI i n f as) := fun {ρ Fr F δ σ H s δ'} r e {Q} q => by
  unfold mCallI at e
  split at e
  · rename_i hw
    obtain ⟨p, vs0, g0, _⟩ := wasOwn_at r hw
    split at e
    · rename_i ds δ1 e1
      split at e
      · rename_i s0 e2
        split at e
        · rename_i xs e3
          split at e
          · rename_i hn
            split at e
            · rename_i r' ys rest e4
              split at e
              · rename_i r2 e5
                cases e
                refine ⟨_, g0, ha r e1 fun F1 vs H1 s1 r1 d1 => ?_⟩
                show spD K mg n f ((V.ref p :: vs) ++ []) H1 Q E
                rw [List.append_nil]
                obtain ⟨p', k1, k2, k3⟩ := r1.takeO e2 e3
                rw [g0] at k1
                cases k1
                obtain ⟨Fr', h1, h2, h3⟩ := Rel.hideJ (ss := [s0]) (os := [some (.ref p)]) rfl k3
                have conv : ∀ {F H : Hp} {zs : List PyData} {L : List Addr}, SlotR K mg (fun _ => p) F H (.io 0 zs) (some (.ref p)) L → SlotR K mg ρ F H (s0.put zs) (some (.ref p)) L := by
                  intro F H zs L h
                  obtain ⟨_, b1, ws, b2, b3⟩ := h
                  have b1 : L = [p] := b1
                  have b2 : H p = some (.lst ws) := b2
                  cases s0 with
                  | own z => exact ⟨p, ws, rfl, b1, b2, b3⟩
                  | io kk z =>
                    obtain ⟨M, ⟨A, B, rfl, a1, _⟩, _⟩ := h1.own
                    obtain ⟨c1, c2, _⟩ := a1
                    have c3 : p = ρ kk := by cases c1; rfl
                    exact ⟨by rw [← c3], by rw [← c3]; exact b1, ws, by rw [← c3]; exact b2, b3⟩
                  | emp => cases e3
                  | val z => cases e3
                  | fn z => cases e3
                  | tree z => cases e3
                  | vk j z => cases e3
                have h4 : Rel K mg (fun _ => p) Fr' F1 [.io 0 xs] [some (.ref p)] H1 := h1.reRho fun L h => by
                  obtain ⟨A, B, rfl, a1, a2⟩ := h
                  refine ⟨A, B, rfl, ?_, a2⟩
                  cases s0 with
                  | own z =>
                    cases e3
                    obtain ⟨pp, ws, b1, b2, b3, b4⟩ := a1
                    cases b1
                    exact ⟨rfl, b2, ws, b3, b4⟩
                  | io kk z =>
                    cases e3
                    obtain ⟨b1, b2, ws, b3, b4⟩ := a1
                    have c3 : p = ρ kk := by cases b1; rfl
                    exact ⟨rfl, by rw [c3]; exact b2, ws, by show H1 p = _; rw [c3]; exact b3, b4⟩
                  | emp => cases e3
                  | val z => cases e3
                  | fn z => cases e3
                  | tree z => cases e3
                  | vk j z => cases e3
                -- the values on top, then the list ahead of them
                have h5 : Rel K mg (fun _ => p) Fr' F1 (.io 0 xs :: ds.map .val) (some (.ref p) :: vs.map some) H1 := by
                  have z := h4.vals d1
                  obtain ⟨L, z1, z2, z3⟩ := z.own
                  obtain ⟨L1, L2, rfl, z4, z5⟩ := slotsR_split (by simp [dpa_len d1]) z1
                  obtain ⟨A, B, rfl, z6, z7⟩ := z5
                  have eB : B = [] := z7
                  subst eB
                  have pm : (L1 ++ (A ++ [])).Perm (A ++ L1) := by
                    rw [List.append_nil]
                    exact List.perm_append_comm
                  exact ⟨z.sub, z.fr, z.dis, A ++ L1, ⟨A, L1, rfl, z6, z4⟩, pm.nodup_iff.mp z2, fun a ha => z3 a (pm.mem_iff.mpr ha)⟩
                refine ⟨fun _ => p, Fr', F1, _, r', _, by simpa [dpa_len d1] using hn, h5, e4, fun F' v H' s2 r4 => q F' v H' (s1.trans s2) ?_⟩
                obtain ⟨L, ⟨A, B, rfl, a1, C, D, rfl, a2, a3⟩, nd, av⟩ := r4.own
                have c1 : SlotR K mg ρ F' H' s (some v) A := resV_slot e5 a1
                have c2 : SlotR K mg ρ F' H' (s0.put ys) (some (.ref p)) C := conv a2
                have sb : (A ++ C).Sublist (A ++ (C ++ D)) := List.Sublist.append (List.Sublist.refl _) (List.sublist_append_left _ _)
                have r5 : Rel K mg ρ Fr' F' [s0.put ys, s] [some (.ref p), some v] H' := by
                  have z : Rel K mg ρ Fr' F' [s, s0.put ys] [some v, some (.ref p)] H' := ⟨r4.sub, r4.fr, r4.dis, A ++ C, ⟨A, C, rfl, c1, C, [], by simp, c2, rfl⟩, nd.sublist sb, fun a ha => av a (sb.subset ha)⟩
                  exact z.swap2
                have r6 := h3 s2 r5
                have hl : i < δ1.length := by
                  by_cases hl : i < δ1.length
                  · exact hl
                  · rw [List.getElem?_eq_none (by omega)] at e2; cases e2
                have r7 : Rel K mg ρ Fr F' ((s :: δ1.set i .emp).set (i + 1) (s0.put ys)) ((some v :: σ).set (i + 1) (some (.ref p))) H' := Rel.set (δ := s :: δ1.set i .emp) (σ := some v :: σ) (i := i + 1) r6 (by simp; omega)
                rw [List.set_cons_succ, List.set_cons_succ, List.set_set, set_self g0] at r7
                exact r7
              · cases e
            · cases e
            · cases e
          · cases e
        · cases e
      · cases e
    · cases e
    · cases e
  · cases e
section
variable {k : Nat} {f : Addr} {fd : FuncData} {ps : List Str} {n : Nat} {fm : FM} {x y : Str} {p pos py : Pos} {es : List Expr} {t : TA} {as : MA}
theorem rn_callI (i : Nat) (F : FnG X.prog X.w X.K X.mg X.base CX0 k f fd ps (spD X.K X.mg n fm)) (hG : X.A.guards = some []) (hr : Room k X.A) (hg : Gl X x) (hm : X.mg x = some (.ref f)) (hk : PySem.W.keepIn X.K (.ref f) = true) (hb : Binds X.K fd ps [])
    (ha : RA X es t as) (hN : X.N[i]? = some y := by rfl) (hv : Vis X.env.scope y := by first | exact Or.inl rfl | exact Or.inr (Or.inl rfl) | exact Or.inr (Or.inr rfl)) (hd : (y == ("__debug__" : Str)) = false := by decide) (hcd : (y == ("__classdict__" : Str)) = false := by decide)
    (hdb : (x == ("__debug__" : Str)) = false := by decide) (he : starEach (.Name y py :: es) X.env = (false, eval (.Name y py) X.env) :: starEach es X.env := by rfl) (hpl : (backTo pos (starEach es X.env)).any (·.1) = false := by rfl) :
    RN X (.Call (.Name x p) (.Name y py :: es) [] pos) (tCall (spD X.K X.mg n fm) [] E0 (tCons (tVar i) t)) (mCallI i n fm as) := ⟨pe_callG F hG hr hg hm hk hb pass0 (pa_cons (pe_var hN hv hd hcd) ha.pa he) hdb he hpl, sn_callI ha.sn⟩
end

/-! calls with keywords -/
def mCallO (ix : List Nat) (n m k : Nat) (f : FM) (as ak : MA) : MN := fun δ => match as δ with
  | .ok (ds, δ1) => (match ak δ1 with
    | .ok (es, δ2) => if ds.length = n ∧ es.length = m ∧ (inOrder ix (ds ++ es)).length = k then (match f ((inOrder ix (ds ++ es)).map .val) with
      | .ok (r, _) => (match resV r with
        | some s => .ok (s, δ2)
        | none => .no)
      | .err c d => .err c d
      | .no => .no) else .no
    | .err c d => .err c d
    | .no => .no)
  | .err c d => .err c d
  | .no => .no
theorem dpa_order {F : Hp} {vs : List V} {ds : List PyData} (h : DpAll K F vs ds) : ∀ ix : List Nat, DpAll K F (inOrder ix vs) (inOrder ix ds)
  | [] => .nil
  | i :: ix => by
    unfold inOrder
    cases q : ds[i]? with
    | none =>
      have q2 : vs[i]? = none := by
        rw [List.getElem?_eq_none_iff] at q ⊢
        rw [dpa_len h]; exact q
      rw [List.filterMap_cons_none q, List.filterMap_cons_none q2]
      exact dpa_order h ix
    | some d =>
      obtain ⟨v, q2, rv⟩ := dpa_get h q
      rw [List.filterMap_cons_some q, List.filterMap_cons_some q2]
      exact .cons rv (dpa_order h ix)
theorem sn_callO {ix : List Nat} {n m k : Nat} {f : FM} {t tk : TA} {as ak : MA} {E : XK} (ha : SndA K mg t as) (hk : SndA K mg tk ak) : SndN K mg (tCallO (spD K mg k f) ix n m E t tk) (mCallO ix n m k f as ak) := fun {ρ Fr F δ σ H s δ'} r e {Q} q => by
  unfold mCallO at e
  split at e
  · rename_i ds δ1 e1
    split at e
    · rename_i es δ2 e2
      split at e
      · rename_i hn
        split at e
        · rename_i r' as' e3
          split at e
          · rename_i s' e4
            cases e
            refine ha r e1 fun F1 vs H1 s1 r1 d1 => hk r1 e2 fun F2 ws H2 s2 r2 d2 => ?_
            exact ⟨(dpa_len d1).trans hn.1, (dpa_len d2).trans hn.2.1, sp_vals r2 (dpa_order (dpa_app (d1.up s2) d2) ix) hn.2.2 e3 e4 fun F' v H' s3 r3 => q F' v H' ((s1.trans s2).trans s3) r3⟩
          · cases e
        · cases e
        · cases e
      · cases e
    · cases e
    · cases e
  · cases e
  · cases e
structure RK (X : Cx) (kws : List Keyword) (t : TA) (m : MA) : Prop where
  pk : PK X kws t
  sn : SndA X.K X.mg t m
theorem rk_nil : RK X [] tNil mNil := ⟨pk_nil, sn_nil⟩
theorem rk_cons {e : Expr} {kws : List Keyword} {t : TE} {u : TA} {a : ME} {as : MA} {nm : Option Str} {kpos : Pos} (ha : RE X e t a) (hs : RK X kws u as) : RK X (⟨nm, e, kpos⟩ :: kws) (tCons t u) (mCons a as) := ⟨pk_cons ha.pe hs.pk, sn_cons ha.sn hs.sn⟩
section
variable {k : Nat} {f : Addr} {fd : FuncData} {ps ks : List Str} {n kk m : Nat} {fm : FM} {x : Str} {p pos : Pos} {e : Expr} {es : List Expr} {kws : List Keyword} {t tk : TA} {as ak : MA} {ix : List Nat}
theorem rn_callK (F : FnG X.prog X.w X.K X.mg X.base CX0 k f fd ps (spD X.K X.mg kk fm)) (hG : X.A.guards = some []) (hr : Room k X.A) (hg : Gl X x) (hm : X.mg x = some (.ref f)) (hk : PySem.W.keepIn X.K (.ref f) = true) (hb : KwTo X.K fd ps n ks ix)
    (ha : RA X (e :: es) t as) (hkw : RK X kws tk ak) (hall : (backToKw pos (keywordEach kws X.env)).all (·.1.isSome) = true := by rfl) (hks : (backToKw pos (keywordEach kws X.env)).filterMap (·.1) = ks := by rfl)
    (hdb : (x == ("__debug__" : Str)) = false := by decide) (he : starEach (e :: es) X.env = (false, eval e X.env) :: starEach es X.env := by rfl)
    (hpl : ((backTo pos (starEach (e :: es) X.env)).any (·.1) || (backToKw pos (keywordEach kws X.env)).any (·.1.isNone)) = false := by rfl) (hl : ks.length = m := by rfl) :
    RN X (.Call (.Name x p) (e :: es) kws pos) (tCallO (spD X.K X.mg kk fm) ix n ks.length E0 t tk) (mCallO ix n m kk fm as ak) := ⟨pe_callGK F hG hr hg hm hk hb pass0 ha.pa hkw.pk hall hks hdb he hpl, hl ▸ sn_callO ha.sn hkw.sn⟩
theorem rn_callK0 (F : FnG X.prog X.w X.K X.mg X.base CX0 k f fd ps (spD X.K X.mg kk fm)) (hG : X.A.guards = some []) (hr : Room k X.A) (hg : Gl X x) (hm : X.mg x = some (.ref f)) (hk : PySem.W.keepIn X.K (.ref f) = true) (hb : KwTo X.K fd ps 0 ks ix)
    (hkw : RK X kws tk ak) (hall : (backToKw pos (keywordEach kws X.env)).all (·.1.isSome) = true := by rfl) (hks : (backToKw pos (keywordEach kws X.env)).filterMap (·.1) = ks := by rfl)
    (hdb : (x == ("__debug__" : Str)) = false := by decide)
    (hpl : ((backTo pos (starEach [] X.env)).any (·.1) || (backToKw pos (keywordEach kws X.env)).any (·.1.isNone)) = false := by rfl) (hl : ks.length = m := by rfl) :
    RN X (.Call (.Name x p) [] kws pos) (tCallO (spD X.K X.mg kk fm) ix 0 ks.length E0 tNil tk) (mCallO ix 0 m kk fm mNil ak) := ⟨pe_callGK0 F hG hr hg hm hk hb pass0 hkw.pk hall hks hdb hpl, hl ▸ sn_callO sn_nil hkw.sn⟩
end
end
end CW

namespace CW
open PySem PySem.Spec PyProof.Rows L2
section
variable {prog : Program} {w : World} {h₀ : Heap}
theorem call_repr_data {v : Value} {d : PyData} {as : List Addr} (r : Reads h₀ v d as) (hs : d.showable = true) (hsm : d.hasDict = true → sysModules ∉ as) (hz : d.shown.length ≤ sizeLine) (hnd : d.hasDict = false) {A : Around} {E : Value → Shared → Prop} {s : Shared} {Q : Value → Shared → Prop}
    (hg : A.guards = some []) (hu : A.units + 1 + d.depth < cLine) (hk0 : ∀ b o, h₀.get? b = some o → s.heap.get? b = some o)
    (hQ : ∀ h' u tk, (∀ b o, s.heap.get? b = some o → h'.get? b = some o) → Q (.str d.shown u) { s with heap := h', toks := tk }) : wpAny (model prog w) A (call (.builtin "repr") [v]) Q E s := by
  cases r with
  | none => exact PySem.P.repr_of_none (hQ s.heap _ _ fun _ _ e => e)
  | bool b => exact PySem.P.repr_of_bool (hQ s.heap _ _ fun _ _ e => e)
  | int i t => exact PySem.P.repr_of_int (by simpa [PyData.showable] using hs) (hQ s.heap _ _ fun _ _ e => e)
  | str x t => exact PySem.P.repr_of_str (hQ s.heap _ _ fun _ _ e => e) (by simpa only [PyData.shown] using hz)
  | dict => simp [PyData.hasDict] at hnd
  | @list a o vs n xs as1 h1 h2 h3 h4 =>
    have hz' : (listText (PyData.shownAll xs)).length ≤ sizeLine := by simpa only [PyData.shown] using hz
    obtain ⟨bs, hb, hk⟩ := ReprAllK.of_readsAll (prog := prog) (w := w) h4 (by simpa [PyData.showable] using hs) (fun hx hm => hsm (by simpa [PyData.hasDict] using hx) (List.mem_cons_of_mem _ hm)) (fun t ht => Nat.le_trans (listText_mem_le ht) hz')
    have r : Reads h₀ (.ref a) (.list xs) _ := .list h1 h2 h3 h4
    have hna : a ∉ bs := not_mem_of_deeper r (by simp only [PyData.depth]; omega) hb
    simp only [PyData.depth] at hu
    simp only [PyData.shown] at hQ
    obtain ⟨l⟩ := vs
    have hT : s.TypeIs (.ref a) "list" := ⟨_, hk0 _ _ h1, h2⟩
    refine call_repr_slot (by omega) hT F.slot_list_repr.toG ?_
    cases l with
    | nil =>
      have h4' : ReadsAll h₀ [] xs _ := h4
      cases h4'
      simp only [PyData.shownAll, listText_nil] at hQ
      exact call_list_repr_empty hT (hk0 _ _ h1) h3 ⟨_, _, rfl, hQ s.heap _ _ fun _ _ e => e⟩
    | cons x l =>
      exact call_list_reprK (g := []) h1 h2 h3 hna (by simpa using hk.length_eq) (fun i y e => hk.item i y (by simpa using e)) hg (fun b _ => Clear.nil b) (by show A.units + 1 + _ < cLine; omega) hk0 (fun h' u tk hk' => ⟨_, _, rfl, hQ h' u tk hk'⟩) hz'
  | @tuple a o vs n xs as1 h1 h2 h3 h4 =>
    have hz' : (tupleText (PyData.shownAll xs)).length ≤ sizeLine := by simpa only [PyData.shown] using hz
    obtain ⟨bs, hb, hk⟩ := ReprAllK.of_readsAll (prog := prog) (w := w) h4 (by simpa [PyData.showable] using hs) (fun hx => hsm (by simpa [PyData.hasDict] using hx)) (fun t ht => Nat.le_trans (tupleText_mem_le ht) hz')
    have r : Reads h₀ (.ref a) (.tuple xs) _ := .tuple h1 h2 h3 h4
    have hna : a ∉ bs := not_mem_of_deeper r (by simp only [PyData.depth]; omega) hb
    simp only [PyData.depth] at hu
    simp only [PyData.shown] at hQ
    have hT : s.TypeIs (.ref a) "tuple" := ⟨_, hk0 _ _ h1, h2⟩
    refine call_repr_slot (by omega) hT F.slot_tuple_repr ?_
    exact call_tuple_reprK (g := []) h1 h2 h3 hna hk hg (fun b _ => Clear.nil b) (by show A.units + 1 + _ < cLine; omega) hk0 (fun h' u tk hk' => ⟨_, _, rfl, hQ h' u tk hk'⟩) hz'
end

/-! nested data with empty dicts in it -/
mutual
def rpD : PyData → Bool
  | .none => true
  | .bool _ => true
  | .int _ => true
  | .str _ => true
  | .list ds => rpA ds
  | .tuple ds => rpA ds
  | .dict [] => true
  | .dict (_ :: _) => false
def rpA : List PyData → Bool
  | [] => true
  | d :: ds => rpD d && rpA ds
end
mutual
theorem rpD_of : ∀ d : PyData, d.hasDict = false → rpD d = true
  | .none, _ => rfl
  | .bool _, _ => rfl
  | .int _, _ => rfl
  | .str _, _ => rfl
  | .list ds, h => by unfold rpD; exact rpA_of ds (by simpa [PyData.hasDict] using h)
  | .tuple ds, h => by unfold rpD; exact rpA_of ds (by simpa [PyData.hasDict] using h)
  | .dict _, h => by simp [PyData.hasDict] at h
theorem rpA_of : ∀ ds : List PyData, PyData.hasDictAll ds = false → rpA ds = true
  | [], _ => rfl
  | d :: ds, h => by
    simp only [PyData.hasDictAll, Bool.or_eq_false_iff] at h
    unfold rpA
    rw [rpD_of d h.1, rpA_of ds h.2]
    rfl
end
section
variable {X : Cx} {pins : List (Addr × Obj)} {σ : L2.St} {H : Hp} {s : Shared}
/-- an empty dict in the heap -/
theorem dk_empty (I : Inv X pins σ H s) {a : Addr} (ha : H a = some (.dK [])) : ∃ o n, s.heap.get? a = some o ∧ o.cls = .type "dict" ∧ o.data = .dict #[] n ∧ (a == sysModules) = false := by
  obtain ⟨z, hd, vs, rel, dd⟩ := dk_of I.hok ha
  cases rel
  obtain ⟨o, es, ep, ho, hx, hdat, _, pr, _⟩ := dd
  have e0 : es.toList = [] := by
    cases he : es.toList with
    | nil => rfl
    | cons y ys => rw [he] at pr; cases pr
  have e1 : es = #[] := Array.toList_eq_nil_iff.mp e0
  subst e1
  exact ⟨o, ep, ho, hx.1, hdat, hd⟩
mutual
theorem dp_rp (I : Inv X pins σ H s) : ∀ {d : PyData} {v : V}, Dp X.K H v d → ∀ {u : Value}, RelV v u → rpD d = true → d.showable = true → d.shown.length ≤ sizeLine →
    ∃ as bs, Reads s.heap u d as ∧ ReadAtMost s.heap d.depth bs ∧ ReprK X.prog X.w bs s.heap d.depth u d.shown
  | _, _, .non, _, r, _, _, _ => by
    cases r
    exact ⟨[], [], .none, (fun _ h => nomatch h), by simp only [PyData.shown]; exact .of_is ReprIs.none _ _ _⟩
  | _, _, .bl b, _, r, _, _, _ => by
    cases r
    exact ⟨[], [], .bool b, (fun _ h => nomatch h), by simp only [PyData.shown]; exact .of_is (ReprIs.bool b) _ _ _⟩
  | _, _, .int i, _, r, _, hs, _ => by
    obtain ⟨t, rfl⟩ := r
    exact ⟨[], [], .int i t, (fun _ h => nomatch h), by simp only [PyData.shown]; exact .of_is (ReprIs.int t (by simpa [PyData.showable] using hs)) _ _ _⟩
  | _, _, .str x, _, r, _, _, hz => by
    obtain ⟨t, rfl⟩ := r
    exact ⟨[], [], .str x t, (fun _ h => nomatch h), by simp only [PyData.shown]; exact .of_is (ReprIs.str x t (by simpa only [PyData.shown] using hz)) _ _ _⟩
  | _, _, .lst (ds := ds) hs ha, _, r, hp, hsh, hz => by
    cases r
    have z : (listText (PyData.shownAll ds)).length ≤ sizeLine := by simpa only [PyData.shown] using hz
    obtain ⟨its, rv, ⟨o, n, ho, hc, _, hd⟩, _⟩ := I.list hs
    obtain ⟨as, bs, ra, hb, hk⟩ := dpa_rp I ha rv (by unfold rpD at hp; exact hp) (by simpa [PyData.showable] using hsh) fun t ht => Nat.le_trans (listText_mem_le ht) z
    have r := Reads.list ho hc hd ra
    have hn : _ ∉ bs := not_mem_of_deeper r (by simp only [PyData.depth]; omega) hb
    refine ⟨_, _, r, ReadAtMost.cons r (by simp only [PyData.depth]; omega) hb, ?_⟩
    simp only [PyData.depth, PyData.shown]
    cases its with
    | nil =>
      cases (show ReadsAll s.heap [] ds as from ra)
      simp only [PyData.shownAll, listText_nil]
      exact ReprK.listEmpty ho hc hd
    | cons x l => exact ReprK.list ho hc hd hn (by simpa using hk.length_eq) fun i y e => hk.item i y (by simpa using e)
  | _, _, .tup (ds := ds) hs ha, _, r, hp, hsh, hz => by
    cases r
    have z : (tupleText (PyData.shownAll ds)).length ≤ sizeLine := by simpa only [PyData.shown] using hz
    obtain ⟨its, rv, ⟨o, ho, hc, n, hd⟩, _⟩ := I.tuple hs
    obtain ⟨as, bs, ra, hb, hk⟩ := dpa_rp I ha rv (by unfold rpD at hp; exact hp) (by simpa [PyData.showable] using hsh) fun t ht => Nat.le_trans (tupleText_mem_le ht) z
    have r := Reads.tuple ho hc hd ra
    have hn : _ ∉ bs := not_mem_of_deeper r (by simp only [PyData.depth]; omega) hb
    refine ⟨_, _, r, ReadAtMost.cons r (by simp only [PyData.depth]; omega) hb, ?_⟩
    simp only [PyData.depth, PyData.shown]
    exact ReprK.tuple ho hc hd hn hk
  | _, _, .dct (a := a) q, _, r, _, _, _ => by
    cases r
    obtain ⟨o, n, ho, hc, hd, hsy⟩ := dk_empty I q
    have r := Reads.dict (kvs := []) ho hc hd .nil .nil
    refine ⟨_, [a], r, fun b hb => ?_, ?_⟩
    · rw [List.mem_singleton] at hb
      subst hb
      exact ⟨_, _, r, Nat.le_refl _⟩
    · have e := ReprK.dict (prog := X.prog) (w := X.w) (as := []) (d := 0) (ps := []) ho hc hd hsy (fun h => nomatch h) (ReprEntriesK.of_two [] [] [] .nil .nil)
      exact e
  | _, _, .exc _ _ _, _, _, hp, _, _ => by cases hp
theorem dpa_rp (I : Inv X pins σ H s) : ∀ {ds : List PyData} {vs : List V}, DpAll X.K H vs ds → ∀ {us : List Value}, Vals vs us → rpA ds = true → PyData.showableAll ds = true → (∀ t ∈ PyData.shownAll ds, t.length ≤ sizeLine) →
    ∃ as bs, ReadsAll s.heap us ds as ∧ ReadAtMost s.heap (PyData.depthAll ds) bs ∧ ReprAllK X.prog X.w bs s.heap (PyData.depthAll ds) us (PyData.shownAll ds)
  | _, _, .nil, _, r, _, _, _ => by
    cases r
    exact ⟨[], [], .nil, (fun _ h => nomatch h), by simp only [PyData.shownAll]; exact .nil⟩
  | _, _, .cons (d := d) (ds := ds) h1 h2, _, r, hp, hsh, hz => by
    cases r with
    | cons r1 r2 =>
      have p : rpD d = true ∧ rpA ds = true := by unfold rpA at hp; exact Bool.and_eq_true_iff.mp hp
      have sh : d.showable = true ∧ PyData.showableAll ds = true := by simpa [PyData.showableAll] using hsh
      obtain ⟨as, b1, q1, hb1, k1⟩ := dp_rp I h1 r1 p.1 sh.1 (hz _ (by simp only [PyData.shownAll]; exact List.mem_cons_self ..))
      obtain ⟨bs, b2, q2, hb2, k2⟩ := dpa_rp I h2 r2 p.2 sh.2 fun t ht => hz t (by simp only [PyData.shownAll]; exact List.mem_cons_of_mem _ ht)
      have m1 : d.depth ≤ PyData.depthAll (d :: ds) := by simp only [PyData.depthAll]; exact Nat.le_max_left _ _
      have m2 : PyData.depthAll ds ≤ PyData.depthAll (d :: ds) := by simp only [PyData.depthAll]; exact Nat.le_max_right _ _
      refine ⟨_, b1 ++ b2, .cons q1 q2, (hb1.mono m1).append (hb2.mono m2), ?_⟩
      simp only [PyData.shownAll]
      exact .cons ((k1.more fun b hb => List.mem_append_left _ hb).level_le m1) (k2.more_le (fun b hb => List.mem_append_right _ hb) m2)
end
theorem call_repr_nest (I : Inv X pins σ H s) {d : PyData} {v : V} {u : Value} (h : Dp X.K H v d) (r : RelV v u) (hp : rpD d = true) (hl : (∃ ds, d = .list ds) ∨ ∃ ds, d = .tuple ds) (hs : d.showable = true) (hz : d.shown.length ≤ sizeLine) {A : Around} {E : Value → Shared → Prop} {Q : Value → Shared → Prop}
    (hg : A.guards = some []) (hu : A.units + 1 + d.depth < cLine) (hQ : ∀ h' t tk, (∀ b o, s.heap.get? b = some o → h'.get? b = some o) → Q (.str d.shown t) { s with heap := h', toks := tk }) : wpAny (model X.prog X.w) A (call (.builtin "repr") [u]) Q E s := by
  rcases hl with ⟨ds, rfl⟩ | ⟨ds, rfl⟩
  · cases h with
    | lst hq ha =>
      cases r
      have z : (listText (PyData.shownAll ds)).length ≤ sizeLine := by simpa only [PyData.shown] using hz
      obtain ⟨its, rv, ⟨o, n, ho, hc, _, hd⟩, _⟩ := I.list hq
      obtain ⟨as, bs, ra, hb, hk⟩ := dpa_rp I ha rv (by unfold rpD at hp; exact hp) (by simpa [PyData.showable] using hs) fun t ht => Nat.le_trans (listText_mem_le ht) z
      have rd := Reads.list ho hc hd ra
      have hn : _ ∉ bs := not_mem_of_deeper rd (by simp only [PyData.depth]; omega) hb
      simp only [PyData.depth] at hu
      simp only [PyData.shown] at hQ
      refine call_repr_slot (by omega) ⟨_, ho, hc⟩ F.slot_list_repr.toG ?_
      cases its with
      | nil =>
        cases (show ReadsAll s.heap [] ds as from ra)
        simp only [PyData.shownAll, listText_nil] at hQ
        exact call_list_repr_empty ⟨_, ho, hc⟩ ho hd ⟨_, _, rfl, hQ s.heap _ _ fun _ _ e => e⟩
      | cons x l => exact call_list_reprK (g := []) ho hc hd hn (by simpa using hk.length_eq) (fun i y e => hk.item i y (by simpa using e)) hg (fun b _ => Clear.nil b) (by show A.units + 1 + _ < cLine; omega) (fun _ _ e => e) (fun h' u tk hk' => ⟨_, _, rfl, hQ h' u tk hk'⟩) z
  · cases h with
    | tup hq ha =>
      cases r
      have z : (tupleText (PyData.shownAll ds)).length ≤ sizeLine := by simpa only [PyData.shown] using hz
      obtain ⟨its, rv, ⟨o, ho, hc, n, hd⟩, _⟩ := I.tuple hq
      obtain ⟨as, bs, ra, hb, hk⟩ := dpa_rp I ha rv (by unfold rpD at hp; exact hp) (by simpa [PyData.showable] using hs) fun t ht => Nat.le_trans (tupleText_mem_le ht) z
      have rd := Reads.tuple ho hc hd ra
      have hn : _ ∉ bs := not_mem_of_deeper rd (by simp only [PyData.depth]; omega) hb
      simp only [PyData.depth] at hu
      simp only [PyData.shown] at hQ
      refine call_repr_slot (by omega) ⟨_, ho, hc⟩ F.slot_tuple_repr ?_
      exact call_tuple_reprK (g := []) ho hc hd hn hk hg (fun b _ => Clear.nil b) (by show A.units + 1 + _ < cLine; omega) (fun _ _ e => e) (fun h' u tk hk' => ⟨_, _, rfl, hQ h' u tk hk'⟩) z
end
end CW

namespace CW
open PySem PySem.Spec PyProof.Rows L2 HT
/-! t[::-1] -/
section
variable {prog : Program} {w : World} {A : Around} {E : Value → Shared → Prop} {s : Shared}
theorem adjust_rev (n : Nat) : Builtin.Slice.sliceAdjust none none (-1) (n : Int) = ((n : Int) - 1, -1) := by
  unfold Builtin.Slice.sliceAdjust
  simp
theorem places_rev (n : Nat) : Builtin.Slice.slicePlaces ((n : Int) - 1) (-1) (-1) = n := by
  unfold Builtin.Slice.slicePlaces
  have h1 : ¬ ((-1 : Int) > 0) := by omega
  simp only [h1, if_false]
  simp
  split <;> omega
theorem pick_rev (xs : Array Value) : ((List.range xs.size).filterMap fun (k : Nat) => xs[((xs.size : Int) - 1 + (k : Int) * (-1)).toNat]?).toArray = xs.toList.reverse.toArray := by
  have h := PySem.W.krv_pick xs
  unfold slicePick at h
  rw [PySem.W.krv_bounds] at h
  rw [← h]
  show _ = ((sliceRange ((xs.size : Int) - 1) (-1) (-1)).filterMap (xs[·]?)).toArray
  rw [PySem.W.krv_sliceRange, List.filterMap_map]
  have fm : ∀ (l : List Nat) (f g : Nat → Option Value), (∀ k ∈ l, f k = g k) → l.filterMap f = l.filterMap g := by
    intro l f g
    induction l with
    | nil => intro _; rfl
    | cons a l ih =>
      intro h
      rw [List.filterMap_cons, List.filterMap_cons, h a (List.mem_cons_self ..), ih (fun k hk => h k (List.mem_cons_of_mem _ hk))]
  congr 1
  refine fm _ _ _ fun k hk => ?_
  have hk' := List.mem_range.mp hk
  have e : ((xs.size : Int) - 1 + (k : Int) * (-1)).toNat = xs.size - 1 - k := by omega
  show xs[_]? = xs[xs.size - 1 - k]?
  rw [e]
theorem getItem_tuple_rev {t sl : Addr} {items : Array Value} {vl vu vs : Value} {Q : Value → Shared → Prop} (ht : IsTup s.heap t items) (hs : s.heap.IsSliceOf sl vl vu vs) (pl : IsPart vl none) (pu : IsPart vu none) (ps : IsPart vs (some (-1)))
    (h : Q (.ref s.heap.objs.size) { s with heap := s.heap.push { cls := .type "tuple", data := .seq items.toList.reverse.toArray } }) (hsz : items.size ≤ sizeLine) : wpAny (model prog w) A (getItem (.ref t) (.ref sl)) Q E s := by
  have htake : sizeOk (.seq items.toList.reverse.toArray) := by
    show items.toList.reverse.toArray.size ≤ sizeLine
    rw [List.size_toArray, List.length_reverse, Array.length_toList]
    exact hsz
  obtain ⟨os, hos, hcs, hds⟩ := id hs
  have hTs : s.TypeIs (.ref sl) "slice" := ⟨os, hos, hcs⟩
  unfold getItem
  try with_reducible refine wpAny_holding ?_
  first | refine wpAny_bind (wpAny_pure ?_) | skip
  refine wpAny_bind (wpAny_sequenceKey ht.typeIs (by decide) ?_)
  refine wpAny_bind (wpAny_callSpecial?_slot (name := Str.ofString "__getitem__") ht.typeIs PyProof.Rows.slot_tuple_getitem
    (wpAny_call_entry PyProof.Rows.slot_tuple_getitem ht.typeIs entry_tuple_getitem ?_ (args_tuple_getitem _ _)))
  show wpAny _ _ (Builtin.Tuple.tupleItemsOf (.ref t) >>= _) _ _ s
  refine wpAny_bind (tupleItemsOf_ ht ?_)
  refine wpAny_bind (wpAny_typeOf hTs ?_)
  rw [if_pos (by decide)]
  have sa : ∀ {Q : Int × Int × Nat → Shared → Prop}, Q ((items.size : Int) - 1, -1, items.size) s → wpAny (model prog w) A.in1 (Builtin.Slice.sliceApplied (.ref sl) (pure (items.size : Int))) Q (fun e s' => E e s') s := by
    intro Q hq
    unfold Builtin.Slice.sliceApplied Builtin.Slice.sliceFields
    refine wpAny_bind (wpAny_bind (wpAny_field hos hds (x := vl) rfl (wpAny_bind (wpAny_field hos hds (x := vu) rfl (wpAny_bind (wpAny_field hos hds (x := vs) rfl (wpAny_pure ?_)))))))
    refine wpAny_bind (slicePart_ ps ?_)
    show wpAny _ _ (if ((-1 : Int) == 0) = true then _ else _) _ _ s
    rw [if_neg (by decide)]
    refine wpAny_bind (slicePart_ pl (wpAny_bind (slicePart_ pu (wpAny_bind (wpAny_pure ?_)))))
    show wpAny _ _ (match Builtin.Slice.sliceAdjust none none (-1) (items.size : Int) with | (lo, hi) => pure (lo, (-1 : Int), Builtin.Slice.slicePlaces lo hi (-1))) _ _ s
    rw [adjust_rev]
    show wpAny _ _ (pure ((items.size : Int) - 1, (-1 : Int), Builtin.Slice.slicePlaces ((items.size : Int) - 1) (-1) (-1))) _ _ s
    rw [places_rev]
    exact wpAny_pure hq
  refine wpAny_bind (sa ?_)
  have hno : ¬ ((((items.size : Int) - 1) == 0 && (-1 : Int) == 1 && items.size == items.size) = true) := by
    intro q
    rw [Bool.and_eq_true, Bool.and_eq_true] at q
    exact absurd q.1.2 (by decide)
  show wpAny _ _ (if (((items.size : Int) - 1) == 0 && (-1 : Int) == 1 && items.size == items.size) = true then _ else _) _ _ s
  rw [if_neg hno, pick_rev]
  first
    | exact wpAny_bind (m := Builtin.Tuple.tupleExact _) (wpAny_newObj_type (wpAny_pure ⟨_, rfl, wpAny_pure h⟩) htake)
    | exact wpAny_bind (m := Builtin.Tuple.tupleExact _) (wpAny_newObj_type (wpAny_bind (wpAny_pure (wpAny_pure ⟨_, rfl, wpAny_pure h⟩))) htake)
    | exact wpAny_bind (wpAny_bind (m := Builtin.Tuple.tupleExact _) (wpAny_newObj_type (wpAny_pure (wpAny_pure ⟨_, rfl, wpAny_pure h⟩)) htake))
    | exact wpAny_bind (wpAny_bind (m := Builtin.Tuple.tupleExact _) (wpAny_newObj_type (wpAny_pure ⟨_, rfl, wpAny_pure h⟩) htake))
end
section
variable {X : Cx} {K : PySem.W.Frag} {mg : Str → Option Value}
def tRevT (K : PySem.W.Frag) (te : TE) : TE := fun σ H Q => te σ H fun x H1 => ∃ a xs, x = .ref a ∧ SqT K H1 a xs ∧ ∀ p, H1 p = none → Q (.ref p) (upd H1 p (.tup xs.reverse))
theorem pe_revT {e : Expr} {te : TE} {k : Nat} {p1 p2 p3 pos : Pos} (he : PE X e te) : PE X (.Subscript e (.Slice none none (some (.UnaryOp .USub (.Constant (.int 1) k p1) p2)) p3) pos) (tRevT X.K te) := by
  refine ⟨fun pins s σ H Q I h => ?_⟩
  refine Subscript_ (thn (he.run pins s σ H _ I h) fun v s1 ⟨x, H1, I1, r1, q1⟩ => ?_)
  obtain ⟨a, xs, ex, hx, q⟩ := q1
  subst ex
  cases r1
  have hst : PO X (some (.UnaryOp .USub (.Constant (.int 1) k p1) p2)) (tPart (tUn (rU fun i => .int (-i)) (tC (.int 1)))) := po_some (pe_un un_neg pe_int)
  refine wpAny_Slice (thn (po_none.run pins s1 σ H1 (fun o H2 => o = none ∧ H2 = H1) I1 ⟨rfl, rfl⟩) fun vl s2 ⟨l, H2, I2, pl, el, e2⟩ => ?_)
  subst el e2
  refine thn (po_none.run pins s2 σ H2 (fun o H3 => o = none ∧ H3 = H2) I2 ⟨rfl, rfl⟩) fun vu s3 ⟨u, H3, I3, pu, eu, e3⟩ => ?_
  subst eu e3
  refine thn (hst.run pins s3 σ H3 (fun o H4 => o = some (-1) ∧ H4 = H3) I3 ⟨1, rfl, -1, rfl, rfl, rfl⟩) fun vs s4 ⟨o, H4, I4, ps, eo, e4⟩ => ?_
  subst eo e4
  have I5 : Inv X pins σ H4 { s4 with heap := s4.heap.push { cls := .type "slice", data := .fields #[vl, vu, vs] } } := I4.kept (t' := s4.toks) fun b ob q => Heap.get?_push_of_some _ q
  obtain ⟨its, r, ht, hz⟩ := I5.tuple hx
  have hlen := r.length
  show wpAny (model X.prog X.w) X.A (subscriptTail e (.Slice none none (some (.UnaryOp .USub (.Constant (.int 1) k p1) p2)) p3) (.ref a) (.ref s4.heap.objs.size)) (EP X pins σ Q) X.xe { s4 with heap := s4.heap.push { cls := .type "slice", data := .fields #[vl, vu, vs] } }
  refine tail_any (ops := [.ref a, .ref s4.heap.objs.size]) ht.typeIs (PyProof.Rows.slot_tuple_getitem.lookup) ?_ (by with_unfolding_all rfl)
  refine getItem_tuple_rev ht (Heap.IsSliceOf.new _ vl vu vs) pl pu ps ?_ (by rw [List.size_toArray, ← hlen]; exact hz)
  refine ⟨.ref _, _, I5.laid (t' := s4.toks) (o := .tup xs.reverse) (fun b ob q => Heap.get?_push_of_some _ q) (Nat.le_refl _) ?_, rfl, q _ (I5.hok.fresh (Nat.le_refl _))⟩
  exact ⟨by rw [List.length_reverse]; exact hz, _, r.reverse, IsTup.new _ _⟩
theorem pe_either {e : Expr} {t t' : TE} (h : PE X e t) (h' : PE X e t') : PE X e (fun σ H Q => t σ H Q ∨ t' σ H Q) := ⟨fun pins s σ H Q I q => q.elim (h.run pins s σ H Q I) (h'.run pins s σ H Q I)⟩
def fRev : PyData → Res Sl
  | .list xs => .ok (.own xs.reverse)
  | .tuple xs => .ok (.val (.tuple xs.reverse))
  | _ => .no
def mUnN (f : PyData → Res Sl) (m : ME) : MN := fun δ => match m δ with
  | .ok (d, δ1) => (match f d with
    | .ok s => .ok (s, δ1)
    | .err c d => .err c d
    | .no => .no)
  | .err c d => .err c d
  | .no => .no
theorem sn_rev {t : TE} {m : ME} (h : SndE K mg t m) : SndN K mg (fun σ H Q => tRevL K t σ H Q ∨ tRevT K t σ H Q) (mUnN fRev m) := fun {ρ Fr F δ σ H s δ'} r e {Q} q => by
  unfold mUnN at e
  split at e
  · rename_i d δ1 e1
    split at e
    · rename_i s' e2
      cases e
      unfold fRev at e2
      split at e2
      · cases e2
        refine .inl (h r e1 fun F1 v H1 s1 r1 d1 => ?_)
        cases d1 with
        | lst hs da => exact ⟨_, _, rfl, sqL_mono r1.sub hs, fun p hp => q F1 _ _ s1 (r1.temp hp (dpa_rev da))⟩
      · cases e2
        refine .inr (h r e1 fun F1 v H1 s1 r1 d1 => ?_)
        cases d1 with
        | tup hs da => exact ⟨_, _, rfl, sqT_mono r1.sub hs, fun p hp => q _ _ _ (s1.trans (same_upd (r1.fF hp))) ((r1.frz hp).tval (.tup (SqT.of upd_same) ((dpa_rev da).up (same_upd (r1.fF hp)))))⟩
      · cases e2
    · cases e
    · cases e
  · cases e
  · cases e
theorem rn_rev {e : Expr} {t : TE} {m : ME} {k : Nat} {p1 p2 p3 pos : Pos} (h : RE X e t m) : RN X (.Subscript e (.Slice none none (some (.UnaryOp .USub (.Constant (.int 1) k p1) p2)) p3) pos) (fun σ H Q => tRevL X.K t σ H Q ∨ tRevT X.K t σ H Q) (mUnN fRev m) :=
  ⟨pe_either (pe_revL h.pe) (pe_revT h.pe), sn_rev h.sn⟩
end
end CW

namespace CW
open PySem PySem.Spec PyProof.Rows L2
/-! sorted(xs[, reverse=b]) of alike data -/
def tup1 : PyData → Bool
  | .tuple (_ :: _) => true
  | _ => false
def notTup : PyData → Bool
  | .none => false
  | .tuple _ => false
  | _ => true
def sortOk (xs : List PyData) : Bool := xs.all (fun d => xs.all fun d' => W.alike d d') && (xs.all tup1 || xs.all notTup) && xs.all (fun d => decide (d.depth ≤ 60))
theorem sortOk_alike {xs : List PyData} (h : sortOk xs = true) : W.AllAlike xs := fun d hd d' hd' => by
  unfold sortOk at h
  rw [Bool.and_eq_true, Bool.and_eq_true, List.all_eq_true] at h
  exact List.all_eq_true.mp (h.1.1 d hd) d' hd'
theorem sortOk_able {xs : List PyData} (h : sortOk xs = true) : W.Sortable xs := by
  unfold sortOk at h
  rw [Bool.and_eq_true, Bool.and_eq_true, Bool.or_eq_true, List.all_eq_true, List.all_eq_true, List.all_eq_true] at h
  rcases h.1.2 with h | h
  · refine .inl fun d hd => ?_
    have z := h d hd
    cases d with
    | tuple ys =>
      cases ys with
      | nil => cases z
      | cons x r => exact ⟨x, r, rfl⟩
    | _ => cases z
  · refine .inr fun d hd => ?_
    have z := h d hd
    cases d with
    | none => cases z
    | tuple ys => cases z
    | _ => exact ⟨fun e => (nomatch e), fun _ e => (nomatch e)⟩
mutual
theorem alike_noDict : ∀ d : PyData, W.alike d d = true → d.hasDict = false
  | .none, _ => rfl
  | .bool _, _ => rfl
  | .int _, _ => rfl
  | .str _, _ => rfl
  | .list xs, h => by simp only [PyData.hasDict]; exact alikeAll_noDict xs (by simpa [W.alike] using h)
  | .tuple xs, h => by simp only [PyData.hasDict]; exact alikeAll_noDict xs (by simpa [W.alike] using h)
  | .dict _, h => by simp [W.alike] at h
theorem alikeAll_noDict : ∀ ds : List PyData, W.alikeAll ds ds = true → PyData.hasDictAll ds = false
  | [], _ => rfl
  | d :: ds, h => by
    simp only [W.alikeAll, Bool.and_eq_true] at h
    simp only [PyData.hasDictAll, alike_noDict d h.1, alikeAll_noDict ds h.2, Bool.or_false]
end
theorem sortOk_noDict {xs : List PyData} (h : sortOk xs = true) : ∀ d ∈ xs, d.hasDict = false := fun d hd => alike_noDict d (sortOk_alike h d hd d hd)
theorem each_mem {α β : Type} {R : α → β → Prop} : ∀ {as : List α} {bs : List β}, W.EachIs R as bs → W.EachIs (fun a b => R a b ∧ b ∈ bs) as bs
  | _, _, .nil => .nil
  | _, _, .cons h t => .cons ⟨h, List.mem_cons_self ..⟩ ((each_mem t).mono fun _ _ q => ⟨q.1, List.mem_cons_of_mem _ q.2⟩)
theorem sortOk_depth {xs : List PyData} (h : sortOk xs = true) : ∀ d ∈ xs, d.depth ≤ 60 := fun d hd => by
  unfold sortOk at h
  rw [Bool.and_eq_true] at h
  exact of_decide_eq_true (List.all_eq_true.mp h.2 d hd)
section
variable {X : Cx}
theorem each_dp {K : PySem.W.Frag} {H : Hp} : ∀ {xs : List V} {us : List Value} {ds : List PyData}, Vals xs us → DpAll K H xs ds → W.EachIs (fun u d => ∃ x, RelV x u ∧ Dp K H x d) us ds
  | [], _, _, r, d => by cases r; cases d; exact .nil
  | x :: xs, _, _, r, d => by
    cases r with
    | cons r1 r2 => cases d with
      | cons d1 d2 => exact .cons ⟨x, r1, d1⟩ (each_dp r2 d2)
theorem dp_each {K : PySem.W.Frag} {H : Hp} : ∀ {us : List Value} {ds : List PyData}, W.EachIs (fun u d => ∃ x, RelV x u ∧ Dp K H x d) us ds → ∃ xs, Vals xs us ∧ DpAll K H xs ds
  | _, _, .nil => ⟨[], .nil, .nil⟩
  | _, _, .cons ⟨x, r, d⟩ t => by
    obtain ⟨xs, r2, d2⟩ := dp_each t
    exact ⟨x :: xs, .cons r r2, .cons d d2⟩
def rSortedD (K : PySem.W.Frag) : List V → Hp → VK → Prop := fun vs H Q => ∃ (F : Hp) (a : Addr) (xs : List V) (ds : List PyData), Same F H ∧ vs = [V.ref a] ∧ SqL K H a xs ∧ DpAll K F xs ds ∧ sortOk ds = true ∧
  ∀ (ys : List V) (p : Addr), DpAll K F ys (ds.mergeSort (W.dataLe false id)) → H p = none → Q (.ref p) (upd H p (.lst ys))
def rSortedRD (K : PySem.W.Frag) : List V → List V → Hp → VK → Prop := fun vs ws H Q => ∃ (F : Hp) (a : Addr) (xs : List V) (ds : List PyData) (b : Bool), Same F H ∧ vs = [V.ref a] ∧ ws = [V.bl b] ∧ SqL K H a xs ∧ DpAll K F xs ds ∧ sortOk ds = true ∧
  ∀ (ys : List V) (p : Addr), DpAll K F ys (ds.mergeSort (W.dataLe b id)) → H p = none → Q (.ref p) (upd H p (.lst ys))
theorem cr_sortedD (hu : X.A.units + 64 < cLine) : CallR X (.builtin "sorted") (rSortedD X.K) := by
  intro pins s σ H vs us Q I r h
  obtain ⟨F, a, xs, ds, sm, rfl, hs, da, ok, q⟩ := h
  obtain ⟨its, rv, hl, hz⟩ := I.list hs
  rw [Vals.ref1 r]
  have e := each_dp rv da
  have er : W.EachIs (fun v b => ∃ as, Reads s.heap v (id b) as) its ds := (each_mem e).mono fun v d ⟨⟨x, r1, d1⟩, hm⟩ => L2.Dp.reads I d x v (dp_old _ _ (d1.up sm) (sortOk_noDict ok d hm)) r1
  have lds : ds.length = its.length := e.length.symm
  refine W.sorted_data (bs := ds) (enc := id) hl.isList e er (by rw [List.map_id]; exact sortOk_alike ok) (by rw [List.map_id]; exact sortOk_able ok) (by rw [lds, ← rv.length]; exact hz) (fun d hd => by have := sortOk_depth ok d hd; show X.A.units + 2 + d.depth < cLine; omega) fun out ho eo => ?_
  obtain ⟨ys, r2, d2⟩ := dp_each eo
  obtain ⟨ep, he'⟩ := PyProof.Rows.sortedAll_at s.heap its out.toArray
  have hlen : ys.length ≤ sizeLine := by
    rw [r2.length, ho, lds, ← rv.length]; exact hz
  exact ⟨.ref _, upd H (s.heap.objs.size + 1) (.lst ys), I.laid (t' := s.toks) (fun _ _ => PyProof.Rows.sortedAll_old) (Nat.le_succ _) ⟨hlen, out, ep, r2, he'⟩, rfl, q _ _ d2 (I.hok.fresh (Nat.le_succ _))⟩
theorem cr_sortedRD (hu : X.A.units + 64 < cLine) : CallRK X (.builtin "sorted") [Str.ofString "reverse"] (rSortedRD X.K) := by
  intro pins s σ H vs ws us zs Q I r rw_ h
  obtain ⟨F, a, xs, ds, b, sm, rfl, rfl, hs, da, ok, q⟩ := h
  obtain ⟨its, rv, hl, hz⟩ := I.list hs
  rw [Vals.ref1 r]
  obtain ⟨u, rfl, rb⟩ := vals1 rw_
  cases rb
  have e := each_dp rv da
  have er : W.EachIs (fun v b => ∃ as, Reads s.heap v (id b) as) its ds := (each_mem e).mono fun v d ⟨⟨x, r1, d1⟩, hm⟩ => L2.Dp.reads I d x v (dp_old _ _ (d1.up sm) (sortOk_noDict ok d hm)) r1
  have lds : ds.length = its.length := e.length.symm
  refine W.sorted_rev_data (bs := ds) (enc := id) hl.isList e er (by rw [List.map_id]; exact sortOk_alike ok) (by rw [List.map_id]; exact sortOk_able ok) (by rw [lds, ← rv.length]; exact hz) (fun d hd => by have := sortOk_depth ok d hd; show X.A.units + 2 + d.depth < cLine; omega) fun out ho eo => ?_
  obtain ⟨ys, r2, d2⟩ := dp_each eo
  obtain ⟨ep, he'⟩ := PyProof.Rows.sortedAll_at s.heap its out.toArray
  have hlen : ys.length ≤ sizeLine := by
    rw [r2.length, ho, lds, ← rv.length]; exact hz
  exact ⟨.ref _, upd H (s.heap.objs.size + 1) (.lst ys), I.laid (t' := s.toks) (fun _ _ => PyProof.Rows.sortedAll_old) (Nat.le_succ _) ⟨hlen, out, ep, r2, he'⟩, rfl, q _ _ d2 (I.hok.fresh (Nat.le_succ _))⟩
end
end CW

namespace CW
open PySem PySem.Spec PyProof.Rows L2
section
variable {X : Cx} {K : PySem.W.Frag} {mg : Str → Option Value}
theorem callR_or {f : Value} {r r' : List V → Hp → VK → Prop} (h : CallR X f r) (h' : CallR X f r') : CallR X f (fun xs H Q => r xs H Q ∨ r' xs H Q) := fun pins s σ H xs us Q I rv q => q.elim (h pins s σ H xs us Q I rv) (h' pins s σ H xs us Q I rv)
def isSeq : PyData → Bool
  | .list _ => true
  | .tuple _ => true
  | _ => false
/-! len -/
def fLen : List PyData → Res Sl
  | [.list xs] => .ok (.val (.int (xs.length : Nat)))
  | [.tuple xs] => .ok (.val (.int (xs.length : Nat)))
  | [.str z] => if z.length ≤ sizeLine then .ok (.val (.int (z.length : Nat))) else .no
  | _ => .no
def rLenA (K : PySem.W.Frag) : List V → Hp → VK → Prop := fun xs H Q => (∃ p ys, xs = [.ref p] ∧ (SqL K H p ys ∨ SqT K H p ys) ∧ Q (.int ys.length) H) ∨ (∃ z, xs = [.str z] ∧ z.length ≤ sizeLine ∧ Q (.int z.length) H)
theorem call_lenA : CallR X (.builtin "len") (rLenA X.K) := callR_or call_len_seq call_len_str
theorem calln_len : CallN K mg (rLenA K) fLen := fun {ρ Fr F δ σ H vs ds s} r dv e {Q} q => by
  unfold fLen at e
  split at e
  · cases e
    cases dv with
    | cons d1 d2 =>
      cases d2
      cases d1 with
      | lst hs da => exact .inl ⟨_, _, rfl, .inl (sqL_mono r.sub hs), by rw [dpa_len da]; exact q F _ H (Same.refl _) (r.tval (.int _))⟩
  · cases e
    cases dv with
    | cons d1 d2 =>
      cases d2
      cases d1 with
      | tup hs da => exact .inl ⟨_, _, rfl, .inr (sqT_mono r.sub hs), by rw [dpa_len da]; exact q F _ H (Same.refl _) (r.tval (.int _))⟩
  · split at e
    · rename_i z hz
      cases e
      cases dv with
      | cons d1 d2 =>
        cases d2; cases d1
        exact .inr ⟨_, rfl, hz, q F _ H (Same.refl _) (r.tval (.int _))⟩
    · cases e
  · cases e
/-! list(..), tuple(..) of a list or a tuple -/
def fListOf : List PyData → Res Sl
  | [.list xs] => .ok (.own xs)
  | [.tuple xs] => .ok (.own xs)
  | _ => .no
def rListOf (K : PySem.W.Frag) : List V → Hp → VK → Prop := fun xs H Q => ∃ p ys, xs = [.ref p] ∧ (SqL K H p ys ∨ SqT K H p ys) ∧ ∀ l, H l = none → Q (.ref l) (upd H l (.lst ys))
theorem calln_list : CallN K mg (rListOf K) fListOf := fun {ρ Fr F δ σ H vs ds s} r dv e {Q} q => by
  unfold fListOf at e
  split at e
  · cases e
    cases dv with
    | cons d1 d2 =>
      cases d2
      cases d1 with
      | lst hs da => exact ⟨_, _, rfl, .inl (sqL_mono r.sub hs), fun l hl => q F _ _ (Same.refl _) (r.temp hl da)⟩
  · cases e
    cases dv with
    | cons d1 d2 =>
      cases d2
      cases d1 with
      | tup hs da => exact ⟨_, _, rfl, .inr (sqT_mono r.sub hs), fun l hl => q F _ _ (Same.refl _) (r.temp hl da)⟩
  · cases e
def fTupOf : List PyData → Res Sl
  | [.list xs] => .ok (.val (.tuple xs))
  | [.tuple xs] => .ok (.val (.tuple xs))
  | _ => .no
def rTupOf (K : PySem.W.Frag) : List V → Hp → VK → Prop := fun xs H Q => ∃ p ys, xs = [.ref p] ∧ ((SqL K H p ys ∧ ∀ l, H l = none → Q (.ref l) (upd H l (.tup ys))) ∨ (SqT K H p ys ∧ Q (.ref p) H))
theorem calln_tuple : CallN K mg (rTupOf K) fTupOf := fun {ρ Fr F δ σ H vs ds s} r dv e {Q} q => by
  unfold fTupOf at e
  split at e
  · cases e
    cases dv with
    | cons d1 d2 =>
      cases d2
      cases d1 with
      | lst hs da => exact ⟨_, _, rfl, .inl ⟨sqL_mono r.sub hs, fun l hl => q _ _ _ (same_upd (r.fF hl)) ((r.frz hl).tval (.tup (SqT.of upd_same) (da.up (same_upd (r.fF hl)))))⟩⟩
  · cases e
    cases dv with
    | cons d1 d2 =>
      cases d2
      cases d1 with
      | tup hs da => exact ⟨_, _, rfl, .inr ⟨sqT_mono r.sub hs, q F _ H (Same.refl _) (r.tval (.tup hs da))⟩⟩
  · cases e
/-! int(..) -/
def fInt : List PyData → Res Sl
  | [.int i] => .ok (.val (.int i))
  | [.bool b] => .ok (.val (.int (if b then 1 else 0)))
  | _ => .no
def rIntA : List V → Hp → VK → Prop := fun xs H Q => (∃ i, xs = [.int i] ∧ Q (.int i) H) ∨ ∃ k, xs = [.bl k] ∧ Q (.int (if k then 1 else 0)) H
theorem calln_int : CallN K mg rIntA fInt := fun {ρ Fr F δ σ H vs ds s} r dv e {Q} q => by
  unfold fInt at e
  split at e
  · cases e
    cases dv with
    | cons d1 d2 =>
      cases d2; cases d1
      exact .inl ⟨_, rfl, q F _ H (Same.refl _) (r.tval (.int _))⟩
  · cases e
    cases dv with
    | cons d1 d2 =>
      cases d2; cases d1
      exact .inr ⟨_, rfl, q F _ H (Same.refl _) (r.tval (.int _))⟩
  · cases e
/-! max, min of two ints; of a list of ints -/
def intsOf : List PyData → Option (List Int)
  | [] => some []
  | .int i :: ds => (intsOf ds).map (i :: ·)
  | _ :: _ => none
theorem intsOf_map : ∀ {ds : List PyData} {ns : List Int}, intsOf ds = some ns → ds = ns.map .int
  | [], ns, h => by cases h; rfl
  | d :: ds, ns, h => by
    cases d with
    | int i =>
      have h' : (intsOf ds).map (i :: ·) = some ns := h
      cases q : intsOf ds with
      | none => rw [q] at h'; cases h'
      | some ms =>
        rw [q] at h'
        cases h'
        rw [intsOf_map q]; rfl
    | _ => cases h
theorem intsOf_ints : ∀ ns : List Int, intsOf (ns.map .int) = some ns
  | [] => rfl
  | n :: ns => by
    show (intsOf (ns.map .int)).map (n :: ·) = _
    rw [intsOf_ints ns]; rfl
def fMax2 : List PyData → Res Sl
  | [.int i, .int j] => .ok (.val (.int (if j > i then j else i)))
  | _ => .no
def fMin2 : List PyData → Res Sl
  | [.int i, .int j] => .ok (.val (.int (if j < i then j else i)))
  | _ => .no
def rMaxP : List V → Hp → VK → Prop := fun xs H Q => ∃ i j, xs = [.int i, .int j] ∧ Q (.int (if j > i then j else i)) H
def rMinP : List V → Hp → VK → Prop := fun xs H Q => ∃ i j, xs = [.int i, .int j] ∧ Q (.int (if j < i then j else i)) H
theorem calln_max2 : CallN K mg rMaxP fMax2 := fun {ρ Fr F δ σ H vs ds s} r dv e {Q} q => by
  unfold fMax2 at e
  split at e
  · cases e
    cases dv with
    | cons d1 d2 =>
      cases d2 with
      | cons d3 d4 =>
        cases d4; cases d1; cases d3
        exact ⟨_, _, rfl, q F _ H (Same.refl _) (r.tval (.int _))⟩
  · cases e
theorem calln_min2 : CallN K mg rMinP fMin2 := fun {ρ Fr F δ σ H vs ds s} r dv e {Q} q => by
  unfold fMin2 at e
  split at e
  · cases e
    cases dv with
    | cons d1 d2 =>
      cases d2 with
      | cons d3 d4 =>
        cases d4; cases d1; cases d3
        exact ⟨_, _, rfl, q F _ H (Same.refl _) (r.tval (.int _))⟩
  · cases e
def maxL : List Int → Int
  | [] => 0
  | [n] => n
  | n :: ns => max n (maxL ns)
def minL : List Int → Int
  | [] => 0
  | [n] => n
  | n :: ns => min n (minL ns)
theorem maxL_le : ∀ {ns : List Int} {y : Int}, y ∈ ns → y ≤ maxL ns
  | [n], y, h => by simp at h; subst h; exact Int.le_refl _
  | n :: m :: ns, y, h => by
    show y ≤ max n (maxL (m :: ns))
    rcases List.mem_cons.mp h with h | h
    · subst h; exact Int.le_max_left ..
    · exact Int.le_trans (maxL_le h) (Int.le_max_right ..)
theorem minL_le : ∀ {ns : List Int} {y : Int}, y ∈ ns → minL ns ≤ y
  | [n], y, h => by simp at h; subst h; exact Int.le_refl _
  | n :: m :: ns, y, h => by
    show min n (minL (m :: ns)) ≤ y
    rcases List.mem_cons.mp h with h | h
    · subst h; exact Int.min_le_left ..
    · exact Int.le_trans (Int.min_le_right ..) (minL_le h)
theorem maxL_mem : ∀ {ns : List Int}, ns ≠ [] → maxL ns ∈ ns
  | [], h => absurd rfl h
  | [n], _ => by simp [maxL]
  | n :: m :: ns, _ => by
    show max n (maxL (m :: ns)) ∈ _
    have ih := maxL_mem (ns := m :: ns) (by simp)
    rcases Int.le_total n (maxL (m :: ns)) with h | h
    · rw [Int.max_eq_right h]; exact List.mem_cons_of_mem _ ih
    · rw [Int.max_eq_left h]; exact List.mem_cons_self ..
theorem minL_mem : ∀ {ns : List Int}, ns ≠ [] → minL ns ∈ ns
  | [], h => absurd rfl h
  | [n], _ => by simp [minL]
  | n :: m :: ns, _ => by
    show min n (minL (m :: ns)) ∈ _
    have ih := minL_mem (ns := m :: ns) (by simp)
    rcases Int.le_total n (minL (m :: ns)) with h | h
    · rw [Int.min_eq_left h]; exact List.mem_cons_self ..
    · rw [Int.min_eq_right h]; exact List.mem_cons_of_mem _ ih
def fMax1 : List PyData → Res Sl
  | [.list xs] => (match intsOf xs with
    | some ns => if ns.isEmpty then .no else .ok (.val (.int (maxL ns)))
    | none => .no)
  | _ => .no
def fMin1 : List PyData → Res Sl
  | [.list xs] => (match intsOf xs with
    | some ns => if ns.isEmpty then .no else .ok (.val (.int (minL ns)))
    | none => .no)
  | _ => .no
theorem dpa_intsOf {F : Hp} {vs : List V} {xs : List PyData} {ns : List Int} (h : DpAll K F vs xs) (e : intsOf xs = some ns) : vs = ns.map .int := by
  rw [intsOf_map e] at h
  exact dpa_ints h
theorem calln_max1 : CallN K mg (rMax K) fMax1 := fun {ρ Fr F δ σ H vs ds s} r dv e {Q} q => by
  unfold fMax1 at e
  split at e
  · split at e
    · rename_i xs ns e1
      split at e
      · cases e
      · rename_i hne
        cases e
        cases dv with
        | cons d1 d2 =>
          cases d2
          cases d1 with
          | lst hs da =>
            have hne' : ns ≠ [] := fun z => hne (by rw [z]; rfl)
            rw [dpa_intsOf da e1] at hs
            refine ⟨_, ns, rfl, sqL_mono r.sub hs, List.length_pos_iff.mpr hne', fun m h1 h2 => ?_⟩
            have em : m = maxL ns := Int.le_antisymm (maxL_le h1) (h2 _ (maxL_mem hne'))
            rw [em]
            exact q F _ H (Same.refl _) (r.tval (.int _))
    · cases e
  · cases e
theorem calln_min1 : CallN K mg (rMin K) fMin1 := fun {ρ Fr F δ σ H vs ds s} r dv e {Q} q => by
  unfold fMin1 at e
  split at e
  · split at e
    · rename_i xs ns e1
      split at e
      · cases e
      · rename_i hne
        cases e
        cases dv with
        | cons d1 d2 =>
          cases d2
          cases d1 with
          | lst hs da =>
            have hne' : ns ≠ [] := fun z => hne (by rw [z]; rfl)
            rw [dpa_intsOf da e1] at hs
            refine ⟨_, ns, rfl, sqL_mono r.sub hs, List.length_pos_iff.mpr hne', fun m h1 h2 => ?_⟩
            have em : m = minL ns := Int.le_antisymm (h2 _ (minL_mem hne')) (minL_le h1)
            rw [em]
            exact q F _ H (Same.refl _) (r.tval (.int _))
    · cases e
  · cases e
/-! sum, sorted of a list of ints -/
def fSum : List PyData → Res Sl
  | [.list xs] => (match intsOf xs with
    | some ns => .ok (.val (.int ns.sum))
    | none => .no)
  | [.tuple xs] => (match intsOf xs with
    | some ns => .ok (.val (.int ns.sum))
    | none => .no)
  | _ => .no
def rSumT (K : PySem.W.Frag) : List V → Hp → VK → Prop := fun vs H Q => ∃ (a : Addr) (ns : List Int), vs = [V.ref a] ∧ SqT K H a (ns.map V.int) ∧ Q (.int ns.sum) H
section
variable {prog : Program} {w : World} {A : Around} {E : Value → Shared → Prop} {s : Shared} {l : Addr} {its : List Value} {ns : List Int} {Q : Value → Shared → Prop}
theorem sum_rawT (hh : A.handled = none) (hl : s.heap.IsTuple l its.toArray) (hi : IntsAre its ns)
    (h : ∀ h' tk t', (∀ b o, s.heap.get? b = some o → h'.get? b = some o) → Q (.int ns.sum t') { s with heap := h', toks := tk }) : wpAny (model prog w) A (call (.builtin "sum") [.ref l]) Q E s := by
  obtain ⟨xs, e⟩ := hi.allInts.items
  have hn : numsOf (intItems xs).toList = ns := by rw [← e]; exact hi.numsOf
  rw [nums_intItems] at hn
  rw [e] at hl
  refine PySem.W.ktm_sumG hh hl fun h' tk t' hk => ?_
  have := h h' tk t' hk
  rw [preSum_eq, List.take_of_length_le (by simp), hn]; exact this
end
theorem cr_sumT (hc : X.calm = true) : CallR X (.builtin "sum") (rSumT X.K) := by
  intro pins s σ H vs us Q I r h
  obtain ⟨a, ns, rfl, hs, q⟩ := h
  obtain ⟨its, rv, pl, _⟩ := I.tuple hs
  rw [Vals.ref1 r]
  exact sum_rawT (I.ok.hd hc) pl rv.ints fun h' tk t' hk => ⟨.int _, H, I.kept hk, ⟨_, rfl⟩, q⟩
def rSumA (K : PySem.W.Frag) : List V → Hp → VK → Prop := fun xs H Q => rSum K xs H Q ∨ rSumT K xs H Q
theorem cr_sumA (hc : X.calm = true) : CallR X (.builtin "sum") (rSumA X.K) := callR_or (cr_sum hc) (cr_sumT hc)
theorem calln_sum : CallN K mg (rSumA K) fSum := fun {ρ Fr F δ σ H vs ds s} r dv e {Q} q => by
  unfold fSum at e
  split at e
  · split at e
    · rename_i xs ns e1
      cases e
      cases dv with
      | cons d1 d2 =>
        cases d2
        cases d1 with
        | lst hs da =>
          rw [dpa_intsOf da e1] at hs
          exact .inl ⟨_, ns, rfl, sqL_mono r.sub hs, q F _ H (Same.refl _) (r.tval (.int _))⟩
    · cases e
  · split at e
    · rename_i xs ns e1
      cases e
      cases dv with
      | cons d1 d2 =>
        cases d2
        cases d1 with
        | tup hs da =>
          rw [dpa_intsOf da e1] at hs
          exact .inr ⟨_, ns, rfl, sqT_mono r.sub hs, q F _ H (Same.refl _) (r.tval (.int _))⟩
    · cases e
  · cases e
def insI (n : Int) : List Int → List Int
  | [] => [n]
  | m :: ms => if n ≤ m then n :: m :: ms else m :: insI n ms
def srtI : List Int → List Int
  | [] => []
  | n :: ns => insI n (srtI ns)
theorem insI_perm (n : Int) : ∀ ms : List Int, (insI n ms).Perm (n :: ms)
  | [] => .refl _
  | m :: ms => by
    unfold insI
    split
    · exact .refl _
    · exact (List.Perm.cons m (insI_perm n ms)).trans (.swap ..)
theorem srtI_perm : ∀ ns : List Int, (srtI ns).Perm ns
  | [] => .refl _
  | n :: ns => (insI_perm n (srtI ns)).trans (List.Perm.cons n (srtI_perm ns))
theorem insI_sorted (n : Int) : ∀ {ms : List Int}, ms.Pairwise (· ≤ ·) → (insI n ms).Pairwise (· ≤ ·)
  | [], _ => by simp [insI]
  | m :: ms, h => by
    unfold insI
    rw [List.pairwise_cons] at h
    split
    · rename_i hn
      refine List.pairwise_cons.mpr ⟨fun y hy => ?_, List.pairwise_cons.mpr h⟩
      rcases List.mem_cons.mp hy with rfl | hy
      · exact hn
      · exact Int.le_trans hn (h.1 y hy)
    · rename_i hn
      refine List.pairwise_cons.mpr ⟨fun y hy => ?_, insI_sorted n h.2⟩
      rcases List.mem_cons.mp ((insI_perm n ms).mem_iff.mp hy) with rfl | hy
      · omega
      · exact h.1 y hy
theorem srtI_sorted : ∀ ns : List Int, (srtI ns).Pairwise (· ≤ ·)
  | [] => .nil
  | n :: ns => insI_sorted n (srtI_sorted ns)
theorem sorted_one {as bs : List Int} (p : as.Perm bs) (ha : as.Pairwise (· ≤ ·)) (hb : bs.Pairwise (· ≤ ·)) : as = bs :=
  p.eq_of_pairwise (fun a b _ _ h1 h2 => Int.le_antisymm h1 h2) ha hb
def fSorted : List PyData → Res Sl
  | [.list xs] => (match intsOf xs with
    | some ns => .ok (.own ((srtI ns).map .int))
    | none => if sortOk xs = true then .ok (.own (xs.mergeSort (W.dataLe false id))) else .no)
  | _ => .no
def rSortedA (K : PySem.W.Frag) : List V → Hp → VK → Prop := fun vs H Q => rSortedI K vs H Q ∨ rSortedD K vs H Q
theorem cr_sortedA (hu : X.A.units + 64 < cLine) : CallR X (.builtin "sorted") (rSortedA X.K) := callR_or cr_sortedI (cr_sortedD hu)
theorem calln_sorted : CallN K mg (rSortedA K) fSorted := fun {ρ Fr F δ σ H vs ds s} r dv e {Q} q => by
  unfold fSorted at e
  split at e
  · split at e
    · rename_i xs ns e1
      cases e
      cases dv with
      | cons d1 d2 =>
        cases d2
        cases d1 with
        | lst hs da =>
          rw [dpa_intsOf da e1] at hs
          refine .inl ⟨_, ns, rfl, sqL_mono r.sub hs, fun ns' p hp h1 h2 => ?_⟩
          have em : ns' = srtI ns := sorted_one (hp.trans (srtI_perm ns).symm) h1 (srtI_sorted ns)
          rw [em]
          exact q F _ _ (Same.refl _) (r.temp h2 (dpa_of_ints _))
    · split at e
      · rename_i xs ns ok
        cases e
        cases dv with
        | cons d1 d2 =>
          cases d2
          cases d1 with
          | lst hs da =>
            exact .inr ⟨F, _, _, _, r.sub, rfl, sqL_mono r.sub hs, da, ok, fun ys p h1 h2 => q F _ _ (Same.refl _) (r.temp h2 h1)⟩
      · cases e
  · cases e
/-! sorted(xs, reverse=b) -/
def mSortR (as ak : MA) : MN := fun δ => match as δ with
  | .ok (ds, δ1) => (match ak δ1 with
    | .ok (es, δ2) => (match ds, es with
      | [.list xs], [.bool b] => if sortOk xs = true then .ok (.own (xs.mergeSort (W.dataLe b id)), δ2) else .no
      | _, _ => .no)
    | .err c d => .err c d
    | .no => .no)
  | .err c d => .err c d
  | .no => .no
theorem sn_sortR {t tk : TA} {as ak : MA} (ha : SndA K mg t as) (hk : SndA K mg tk ak) : SndN K mg (tCKw (rSortedRD K) t tk) (mSortR as ak) := fun {ρ Fr F δ σ H d δ'} r e {Q} q => by
  unfold mSortR at e
  split at e
  · rename_i ds δ1 e1
    split at e
    · rename_i es δ2 e2
      split at e
      · rename_i xs b
        split at e
        · rename_i ok
          cases e
          refine ha r e1 fun F1 vs H1 s1 r1 d1 => hk r1 e2 fun F2 ws H2 s2 r2 d2 => ?_
          cases d1 with
          | cons d3 d4 =>
            cases d4
            cases d2 with
            | cons d5 d6 =>
              cases d6
              cases d5
              cases d3 with
              | lst hs da =>
                exact ⟨F2, _, _, _, _, r2.sub, rfl, rfl, sqL_mono (s2.trans r2.sub) hs, da.up s2, ok, fun ys p h1 h2 => q F2 _ _ (s1.trans s2) (r2.temp h2 h1)⟩
        · cases e
      · cases e
    · cases e
    · cases e
  · cases e
  · cases e
/-! divmod -/
def fDivmod : List PyData → Res Sl
  | [.int i, .int j] => if 0 < j ∧ Builtin.divisionGoesByPylong i j = false then .ok (.val (.tuple [.int (i / j), .int (i % j)])) else .no
  | _ => .no
def rDivmod : List V → Hp → VK → Prop := fun xs H Q => ∃ i j, xs = [.int i, .int j] ∧ CDivP i j ∧ ∀ p, H p = none → Q (.ref p) (upd H p (.tup [.int (i / j), .int (i % j)]))
theorem calln_divmod : CallN K mg rDivmod fDivmod := fun {ρ Fr F δ σ H vs ds s} r dv e {Q} q => by
  unfold fDivmod at e
  split at e
  · split at e
    · rename_i i j h
      cases e
      cases dv with
      | cons d1 d2 =>
        cases d2 with
        | cons d3 d4 =>
          cases d4; cases d1; cases d3
          exact ⟨i, j, rfl, h, fun p hp => q _ _ _ (same_upd (r.fF hp)) ((r.frz hp).tval (.tup (SqT.of upd_same) (.cons (.int _) (.cons (.int _) .nil))))⟩
    · cases e
  · cases e
/-! repr -/
def fRepr : List PyData → Res Sl
  | [.dict []] => .ok (.val (.str "{}"))
  | [d] => if d.showable = true ∧ rpD d = true ∧ d.depth ≤ 60 ∧ d.shown.length ≤ sizeLine then .ok (.val (.str d.shown)) else .no
  | _ => .no
theorem fRepr_gd {d : PyData} (h1 : d.showable = true) (h0 : rpD d = true) (h2 : d.depth ≤ 60) (h3 : d.shown.length ≤ sizeLine) : fRepr [d] = .ok (.val (.str d.shown)) := by
  cases d with
  | dict kvs =>
    cases kvs with
    | nil => rfl
    | cons q qs => cases h0
  | none => simp only [fRepr]; rw [if_pos ⟨h1, h0, h2, h3⟩]
  | bool b => simp only [fRepr]; rw [if_pos ⟨h1, h0, h2, h3⟩]
  | int i => simp only [fRepr]; rw [if_pos ⟨h1, h0, h2, h3⟩]
  | str x => simp only [fRepr]; rw [if_pos ⟨h1, h0, h2, h3⟩]
  | list xs => simp only [fRepr]; rw [if_pos ⟨h1, h0, h2, h3⟩]
  | tuple xs => simp only [fRepr]; rw [if_pos ⟨h1, h0, h2, h3⟩]
theorem fRepr_go {d : PyData} (h1 : d.showable = true) (h0 : d.hasDict = false) (h2 : d.depth ≤ 60) (h3 : d.shown.length ≤ sizeLine) : fRepr [d] = .ok (.val (.str d.shown)) := fRepr_gd h1 (rpD_of d h0) h2 h3
def rReprD (K : PySem.W.Frag) : List V → Hp → VK → Prop := fun xs H Q => ∃ x d, xs = [x] ∧ CW.Dp K H x d ∧ d.showable = true ∧ d.depth ≤ 60 ∧ d.shown.length ≤ sizeLine ∧ rpD d = true ∧ Q (.str d.shown) H
theorem repr_dict0 {prog : Program} {w : World} {A : Around} {E : Value → Shared → Prop} {s : Shared} {Q : Value → Shared → Prop} {a : Addr} {o : Obj} {n : Nat} (h1 : s.heap.get? a = some o) (h2 : o.cls = .type "dict") (h3 : o.data = .dict #[] n) (hs : (a == sysModules) = false)
    (hg : A.guards = some []) (hu : A.units + 64 < cLine) (hQ : ∀ h' u tk, (∀ b o, s.heap.get? b = some o → h'.get? b = some o) → Q (.str "{}" u) { s with heap := h', toks := tk }) : wpAny (model prog w) A (call (.builtin "repr") [.ref a]) Q E s := by
  refine call_repr_slot (by omega) ⟨_, h1, h2⟩ F.slot_dict_repr ?_
  exact call_dict_reprK (as := []) (h₀ := s.heap) (d := 0) (ps := []) h1 h2 h3 hs (fun z => nomatch z) (ReprEntriesK.of_two [] [] [] .nil .nil) hg (fun b _ => Clear.nil b) (by show A.units + 1 + _ < cLine; omega) (fun _ _ e => e) (fun h' u tk hk' => ⟨_, _, rfl, hQ h' u tk hk'⟩) (by decide +kernel)
theorem call_reprD (hG : X.A.guards = some []) (hu : X.A.units + 64 < cLine) : CallR X (.builtin "repr") (rReprD X.K) := by
  intro pins s σ H xs us Q I rv h
  obtain ⟨x, d, rfl, dx, h1, h2, h3, nd, q⟩ := h
  obtain ⟨u, rfl, rx⟩ := vals1 rv
  have flat : ∀ {as}, Reads s.heap u d as → d.hasDict = false → wpAny (model X.prog X.w) X.A (call (.builtin "repr") [u]) (EP X pins σ Q) X.xe s := fun rd n =>
    call_repr_data rd h1 (fun z => by rw [n] at z; cases z) h3 n hG (by omega) (fun _ _ e => e) fun h' u tk hk => ⟨.str d.shown, H, I.kept hk, ⟨_, rfl⟩, q⟩
  cases d with
  | none => cases dx; cases rx; exact flat .none (by simp [PyData.hasDict])
  | bool b => cases dx; cases rx; exact flat (.bool b) (by simp [PyData.hasDict])
  | int i => cases dx; obtain ⟨t, rfl⟩ := rx; exact flat (.int i t) (by simp [PyData.hasDict])
  | str z => cases dx; obtain ⟨t, rfl⟩ := rx; exact flat (.str z t) (by simp [PyData.hasDict])
  | list ds => exact call_repr_nest I dx rx nd (.inl ⟨_, rfl⟩) h1 h3 hG (by omega) fun h' u tk hk => ⟨.str (PyData.list ds).shown, H, I.kept hk, ⟨_, rfl⟩, q⟩
  | tuple ds => exact call_repr_nest I dx rx nd (.inr ⟨_, rfl⟩) h1 h3 hG (by omega) fun h' u tk hk => ⟨.str (PyData.tuple ds).shown, H, I.kept hk, ⟨_, rfl⟩, q⟩
  | dict kvs =>
    cases dx with
    | dct ha =>
      cases rx
      obtain ⟨o, n, ho, hc, hd, hsy⟩ := dk_empty I ha
      exact repr_dict0 ho hc hd hsy hG hu fun h' u tk hk => ⟨.str "{}", H, I.kept hk, ⟨_, rfl⟩, q⟩
    | exc _ _ _ => cases nd
theorem calln_repr : CallN K mg (rReprD K) fRepr := fun {ρ Fr F δ σ H vs ds s} r dv e {Q} q => by
  have key : ∀ (d : PyData) (v : V), CW.Dp K F v d → d.showable = true → rpD d = true → d.depth ≤ 60 → d.shown.length ≤ sizeLine → s = .val (.str d.shown) → rReprD K [v] H Q := fun d v dd a b c z es => by
    subst es
    exact ⟨v, d, rfl, dd.up r.sub, a, c, z, b, q F _ H (Same.refl _) (r.tval (.str _))⟩
  unfold fRepr at e
  split at e
  · cases e
    cases dv with
    | cons d1 d2 =>
      cases d2
      exact key _ _ d1 (by decide +kernel) rfl (by decide +kernel) (by decide +kernel) rfl
  · split at e
    · rename_i d _ h
      cases e
      cases dv with
      | cons d1 d2 =>
        cases d2
        exact key d _ d1 h.1 h.2.1 h.2.2.1 h.2.2.2 rfl
    · cases e
  · cases e
/-! isinstance(x, T) -/
def isT (T : String) : PyData → Option Bool
  | .none => kitB "NoneType" T
  | .bool _ => kitB "bool" T
  | .int _ => kitB "int" T
  | .str _ => kitB "str" T
  | .list _ => kitB "list" T
  | .tuple _ => kitB "tuple" T
  | .dict [] => kitB "dict" T
  | .dict _ => none
def mIsi (T : String) (m : ME) : ME := fun δ => match m δ with
  | .ok (d, δ1) => (match isT T d with
    | some b => .ok (.bool b, δ1)
    | none => .no)
  | .err c d => .err c d
  | .no => .no
theorem tyx_list {H : Hp} {a : Addr} {xs : List V} (h : SqL K H a xs) : TyX K H (.ref a) (.type "list") := by
  rcases h with (h | ⟨o, h⟩) | ⟨o, its, n, h1, h2, _⟩
  · exact .base (.lst h)
  · exact .base (.frz h)
  · exact .kList h1 h2
theorem tyx_tuple {H : Hp} {a : Addr} {xs : List V} (h : SqT K H a xs) : TyX K H (.ref a) (.type "tuple") := by
  rcases h with (h | ⟨o, h⟩) | ⟨o, its, n, h1, h2, _⟩
  · exact .base (.tup h)
  · exact .fTuple h
  · exact .kTuple h1 h2
theorem sn_isi {T : String} {t : TE} {m : ME} (h : SndE K mg t m) : SndE K mg (tCB (rIsi K) (tCons t (tCons (tC (.ty T)) tNil))) (mIsi T m) := fun {ρ Fr F δ σ H d δ'} r e {Q} q => by
  unfold mIsi at e
  split at e
  · rename_i d' δ1 e1
    split at e
    · rename_i b e2
      cases e
      refine h r e1 fun F1 v H1 s1 r1 d1 => ?_
      have fin : ∀ {t : String}, TyX K H1 v (.type t) → kitB t T = some b → rIsi K [v, .ty T] H1 Q := fun {t} ty k => ⟨v, .ty T, .type t, .type T, b, rfl, .ty T, ty, kit_ty k, q F1 _ H1 s1 r1 (.bl b)⟩
      show rIsi K [v, .ty T] H1 Q
      cases d' with
      | none => cases d1; exact fin (.base .non) e2
      | bool x => cases d1; exact fin (.base (.bl x)) e2
      | int x => cases d1; exact fin (.base (.int x)) e2
      | str x => cases d1; exact fin (.base (.str x)) e2
      | list xs => cases d1 with | lst hs da => exact fin (tyx_list (sqL_mono r1.sub hs)) e2
      | tuple xs => cases d1 with | tup hs da => exact fin (tyx_tuple (sqT_mono r1.sub hs)) e2
      | dict xs =>
        cases d1 with
        | dct ha => exact fin (.base (.dK (r1.sub _ _ ha))) e2
        | exc _ _ _ => cases e2
    · cases e
  · cases e
  · cases e
theorem re_isi (T : String) {y : Str} {a : Expr} {t : TE} {m : ME} {p p2 pos : Pos} (hg : Gl X "isinstance") (hm : X.mg "isinstance" = none) (hgT : Gl X y) (hmT : X.mg y = none) (hvT : bootBuiltins y = some (.type T)) (ha : RE X a t m)
    (h1 : y ≠ "__name__" := by decide) (h2 : (y == ("__debug__" : Str)) = false := by decide)
    (h3 : starEach [a, .Name y p2] X.env = (false, eval a X.env) :: starEach [.Name y p2] X.env := by rfl) (h4 : (backTo pos (starEach [.Name y p2] X.env)).any (·.1) = false := by rfl) (h5 : starEach [.Name y p2] X.env = (false, eval (.Name y p2) X.env) :: starEach [] X.env := by rfl) :
    RE X (.Call (.Name "isinstance" p) [a, .Name y p2] [] pos) (tCB (rIsi X.K) (tCons t (tCons (tC (.ty T)) tNil))) (mIsi T m) :=
  ⟨pe_callB call_isi hg hm PyProof.Rows.boot_isinstance (pa_cons ha.pe (pa_cons (pe_bltn hgT hmT hvT rfl h1 h2) pa_nil h5) h3) (by decide) (by decide) h3 h4, sn_isi ha.sn⟩
/-! i.bit_length() -/
def fBits : PyData → Res Sl
  | .int i => .ok (.val (.int (Builtin.Int.intBits i : Nat)))
  | _ => .no
theorem rn_bits {o : Expr} {t : TE} {m : ME} {apos pos : Pos} (h : RE X o t m) (hbase : attributeBase o "bit_length" X.env (eval o X.env) = eval o X.env := by rfl) (hline : (apos.endLine == pos.line) = true := by rfl) : RN X (.Call (.Attribute o "bit_length" apos) [] [] pos) (tBits t) (mUnN fBits m) :=
  ⟨pe_bits h.pe hbase hline, fun {ρ Fr F δ σ H d δ'} r e {Q} q => by
    unfold mUnN at e
    split at e
    · rename_i d' δ1 e1
      split at e
      · rename_i s e2
        cases e
        unfold fBits at e2
        split at e2
        · cases e2
          exact h.sn r e1 fun F1 v H1 s1 r1 d1 => by cases d1; exact ⟨_, rfl, q F1 _ H1 s1 (r1.tval (.int _))⟩
        · cases e2
      · cases e
      · cases e
    · cases e
    · cases e⟩
/-! list(range(..)) -/
def mLRg1 (m : ME) : MN := fun δ => match m δ with
  | .ok (.int n, δ1) => if -(2 ^ 62) ≤ n ∧ n ≤ 2 ^ 24 then .ok (.own (rngD 0 n.toNat), δ1) else .no
  | .err c d => .err c d
  | _ => .no
theorem dpa_rng {F : Hp} {a b : Int} : DpAll K F (rgV a b) (rngD a (b - a).toNat) := by
  unfold rgV rngD
  have z : ∀ l : List Nat, DpAll K F (l.map fun i => V.int (a + (i : Nat))) (l.map fun (i : Nat) => PyData.int (a + (i : Int))) := by
    intro l
    induction l with
    | nil => exact .nil
    | cons x l ih => exact .cons (.int _) ih
  exact z _
theorem rn_listRg1 {a : Expr} {t : TE} {m : ME} {p p2 pos pos2 : Pos} (hc : X.calm = true) (hg : Gl X "list") (hm : X.mg "list" = none) (hg2 : Gl X "range") (hm2 : X.mg "range" = none) (h : RE X a t m)
    (na : starEach [a] X.env = (false, eval a X.env) :: starEach [] X.env := by rfl) (nb : starEach [.Call (.Name "range" p2) [a] [] pos2] X.env = (false, eval (.Call (.Name "range" p2) [a] [] pos2) X.env) :: starEach [] X.env := by rfl) :
    RN X (.Call (.Name "list" p) [.Call (.Name "range" p2) [a] [] pos2] [] pos) (tLstRg (tRg1 t)) (mLRg1 m) :=
  ⟨pe_listRg hc hg hm (prg_1 hg2 hm2 h.pe na) nb, fun {ρ Fr F δ σ H d δ'} r e {Q} q => by
    unfold mLRg1 at e
    split at e
    · split at e
      · rename_i n δ1 e1 hn
        cases e
        refine h.sn r e1 fun F1 v H1 s1 r1 d1 => ?_
        cases d1
        refine ⟨n, rfl, ⟨by decide, by decide, by omega, by omega, by omega⟩, fun p hp => q F1 _ _ s1 (r1.temp hp ?_)⟩
        have z := dpa_rng (K := X.K) (F := F1) (a := 0) (b := n)
        rw [Int.sub_zero] at z
        exact z
      · cases e
    · cases e
    · cases e⟩
def mLRg2 (m m' : ME) : MN := fun δ => match m δ with
  | .ok (.int a, δ1) => (match m' δ1 with
    | .ok (.int b, δ2) => if -(2 ^ 24) ≤ a ∧ a ≤ 2 ^ 24 ∧ -(2 ^ 24) ≤ b ∧ b ≤ 2 ^ 24 ∧ (b - a).toNat ≤ 2 ^ 24 then .ok (.own (rngD a (b - a).toNat), δ2) else .no
    | .err c d => .err c d
    | _ => .no)
  | .err c d => .err c d
  | _ => .no
theorem rn_listRg2 {a b : Expr} {t t' : TE} {m m' : ME} {p p2 pos pos2 : Pos} (hc : X.calm = true) (hg : Gl X "list") (hm : X.mg "list" = none) (hg2 : Gl X "range") (hm2 : X.mg "range" = none) (h : RE X a t m) (h' : RE X b t' m') (hpl : (backTo pos2 (starEach [b] X.env)).any (·.1) = false := by rfl)
    (na : starEach [a, b] X.env = (false, eval a X.env) :: starEach [b] X.env := by rfl) (na2 : starEach [b] X.env = (false, eval b X.env) :: starEach [] X.env := by rfl) (nb : starEach [.Call (.Name "range" p2) [a, b] [] pos2] X.env = (false, eval (.Call (.Name "range" p2) [a, b] [] pos2) X.env) :: starEach [] X.env := by rfl) :
    RN X (.Call (.Name "list" p) [.Call (.Name "range" p2) [a, b] [] pos2] [] pos) (tLstRg (tRg2 t t')) (mLRg2 m m') :=
  ⟨pe_listRg hc hg hm (prg_2 hg2 hm2 h.pe h'.pe na na2 hpl) nb, fun {ρ Fr F δ σ H d δ'} r e {Q} q => by
    unfold mLRg2 at e
    split at e
    · rename_i a δ1 e1
      split at e
      · split at e
        · rename_i b δ2 e2 hn
          cases e
          refine h.sn r e1 fun F1 v H1 s1 r1 d1 => h'.sn r1 e2 fun F2 u H2 s2 r2 d2 => ?_
          cases d1; cases d2
          exact ⟨a, b, rfl, rfl, ⟨by omega, by omega, by omega, by omega, hn.2.2.2.2⟩, fun p hp => q F2 _ _ (s1.trans s2) (r2.temp hp dpa_rng)⟩
        · cases e
      · cases e
      · cases e
    · cases e
    · cases e⟩
end
end CW

namespace CW
open PySem PySem.Spec PyProof.Rows L2
/-! the caller's call of the law's def: what FnG promises, at the heap behind the module's text -/
section
variable {P : Program} {w : World} {K : PySem.W.Frag} {mg mb : Str → Option Value} {k : Nat} {fa a : Addr} {fd : FuncData} {x : Str} {sp : Sp} {t : Shared} {us : List Value} {ns : List Int}
abbrev Told (t : Shared) (r : Result) (t' : Shared) : Prop := r = .ok (.ret (.bool true)) ∧ OldK t.heap t'.heap ∧ t'.os = t.os ∧ AllBare t'.gens
/-- the abstract heap holds nothing, or the script alone -/
theorem lawG_core (hK : K.In t.heap) (hN : t.heap.Ns mainGlobals mg) (hB : t.heap.Ns builtinsNs mb) (hB' : ∀ y : Str, y ≠ "__name__" → mb y = bootBuiltins y) (hL : t.heap.NoLimit) (hG : t.gens = #[])
    (ha : t.heap.get? a = some { cls := .type "list", data := .seq us.toArray }) (hr : Room k callerA)
    (F : ∀ b : Heap, K.In b → b.Ns mainGlobals mg → FnG P w K mg b CX0 k fa fd [x] sp) (hbind : ∀ (s : Shared) (u : Value), BindsTo s fd ⟨[u], []⟩ [(x, u)])
    {H : Hp} (hO : Only H) (hS : sp [.ref a] H (fun v _ => v = .bl true) E0) (hok : HOk P w H t.heap) (hA : ∀ b, H b ≠ none → b = a) (hKa : H a ≠ none → K.lookup a = none) :
    codeAny (model P w) callerA (.call (.ref fa) ⟨[.ref a], []⟩) (Told t) t := by
  have isA : ∀ {b : Addr} {v : HO}, H b = some v → b = a := fun {b v} q => hA b (fun z => by rw [z] at q; cases q)
  have noD : ∀ {b : Addr} {o : Obj} {es : Array DictEntry} {ep : Nat}, t.heap.get? b = some o → o.data = .dict es ep → H b = none := by
    intro b o es ep e d
    rcases q : H b with _ | v
    · rfl
    · cases isA q
      rw [ha] at e
      cases e
      cases (show Data.seq us.toArray _ = Data.dict es ep from d)
  have ns' : ∀ {b : Addr} {m : Str → Option Value}, t.heap.Ns b m → (hidT t.heap H).Ns b m := by
    rintro b m ⟨o, es, ep, e, d, r⟩
    exact ⟨o, es, ep, hidT_get e (noD e d), d, r⟩
  have kin : K.In (hidT t.heap H) := by
    intro b o e
    refine hidT_get (hK b o e) ?_
    rcases q : H b with _ | v
    · rfl
    · cases isA q
      rw [hKa (by rw [q]; exact Option.some_ne_none v)] at e
      cases e
  have lim : (hidT t.heap H).NoLimit := by
    obtain ⟨mc, h1, h2⟩ := hL
    exact ⟨mc, ns' h1, h2⟩
  have e0 : Env0 P w K mg (hidT t.heap H) callerA [] t H :=
    ⟨rfl, ⟨kin, ns' hN, ⟨mb, ns' hB, hB'⟩, lim⟩, fun _ _ e => of_hidT e, Nat.le_of_eq (hidT_size _ _), trivial, fun b hb => (nomatch (show b ∈ ([] : List Addr) from hb)), hok, .of_eq hG⟩
  have go := (F _ kin (ns' hN)).run callerA [] t H ⟨[.ref a], []⟩ [.ref a] [.ref a] _ _ rfl hr e0 (hbind t (.ref a)) (.cons rfl .nil) hS
  refine codeAny_mono go fun r t' h => ?_
  rcases r with e | f
  · exact (show False from h).elim
  rcases f with _ | _ | _ | u <;> first | exact (show False from h).elim | skip
  obtain ⟨v, H', os, bare, un, hok', r', q⟩ := h
  cases (show v = .bl true from q)
  cases (show u = Value.bool true from r')
  refine ⟨rfl, OldK.of_keep fun b o e => ?_, os, bare⟩
  rcases q : H b with _ | v
  · exact un.keep b o e q (fun z => nomatch (show b ∈ ([] : List Addr) from z)) (fun z => nomatch z)
  · rcases hO b with z | ⟨ob, xs, z⟩
    · rw [q] at z
      cases z
    · obtain ⟨e1, _⟩ := hok b _ z
      obtain ⟨e2, _⟩ := hok' b _ (un.frzs b ob _ z)
      rw [e] at e1
      cases e1
      exact e2
theorem lawG_call (hK : K.In t.heap) (hN : t.heap.Ns mainGlobals mg) (hB : t.heap.Ns builtinsNs mb) (hB' : ∀ y : Str, y ≠ "__name__" → mb y = bootBuiltins y) (hL : t.heap.NoLimit) (hG : t.gens = #[])
    (ha : t.heap.get? a = some { cls := .type "list", data := .seq us.toArray }) (hi : IntsAre us ns) (hl : ns.length ≤ sizeLine) (hr : Room k callerA)
    (F : ∀ b : Heap, K.In b → b.Ns mainGlobals mg → FnG P w K mg b CX0 k fa fd [x] sp) (hbind : ∀ (s : Shared) (u : Value), BindsTo s fd ⟨[u], []⟩ [(x, u)])
    (hsp : ∀ H : Hp, Only H → SqL K H a (ns.map V.int) → sp [.ref a] H (fun v _ => v = .bl true) E0) : codeAny (model P w) callerA (.call (.ref fa) ⟨[.ref a], []⟩) (Told t) t := by
  have rv := vals_ints hi
  rcases hk : K.lookup a with _ | o
  · -- the script is new
    have hH : ∀ b, (fun b => if b = a then some (HO.frz { cls := .type "list", data := .seq us.toArray } (.lst (ns.map V.int))) else none : Hp) b ≠ none → b = a := by
      intro b z
      by_cases e : b = a
      · exact e
      · exact absurd (if_neg e) z
    have hO : Only (fun b => if b = a then some (HO.frz { cls := .type "list", data := .seq us.toArray } (.lst (ns.map V.int))) else none) := by
      intro b
      by_cases e : b = a
      · exact .inr ⟨_, _, if_pos e⟩
      · exact .inl (if_neg e)
    refine lawG_core hK hN hB hB' hL hG ha hr F hbind hO (hsp _ hO (.inl (.inr ⟨{ cls := .type "list", data := .seq us.toArray }, if_pos rfl⟩))) ?_ hH fun _ => hk
    intro b v z
    by_cases e : b = a
    · cases (if_pos e).symm.trans z
      cases e
      exact ⟨ha, by rw [List.length_map]; exact hl, us, _, rv, ha⟩
    · cases (if_neg e).symm.trans z
  · -- it is an object of the module's own
    have e := hK a o hk
    rw [ha] at e
    cases e
    have hS : SqL K (fun _ => none) a (ns.map V.int) := .inr ⟨_, us.toArray, _, hk, rfl, rfl, rfl, by rw [List.size_toArray, hi.length]; exact hl, by simpa using rv⟩
    exact lawG_core hK hN hB hB' hL hG ha hr F hbind (fun _ => .inl rfl) (hsp _ (fun _ => .inl rfl) hS) (fun b v z => nomatch (show (none : Option HO) = some v from z)) (fun b z => absurd rfl z) fun z => absurd rfl z
end
theorem walk_ofG {l : PySem.W.OpenLaw} {n k : Nat} {q : Program} {loose : List Str} {XP : (Str → Option Value) → Heap → Prop} {YP : World → Heap → Prop} {d : DefRec} {x : Str}
    (hn : l.most = some n) (hn2 : n ≤ sizeLine) (hdf : d.params.defaults = []) (hr : Room k callerA)
    (F : ∀ (w : World) (mg : Str → Option Value) (fa : Addr) (h : Heap), YP w h → h.Ns mainGlobals mg → mg d.name = some (.ref fa) →
      ∃ (K : PySem.W.Frag) (fd : FuncData) (sp : Sp), K.In h ∧ (∀ (s : Shared) (u : Value), BindsTo s fd ⟨[u], []⟩ [(x, u)]) ∧
        (∀ (H : Hp) (a : Addr) (ns : List Int), ns.length ≤ n → Only H → SqL K H a (ns.map V.int) → sp [.ref a] H (fun v _ => v = .bl true) E0) ∧
        ∀ b : Heap, K.In b → b.Ns mainGlobals mg → FnG l.prog w K mg b CX0 k fa fd [x] sp) :
    PySem.W.WalkO q loose XP YP l.row.toRowW d [] (fun f vs => PySem.call f vs) := by
  refine Att.attach_call hn hdf fun w s₀ t mg mb fa o pm cd doc a us ns G Y ho hd hcd hmg hobj hints hlen hg => ?_
  obtain ⟨K, fd, sp, KX, hb, hsp, hF⟩ := F w mg fa _ Y G.T.g hmg
  exact lawG_call KX G.T.g G.T.b G.T.builtins G.T.nolimit hg hobj hints (Nat.le_trans hlen hn2) hr hF hb fun H hO hS => hsp H a ns hlen hO hS
/-- the promise of the law's def, from what its mirror answers -/
theorem law_sp {K : PySem.W.Frag} {mg : Str → Option Value} {f : FM} {ns : List Int} {as' : Ev} (h : f [.val (.list (ns.map .int))] = .ok (.val (.bool true), as')) {H : Hp} {a : Addr} (hS : SqL K H a (ns.map V.int)) : spD K mg 1 f [.ref a] H (fun v _ => v = .bl true) E0 := by
  refine ⟨fun _ => 0, fun _ => none, H, [.val (.list (ns.map .int))], .val (.bool true), as', rfl, ⟨Same.refl _, fun b u e => (nomatch (show (none : Option HO) = some u from e)), fun b z => absurd rfl z, [], ⟨[], [], rfl, ⟨rfl, _, rfl, .lst hS (dpa_of_ints ns)⟩, rfl⟩, List.nodup_nil, fun _ z => nomatch z⟩, h, ?_⟩
  intro F' v H' s r
  obtain ⟨L, ⟨A, B, _, ⟨_, u, e, d⟩, _⟩, _⟩ := r.own
  cases e
  cases d
  rfl
/-- where nothing goes out of a body -/
theorem RB.nox {X : Cx} {b : List Stmt} {t : TS} {m : MS} (h : RB X.nox b t m) : RB X b t m := ⟨PSs.nox h.pss, h.sn⟩
end CW

namespace CW
open PySem PySem.Spec PyProof.Rows L2
theorem cb_len : bootBuiltins "len" = some (.builtin "len") := by decide +kernel
theorem cb_int : bootBuiltins "int" = some (.type "int") := by decide +kernel
theorem cb_bool : bootBuiltins "bool" = some (.type "bool") := by decide +kernel
theorem cb_str : bootBuiltins "str" = some (.type "str") := by decide +kernel
theorem cb_list : bootBuiltins "list" = some (.type "list") := by decide +kernel
theorem cb_tuple : bootBuiltins "tuple" = some (.type "tuple") := by decide +kernel
theorem cb_set : bootBuiltins "set" = some (.type "set") := by decide +kernel
theorem cb_max : bootBuiltins "max" = some (.builtin "max") := by decide +kernel
theorem cb_min : bootBuiltins "min" = some (.builtin "min") := by decide +kernel
theorem cb_sum : bootBuiltins "sum" = some (.builtin "sum") := by decide +kernel
theorem cb_sorted : bootBuiltins "sorted" = some (.builtin "sorted") := by decide +kernel
theorem cb_divmod : bootBuiltins "divmod" = some (.builtin "divmod") := by decide +kernel
theorem cb_repr : bootBuiltins "repr" = some (.builtin "repr") := by decide +kernel
section
variable {K : PySem.W.Frag} {x qual : Str} {params : Arguments} {body : List Stmt} {scope : Scope} {kws : List (Str × V)} {f : Addr} {fd : FuncData} {ps ks : List Str} {n : Nat} {ix : List Nat}
theorem unit5 {k : Nat} {A : Around} (r : Room k A) : A.units + 65 < cLine := by have := r.un; omega
theorem kwTo_of (D : FunD K x qual params body scope [] kws f fd)
    (h : ∀ (kV doc pm : Value) (an : Option Addr) (cdv ct : Value) (us ws : List Value), us.length = n → ws.length = ks.length → bindArgs (PySem.W.fnOf x qual params body scope .none kV doc pm an cdv ct) ⟨us, ks.zip ws⟩ = pure (ps.zip (inOrder ix (us ++ ws)))) : KwTo K fd ps n ks ix := by
  obtain ⟨oc, od, dV, kV, doc, pm, an, cdv, ct, osl, rfl, lk, hcd, hD, hK⟩ := D.ex
  rcases hD with ⟨_, rfl⟩ | ⟨e, _⟩
  · exact fun s us ws _ h1 h2 => .of_eq (h kV doc pm an cdv ct us ws h1 h2)
  · exact absurd rfl e
end
section
variable {X : Cx} {K : PySem.W.Frag} {mg : Str → Option Value}
/-! a < b < c -/
section
variable {op op' : CmpOp} {r r' : R2} {f g : PyData → PyData → Res PyData} {a b c : Expr} {ta tb tc : TE} {ma mb mc : ME} {pos : Pos}
theorem re_chain (ho : OpR X (compareOp op) r) (ho' : OpR X (compareOp op') r') (hv : OpV X.K X.mg r f) (hv' : OpV X.K X.mg r' g) (ha : RE X a ta ma) (hb : RE X b tb mb) (hc : RE X c tc mc)
    (hm : lastMarks [op, op'] [b, c] = false := by with_unfolding_all rfl) : RE X (.Compare a [op, op'] [b, c] pos) (tChain r r' ta tb tc) (mChain f g ma mb mc) := ⟨pe_chain ho ho' ha.pe hb.pe hc.pe hm, sn_chain hv hv' ha.sn hb.sn hc.sn⟩
theorem rt_chain (ho : OpR X (compareOp op) r) (ho' : OpR X (compareOp op') r') (hv : OpV X.K X.mg r f) (hv' : OpV X.K X.mg r' g) (ha : RE X a ta ma) (hb : RE X b tb mb) (hc : RE X c tc mc)
    (hm : lastMarks [op, op'] [b, c] = false := by with_unfolding_all rfl) : RT X (.Compare a [op, op'] [b, c] pos) (tTest (tChain r r' ta tb tc)) (mT (mChain f g ma mb mc)) := ⟨pt_chain ho ho' ha.pe hb.pe hc.pe hm, sn_test (sn_chain hv hv' ha.sn hb.sn hc.sn)⟩
end
/-! x in a list of any data; in a tuple of flat ones -/
def fInD (neg : Bool) : PyData → PyData → Res PyData
  | x, .list xs => if SeqAt.shaped x = true ∧ SeqAt.shaped (.list xs) = true then .ok (.bool (if neg then !xs.any fun z => PyData.eqv z x else xs.any fun z => PyData.eqv z x)) else .no
  | x, .tuple xs => if flatD x = true ∧ xs.all flatD = true then .ok (.bool (if neg then !inD x xs else inD x xs)) else .no
  | _, _ => .no
def rInA (K : PySem.W.Frag) (neg : Bool) : R2 := fun x y H Q => (if neg then rNotInD K x y H Q else rInD K x y H Q) ∨ rIn K neg x y H Q
theorem op_inA (hu : X.A.units + 65 < cLine) : OpR X (compareOp .In) (rInA X.K false) := (op_inD hu).or op_in_seq
theorem op_notinA (hu : X.A.units + 65 < cLine) : OpR X (compareOp .NotIn) (rInA X.K true) := (op_notInD hu).or op_notIn_seq
theorem opv_inA (neg : Bool) : OpV K mg (rInA K neg) (fInD neg) := fun {ρ Fr F δ σ H x y a b c} r dx dy e {Q} q => by
  unfold fInD at e
  split at e
  · split at e
    · rename_i xs hs
      cases e
      refine .inl ?_
      cases neg with
      | false => exact ⟨a, xs, dp_old _ _ (dx.up r.sub) (shaped_noDict hs.1), dp_old _ _ (dy.up r.sub) (shaped_noDict hs.2), hs.1, hs.2, q F _ H (Same.refl _) r (.bl _)⟩
      | true => exact ⟨a, xs, dp_old _ _ (dx.up r.sub) (shaped_noDict hs.1), dp_old _ _ (dy.up r.sub) (shaped_noDict hs.2), hs.1, hs.2, q F _ H (Same.refl _) r (.bl _)⟩
    · cases e
  · split at e
    · rename_i xs hf
      cases e
      cases dy with
      | tup h1 d1 =>
        refine .inr ⟨_, _, rfl, .inr (sqT_mono r.sub h1), flat_of dx hf.1, flats_of d1 hf.2, ?_⟩
        rw [inV_of dx hf.1 d1 hf.2]
        exact q F _ H (Same.refl _) r (.bl _)
    · cases e
  · cases e
/-! xs.index(x) -/
def idxD (d : PyData) : List PyData → Option Nat
  | [] => none
  | z :: zs => if PyData.eqv z d = true then some 0 else (idxD d zs).map (· + 1)
theorem idxD_at {d : PyData} : ∀ {ds : List PyData} {j : Nat}, idxD d ds = some j → ∃ z, ds[j]? = some z ∧ PyData.eqv z d = true ∧ ∀ (m : Nat) (z' : PyData), m < j → ds[m]? = some z' → PyData.eqv z' d = false
  | [], _, h => by cases h
  | z :: zs, j, h => by
    unfold idxD at h
    split at h
    · rename_i hz
      cases h
      exact ⟨z, rfl, hz, fun m _ hm => absurd hm (Nat.not_lt_zero m)⟩
    · rename_i hz
      cases q : idxD d zs with
      | none => rw [q] at h; cases h
      | some i =>
        rw [q] at h
        cases h
        obtain ⟨y, e1, e2, e3⟩ := idxD_at q
        refine ⟨y, by simpa using e1, e2, fun m z' hm hz' => ?_⟩
        cases m with
        | zero =>
          simp at hz'
          subst hz'
          simpa using hz
        | succ m => exact e3 m z' (Nat.lt_of_succ_lt_succ hm) (by simpa using hz')
def mIdx (ma mb : ME) : ME := fun δ => match ma δ with
  | .ok (.list xs, δ1) => (match mb δ1 with
    | .ok (d, δ2) => if SeqAt.shaped (.list xs) = true ∧ SeqAt.shaped d = true then (match idxD d xs with
      | some j => .ok (.int (j : Nat), δ2)
      | none => .no) else .no
    | .err c d => .err c d
    | .no => .no)
  | .err c d => .err c d
  | _ => .no
theorem sn_idx {ta tb : TE} {ma mb : ME} (ha : SndE K mg ta ma) (hb : SndE K mg tb mb) : SndE K mg (tBM K "list" (rIndexD K) ta (tCons tb tNil)) (mIdx ma mb) := fun {ρ Fr F δ σ H d δ'} r e {Q} q => by
  unfold mIdx at e
  split at e
  · rename_i xs δ1 e1
    split at e
    · rename_i d' δ2 e2
      split at e
      · rename_i hs
        split at e
        · rename_i j e3
          cases e
          refine ha r e1 fun F1 v H1 s1 r1 d1 => ?_
          cases d1 with
          | lst h1 da =>
            refine ⟨Or.inl ⟨rfl, _, sqL_mono r1.sub h1⟩, hb r1 e2 fun F2 u H2 s2 r2 d2 => ?_⟩
            obtain ⟨z, k1, k2, k3⟩ := idxD_at e3
            exact ⟨_, u, d', xs, j, z, rfl, rfl, dp_old _ _ ((Dp.lst h1 da).up (s2.trans r2.sub)) (shaped_noDict hs.1), dp_old _ _ (d2.up r2.sub) (shaped_noDict hs.2), hs.1, hs.2, k1, k2, k3, q F2 _ H2 (s1.trans s2) r2 (.int _)⟩
        · cases e
      · cases e
    · cases e
    · cases e
  · cases e
  · cases e
theorem re_idx {o a : Expr} {t t' : TE} {m m' : ME} {apos cpos : Pos} (hu : X.A.units + 65 < cLine) (ho : RE X o t m) (ha : RE X a t' m')
    (hbase : attributeBase o "index" X.env (eval o X.env) = eval o X.env := by rfl)
    (hfew : ((backTo cpos (starEach [a] X.env)).all (fun x => !x.1) && (backToKw cpos (keywordEach [] X.env)).all (fun x => x.1.isSome)
      && decide (([a] : List Expr).length + ([] : List Keyword).length + (if ([] : List Keyword).isEmpty then 0 else 1) < 30)) = true := by rfl)
    (hline : (apos.endLine == cpos.line) = true := by rfl) (hs : starEach [a] X.env = (false, eval a X.env) :: starEach [] X.env := by rfl) (hplain : (backTo cpos (starEach [] X.env)).any (·.1) = false := by rfl) :
    RE X (.Call (.Attribute o "index" apos) [a] [] cpos) (tBM X.K "list" (rIndexD X.K) t (tCons t' tNil)) (mIdx m m') :=
  ⟨pe_bm PySem.F.plainAttrs_list PySem.F.slot_list_index PySem.F.type_list_index (mt_indexD hu) ho.pe (pa_cons ha.pe pa_nil hs) hbase hfew hline hs hplain, sn_idx ho.sn ha.sn⟩
/-! f(e, ..) with e a new list, which f may change -/
def mCallT (n : Nat) (f : FM) (a : MN) (as : MA) : MN := fun δ => match a δ with
  | .ok (.own xs0, δ0) => (match as δ0 with
    | .ok (ds, δ1) => if ds.length + 1 = n then (match f (.io 0 xs0 :: ds.map .val) with
      | .ok (r, .io 0 _ :: _) => (match resV r with
        | some r' => .ok (r', δ1)
        | none => .no)
      | .err c d => .err c d
      | _ => .no) else .no
    | .err c d => .err c d
    | .no => .no)
  | .err c d => .err c d
  | _ => .no
theorem sn_callT {n : Nat} {f : FM} {te : TE} {t : TA} {a : MN} {as : MA} {E : XK} (h : SndN K mg te a) (ha : SndA K mg t as) : SndN K mg (tCall (spD K mg n f) [] E (tCons te t)) (mCallT n f a as) := fun {ρ Fr F δ σ H s δ'} r e {Q} q => by
  unfold mCallT at e
  split at e
  · rename_i xs0 δ0 e0
    split at e
    · rename_i ds δ1 e1
      split at e
      · rename_i hn
        split at e
        · rename_i r' ys rest e4
          split at e
          · rename_i r2 e5
            cases e
            refine h r e0 fun F0 v0 H0 s0 r0 => ?_
            obtain ⟨p, vs0, k0, k1, k2, k3, k4, k5⟩ := r0.stash
            cases k0
            refine ha k5 e1 fun F1 vs H1 s1 r1 d1 => ?_
            show spD K mg n f ((V.ref p :: vs) ++ []) H1 Q E
            rw [List.append_nil]
            have r2' := r1.unstash k2 (k4.up s1)
            obtain ⟨Fr', h1, h2, h3⟩ := Rel.hideJ (ss := [.own xs0]) (os := [some (.ref p)]) rfl r2'
            have h4 : Rel K mg (fun _ => p) Fr' F1 [.io 0 xs0] [some (.ref p)] H1 := h1.reRho fun L h => by
              obtain ⟨A, B, rfl, ⟨pp, ws, b1, b2, b3, b4⟩, a2⟩ := h
              cases b1
              exact ⟨A, B, rfl, ⟨rfl, b2, ws, b3, b4⟩, a2⟩
            have h5 : Rel K mg (fun _ => p) Fr' F1 (.io 0 xs0 :: ds.map .val) (some (.ref p) :: vs.map some) H1 := by
              have z := h4.vals d1
              obtain ⟨L, z1, z2, z3⟩ := z.own
              obtain ⟨L1, L2, rfl, z4, z5⟩ := slotsR_split (by simp [dpa_len d1]) z1
              obtain ⟨A, B, rfl, z6, z7⟩ := z5
              have eB : B = [] := z7
              subst eB
              have pm : (L1 ++ (A ++ [])).Perm (A ++ L1) := by
                rw [List.append_nil]
                exact List.perm_append_comm
              exact ⟨z.sub, z.fr, z.dis, A ++ L1, ⟨A, L1, rfl, z6, z4⟩, pm.nodup_iff.mp z2, fun a ha => z3 a (pm.mem_iff.mpr ha)⟩
            refine ⟨fun _ => p, Fr', F1, _, r', _, by simpa [dpa_len d1] using hn, h5, e4, fun F' v H' s2 r4 => q F' v H' ((s0.trans s1).trans s2) ?_⟩
            obtain ⟨L, ⟨A, B, rfl, a1, a2⟩, nd, av⟩ := r4.own
            have c1 : SlotR K mg ρ F' H' s (some v) A := resV_slot e5 a1
            have z : Rel K mg ρ Fr' F' [s] [some v] H' := ⟨r4.sub, r4.fr, r4.dis, A, ⟨A, [], by simp, c1, rfl⟩, (List.nodup_append.mp nd).1, fun a ha => av a (List.mem_append_left _ ha)⟩
            exact h3 s2 z
          · cases e
        · cases e
        · cases e
      · cases e
    · cases e
    · cases e
  · cases e
  · cases e
section
variable {k : Nat} {f : Addr} {fd : FuncData} {ps : List Str} {n : Nat} {fm : FM} {x : Str} {p pos : Pos} {e : Expr} {es : List Expr} {te : TE} {t : TA} {a : MN} {as : MA}
theorem rn_callT (F : FnG X.prog X.w X.K X.mg X.base CX0 k f fd ps (spD X.K X.mg n fm)) (hG : X.A.guards = some []) (hr : Room k X.A) (hg : Gl X x) (hm : X.mg x = some (.ref f)) (hk : PySem.W.keepIn X.K (.ref f) = true) (hb : Binds X.K fd ps [])
    (h : RN X e te a) (ha : RA X es t as) (hdb : (x == ("__debug__" : Str)) = false := by decide) (he : starEach (e :: es) X.env = (false, eval e X.env) :: starEach es X.env := by rfl) (hpl : (backTo pos (starEach es X.env)).any (·.1) = false := by rfl) :
    RN X (.Call (.Name x p) (e :: es) [] pos) (tCall (spD X.K X.mg n fm) [] E0 (tCons te t)) (mCallT n fm a as) := ⟨pe_callG F hG hr hg hm hk hb pass0 (pa_cons h.pe ha.pa he) hdb he hpl, sn_callT h.sn ha.sn⟩
end
end
end CW

namespace CW
open PySem PySem.Spec PyProof.Rows L2
/-! loops of mirrors -/
theorem forL_inv {g : PyData → Ev → Res Ev} {b : MS} (R : Nat → Ev → Prop) : ∀ {ds : List PyData} {δ : Ev} (k : Nat), R k δ →
    (∀ i d δ, ds[i]? = some d → R (k + i) δ → ∃ δ1 δ2, g d δ = .ok δ1 ∧ b δ1 = .ok (.nx, δ2) ∧ R (k + i + 1) δ2) → ∃ δ', forL g b ds δ = .ok (.nx, δ') ∧ R (k + ds.length) δ'
  | [], δ, k, h, _ => ⟨δ, rfl, h⟩
  | d :: ds, δ, k, h, st => by
    obtain ⟨δ1, δ2, e1, e2, h2⟩ := st 0 d δ rfl h
    obtain ⟨δ', e3, h3⟩ := forL_inv R (ds := ds) (k + 1) h2 fun i d δ hd hr => by
      have z := st (i + 1) d δ (by simpa using hd) (by rwa [show k + (i + 1) = k + 1 + i by omega])
      rwa [show k + (i + 1) + 1 = k + 1 + i + 1 by omega] at z
    refine ⟨δ', ?_, by rw [List.length_cons, show k + (ds.length + 1) = k + 1 + ds.length by omega]; exact h3⟩
    unfold forL
    rw [e1]
    show (match b δ1 with
      | .ok (.nx, δ2) => forL g b ds δ2
      | .ok (.ct, δ2) => forL g b ds δ2
      | .ok (.bk, δ2) => .ok (.nx, δ2)
      | .ok (.rt s, δ2) => .ok (.rt s, δ2)
      | .err c d => .err c d
      | .no => .no) = _
    rw [e2]
    exact e3
theorem forL_go {g : PyData → Ev → Res Ev} {b : MS} (R : Nat → Ev → Prop) {ds : List PyData} {δ : Ev} (h0 : R 0 δ)
    (h : ∀ i d δ, ds[i]? = some d → R i δ → ∃ δ1 δ2, g d δ = .ok δ1 ∧ b δ1 = .ok (.nx, δ2) ∧ R (i + 1) δ2) : ∃ δ', forL g b ds δ = .ok (.nx, δ') ∧ R ds.length δ' := by
  have z := forL_inv R (ds := ds) 0 h0 fun i d δ hd hr => by
    rw [Nat.zero_add] at hr ⊢
    exact h i d δ hd hr
  rwa [Nat.zero_add] at z
theorem forL_cons {g : PyData → Ev → Res Ev} {b : MS} {d : PyData} {ds : List PyData} {δ δ1 δ2 : Ev} (e1 : g d δ = .ok δ1) (e2 : b δ1 = .ok (.nx, δ2)) : forL g b (d :: ds) δ = forL g b ds δ2 := by
  rw [forL]
  rw [e1]; simp only []
  rw [e2]
/-- a fold -/
theorem forL_fold {α σ : Type} {g : PyData → Ev → Res Ev} {b : MS} (enc : α → PyData) (R : σ → Ev → Prop) (step : σ → α → σ) : ∀ (xs : List α) {s : σ} {δ : Ev}, R s δ →
    (∀ s a δ, a ∈ xs → R s δ → ∃ δ1 δ2, g (enc a) δ = .ok δ1 ∧ b δ1 = .ok (.nx, δ2) ∧ R (step s a) δ2) → ∃ δ', forL g b (xs.map enc) δ = .ok (.nx, δ') ∧ R (xs.foldl step s) δ'
  | [], s, δ, h, _ => ⟨δ, rfl, h⟩
  | a :: xs, s, δ, h, st => by
    obtain ⟨δ1, δ2, e1, e2, h2⟩ := st s a δ (List.mem_cons_self ..) h
    obtain ⟨δ', e3, h3⟩ := forL_fold enc R step xs h2 fun s b δ hb => st s b δ (List.mem_cons_of_mem _ hb)
    refine ⟨δ', ?_, h3⟩
    rw [List.map_cons]
    unfold forL
    rw [e1]
    show (match b δ1 with
      | .ok (.nx, δ2) => forL g b (xs.map enc) δ2
      | .ok (.ct, δ2) => forL g b (xs.map enc) δ2
      | .ok (.bk, δ2) => .ok (.nx, δ2)
      | .ok (.rt s, δ2) => .ok (.rt s, δ2)
      | .err c d => .err c d
      | .no => .no) = _
    rw [e2]
    exact e3
/-- a comprehension that leaves all slots as they are -/
theorem lcL_pure {α : Type} {g : PyData → Ev → Res Ev} {tt : MT} {te : ME} {vs : List Nat} (enc : α → PyData) (p : α → Bool) (f : α → PyData) (δ : Ev) : ∀ (xs : List α) (acc : List PyData), acc.length + xs.length ≤ sizeLine →
    (∀ a ∈ xs, ∃ δ1, g (enc a) δ = .ok δ1 ∧ tt δ1 = .ok (p a, δ1) ∧ (p a = true → te δ1 = .ok (f a, δ1)) ∧ clr δ1 vs = δ) → lcL g tt te vs (xs.map enc) acc δ = .ok (acc ++ (xs.filter p).map f, δ)
  | [], acc, _, _ => by simp [lcL]
  | a :: xs, acc, hl, h => by
    obtain ⟨δ1, e1, e2, e3, e4⟩ := h a (List.mem_cons_self ..)
    rw [List.map_cons]
    unfold lcL
    rw [List.length_cons] at hl
    cases hp : p a with
    | true =>
      rw [hp] at e2
      simp only [e1, e2, e3 hp, e4]
      rw [if_pos (by omega), lcL_pure enc p f δ xs (acc ++ [f a]) (by rw [List.length_append]; simp; omega) fun b hb => h b (List.mem_cons_of_mem _ hb)]
      simp [hp]
    | false =>
      rw [hp] at e2
      simp only [e1, e2, e4]
      rw [lcL_pure enc p f δ xs acc (by omega) fun b hb => h b (List.mem_cons_of_mem _ hb)]
      simp [hp]
/-- a comprehension that draws: any answers within Y -/
theorem lcL_inv {g : PyData → Ev → Res Ev} {tt : MT} {te : ME} {vs : List Nat} (R : Nat → List PyData → Ev → Prop) : ∀ {ds : List PyData} {acc : List PyData} {δ : Ev} (k : Nat), acc.length + ds.length ≤ sizeLine → R k acc δ →
    (∀ i d acc δ, ds[i]? = some d → R (k + i) acc δ → ∃ δ1 δ2 c, g d δ = .ok δ1 ∧ tt δ1 = .ok (c, δ2) ∧ (c = true → ∃ y δ3, te δ2 = .ok (y, δ3) ∧ R (k + i + 1) (acc ++ [y]) (clr δ3 vs)) ∧ (c = false → R (k + i + 1) acc (clr δ2 vs))) →
    ∃ ys δ', lcL g tt te vs ds acc δ = .ok (ys, δ') ∧ R (k + ds.length) ys δ'
  | [], acc, δ, k, _, h, _ => ⟨acc, δ, rfl, h⟩
  | d :: ds, acc, δ, k, hl, h, st => by
    obtain ⟨δ1, δ2, c, e1, e2, e3, e4⟩ := st 0 d acc δ rfl h
    rw [List.length_cons] at hl
    have nxt : ∀ i d acc δ, ds[i]? = some d → R (k + 1 + i) acc δ → ∃ δ1 δ2 c, g d δ = .ok δ1 ∧ tt δ1 = .ok (c, δ2) ∧ (c = true → ∃ y δ3, te δ2 = .ok (y, δ3) ∧ R (k + 1 + i + 1) (acc ++ [y]) (clr δ3 vs)) ∧ (c = false → R (k + 1 + i + 1) acc (clr δ2 vs)) := fun i d acc δ hd hr => by
      have z := st (i + 1) d acc δ (by simpa using hd) (by rwa [show k + (i + 1) = k + 1 + i by omega])
      rwa [show k + (i + 1) + 1 = k + 1 + i + 1 by omega] at z
    rw [List.length_cons, show k + (ds.length + 1) = k + 1 + ds.length by omega]
    unfold lcL
    cases c with
    | true =>
      obtain ⟨y, δ3, e5, h5⟩ := e3 rfl
      obtain ⟨ys, δ', e6, h6⟩ := lcL_inv R (ds := ds) (k + 1) (by rw [List.length_append]; simp; omega) h5 nxt
      refine ⟨ys, δ', ?_, h6⟩
      simp only [e1, e2, e5]
      rw [if_pos (by omega), e6]
    | false =>
      obtain ⟨ys, δ', e6, h6⟩ := lcL_inv R (ds := ds) (k + 1) (by omega) (e4 rfl) nxt
      refine ⟨ys, δ', ?_, h6⟩
      simp only [e1, e2]
      rw [e6]
/-! data -/
abbrev iD (i : Int) : PyData := .int i
abbrev iV (i : Int) : Sl := .val (.int i)
abbrev tI (ns : List Int) : PyData := .tuple (ns.map .int)
abbrev lI (ns : List Int) : PyData := .list (ns.map .int)
theorem eqv_refl : ∀ d : PyData, d.hasDict = false → PyData.eqv d d = true := by
  intro d
  exact PyData.rec (motive_1 := fun d => d.hasDict = false → PyData.eqv d d = true) (motive_2 := fun ds => PyData.hasDictAll ds = false → PyData.eqvAll ds ds = true) (motive_3 := fun _ => True) (motive_4 := fun _ => True)
    (fun _ => rfl) (fun b _ => by simp [PyData.eqv]) (fun i _ => by simp [PyData.eqv]) (fun x _ => by simp [PyData.eqv])
    (fun xs ih h => by simpa [PyData.eqv] using ih (by simpa [PyData.hasDict] using h))
    (fun xs ih h => by simpa [PyData.eqv] using ih (by simpa [PyData.hasDict] using h))
    (fun _ _ h => by simp [PyData.hasDict] at h) (fun _ => rfl)
    (fun d ds i1 i2 h => by
      simp only [PyData.hasDictAll, Bool.or_eq_false_iff] at h
      simp [PyData.eqvAll, i1 h.1, i2 h.2])
    trivial (fun _ _ _ _ => trivial) (fun _ _ _ _ => trivial) d
end CW
namespace CW
open PySem PySem.Spec PyProof.Rows L2
theorem fMulI_ok {i j : Int} (h : (-18446744073709551616 < i ∧ i < 18446744073709551616) ∨ (-18446744073709551616 < j ∧ j < 18446744073709551616)) : fMulI (.int i) (.int j) = .ok (.int (i * j)) := if_pos h
theorem fMulI_wide {i j : Int} (a b : Nat) (ha : i.natAbs < 2 ^ a) (hb : j.natAbs < 2 ^ b) (h0 : 0 < a) (h1 : 0 < b) (h : a + b ≤ 1000000) : fMulI (.int i) (.int j) = .ok (.int (i * j)) := by
  show (if _ then Res.ok (PyData.int (i * j)) else if _ then Res.ok (PyData.int (i * j)) else .no) = _
  split
  · rfl
  · rw [if_pos (show i.natAbs.log2 + j.natAbs.log2 < 1000000 from wide_mul ha hb h0 h1 h)]
theorem fMod_ok {i j : Int} (h : 0 < j) : fMod (.int i) (.int j) = .ok (.int (i % j)) := if_pos (decide_eq_true h)
theorem fDiv_ok {i j : Int} (h : 0 < j) (h2 : j.natAbs.log2 < 9000) : fDiv (.int i) (.int j) = .ok (.int (i / j)) := if_pos (decide_eq_true ⟨h, h2⟩)
theorem log_lt {j : Int} {n : Nat} (h0 : 0 ≤ j) (h : j < ((2 ^ n : Nat) : Int)) (hn : 0 < n) : j.natAbs.log2 < n := by
  by_cases z : j.natAbs = 0
  · rw [z]; simpa using hn
  · exact (Nat.log2_lt z).mpr (by omega)
theorem fDiv_s {i j : Int} (h : 0 < j) (h2 : j < 1152921504606846976) : fDiv (.int i) (.int j) = .ok (.int (i / j)) :=
  fDiv_ok h (Nat.lt_trans (log_lt (j := j) (n := 60) (by omega) (by simpa using h2) (by omega)) (by omega))
theorem fAdd_i {i j : Int} : fAdd (.int i) (.int j) = .ok (.int (i + j)) := rfl
theorem fSub_i {i j : Int} : fSub (.int i) (.int j) = .ok (.int (i - j)) := rfl
theorem fLtI_i {i j : Int} : fLtI (.int i) (.int j) = .ok (.bool (decide (i < j))) := rfl
theorem fLeI_i {i j : Int} : fLeI (.int i) (.int j) = .ok (.bool (decide (i ≤ j))) := rfl
theorem fGtI_i {i j : Int} : fGtI (.int i) (.int j) = .ok (.bool (decide (j < i))) := rfl
theorem fGeI_i {i j : Int} : fGeI (.int i) (.int j) = .ok (.bool (decide (j ≤ i))) := rfl
theorem fEq_i {i j : Int} : fEq (.int i) (.int j) = .ok (.bool (i == j)) := rfl
theorem fNe_i {i j : Int} : fNe (.int i) (.int j) = .ok (.bool (!(i == j))) := rfl
/-- ints as intsOf -/
theorem intsOf_nil : intsOf [] = some [] := rfl
theorem cut_take {α : Type} (xs : List α) (k : Nat) : cutD xs none (some (k : Int)) = xs.take k := by
  unfold cutD
  rw [HT.sIx_nat, HT.sIx_none, List.drop_zero, Nat.sub_zero]
  exact List.take_eq_take_min.symm
theorem cut_drop {α : Type} (xs : List α) (k : Nat) : cutD xs (some (k : Int)) none = xs.drop k := by
  unfold cutD
  rw [HT.sIx_nat, HT.sIx_none]
  by_cases h : k ≤ xs.length
  · rw [Nat.min_eq_left h, List.take_of_length_le (by rw [List.length_drop]; omega)]
  · rw [Nat.min_eq_right (by omega), Nat.sub_self, List.take_zero, List.drop_eq_nil_of_le (by omega)]
theorem fSum_ints (ns : List Int) : fSum [.list (ns.map .int)] = .ok (.val (.int ns.sum)) := by
  show (match intsOf (ns.map .int) with | some ns => Res.ok (Sl.val (.int ns.sum)) | none => .no) = _
  rw [intsOf_ints]
theorem atI_map {α : Type} (f : α → PyData) (xs : List α) (i : Nat) (h : i < xs.length) : atI (xs.map f) (i : Int) = some (f xs[i]) := by
  unfold atI ixN
  rw [List.length_map, if_pos (by omega), if_pos (by omega)]
  show (xs.map f)[(i : Int).toNat]? = _
  rw [Int.toNat_natCast, List.getElem?_map, List.getElem?_eq_getElem h]
  rfl
theorem lay_ints : ∀ ns : List Int, PyData.canLayAll0 (ns.map .int) = true
  | [] => by simp [PyData.canLayAll0]
  | n :: ns => by simp [PyData.canLayAll0, PyData.canLay0, lay_ints ns]
theorem depth_ints : ∀ ns : List Int, PyData.depthAll (ns.map .int) = 0
  | [] => by simp [PyData.depthAll]
  | n :: ns => by simp [PyData.depthAll, PyData.depth, depth_ints ns]
theorem shaped_tI (ns : List Int) : SeqAt.shaped (tI ns) = true := by
  show ((tI ns).canLay0 && decide ((tI ns).depth ≤ 64)) = true
  simp [PyData.canLay0, PyData.depth, lay_ints, depth_ints]
theorem shaped_lI (ns : List Int) : SeqAt.shaped (lI ns) = true := by
  show ((lI ns).canLay0 && decide ((lI ns).depth ≤ 64)) = true
  simp [PyData.canLay0, PyData.depth, lay_ints, depth_ints]
theorem fDivmod_ok {i j : Int} (h : 0 < j) (h2 : j < 1152921504606846976) : fDivmod [.int i, .int j] = .ok (.val (.tuple [.int (i / j), .int (i % j)])) :=
  if_pos ⟨h, PyProof.noPylong_of_log2 (Nat.lt_trans (log_lt (j := j) (n := 60) (by omega) (by simpa using h2) (by omega)) (by omega))⟩
theorem fAdd_t {xs ys : List PyData} (h : xs.length + ys.length ≤ 16777216) : fAdd (.tuple xs) (.tuple ys) = .ok (.tuple (xs ++ ys)) := if_pos h
theorem fAdd_l {xs ys : List PyData} (h : xs.length + ys.length ≤ 16777216) : fAdd (.list xs) (.list ys) = .ok (.list (xs ++ ys)) := if_pos h
theorem rngD_map (lo : Int) (n : Nat) : rngD lo n = ((List.range n).map fun (i : Nat) => lo + (i : Int)).map PyData.int := by
  unfold rngD
  rw [List.map_map]; rfl
theorem rngD_nat (n : Nat) : rngD 0 n = (List.range n).map fun (i : Nat) => PyData.int (i : Int) := by
  unfold rngD
  simp
/-! repr of data with small ints -/
mutual
def smI : PyData → Bool
  | .none => true
  | .bool _ => true
  | .int i => decide (i.natAbs < 1000000000000000000)
  | .str x => x.cps.toList.all fun c => decide (c < 16 ^ 8)
  | .list xs => smA xs
  | .tuple xs => smA xs
  | .dict _ => false
def smA : List PyData → Bool
  | [] => true
  | x :: xs => smI x && smA xs
end
theorem smI_both (d : PyData) : smI d = true → d.leavesShort 20 = true ∧ d.showable = true :=
  PyData.rec (motive_1 := fun d => smI d = true → d.leavesShort 20 = true ∧ d.showable = true) (motive_2 := fun ds => smA ds = true → PyData.leavesShortAll 20 ds = true ∧ PyData.showableAll ds = true) (motive_3 := fun _ => True) (motive_4 := fun _ => True)
    (fun _ => ⟨rfl, rfl⟩) (fun _ _ => ⟨rfl, rfl⟩)
    (fun i h => by
      have h' : i.natAbs < 1000000000000000000 := of_decide_eq_true (by simpa [smI] using h)
      have e := int_text_length_le10 (a := i) (k := 18) (by decide) h'
      have e2 : (PyData.shown (.int i)).length = (toString i).length := by simp only [PyData.shown]; exact PySem.ofString_length _
      have lg : i.natAbs.log2 < 1920 := by
        by_cases z : i.natAbs = 0
        · rw [z]; decide
        · exact Nat.lt_trans (show i.natAbs.log2 < 60 from (Nat.log2_lt z).mpr (Nat.lt_of_lt_of_le h' (by decide))) (by decide)
      exact ⟨by simp only [PyData.leavesShort]; exact decide_eq_true (by omega), by simp only [PyData.showable]; exact decide_eq_true lg⟩)
    (fun x h => ⟨by simpa [smI, PyData.leavesShort] using h, rfl⟩)
    (fun xs ih h => by
      have z := ih (by simpa [smI] using h)
      exact ⟨by simpa [PyData.leavesShort] using z.1, by simpa [PyData.showable] using z.2⟩)
    (fun xs ih h => by
      have z := ih (by simpa [smI] using h)
      exact ⟨by simpa [PyData.leavesShort] using z.1, by simpa [PyData.showable] using z.2⟩)
    (fun _ _ h => by simp [smI] at h) (fun _ => ⟨rfl, rfl⟩)
    (fun d ds i1 i2 h => by
      simp only [smA, Bool.and_eq_true] at h
      have a := i1 h.1
      have b := i2 h.2
      exact ⟨by simp [PyData.leavesShortAll, a.1, b.1], by simp [PyData.showableAll, a.2, b.2]⟩)
    trivial (fun _ _ _ _ => trivial) (fun _ _ _ _ => trivial) d
mutual
theorem smI_noDict : ∀ d : PyData, smI d = true → d.hasDict = false
  | .none, _ => rfl
  | .bool _, _ => rfl
  | .int _, _ => rfl
  | .str _, _ => rfl
  | .list xs, h => by simp only [PyData.hasDict]; exact smA_noDict xs (by simpa [smI] using h)
  | .tuple xs, h => by simp only [PyData.hasDict]; exact smA_noDict xs (by simpa [smI] using h)
  | .dict _, h => by simp [smI] at h
theorem smA_noDict : ∀ ds : List PyData, smA ds = true → PyData.hasDictAll ds = false
  | [], _ => rfl
  | d :: ds, h => by
    simp only [smA, Bool.and_eq_true] at h
    simp only [PyData.hasDictAll, smI_noDict d h.1, smA_noDict ds h.2, Bool.or_false]
end
theorem fRepr_ok {d : PyData} (h1 : smI d = true) (h2 : d.depth ≤ 60) (h3 : d.bulk ≤ 500000) : fRepr [d] = .ok (.val (.str d.shown)) := by
  obtain ⟨a, b⟩ := smI_both d h1
  have z := PyData.shown_le_bulk 20 (by decide) d a
  exact fRepr_go b (smI_noDict d h1) h2 (by rw [sizeLine_eq]; omega)
theorem smA_ints {ns : List Int} (h : ∀ n ∈ ns, n.natAbs < 1000000000000000000) : smA (ns.map .int) = true := by
  induction ns with
  | nil => simp [smA]
  | cons n ns ih =>
    have h1 := h n (List.mem_cons_self ..)
    have h2 := ih fun m hm => h m (List.mem_cons_of_mem _ hm)
    simp [smA, smI, h1, h2]
theorem bulk_ints (ns : List Int) : PyData.bulkAll (ns.map .int) = ns.length := by
  induction ns with
  | nil => simp [PyData.bulkAll]
  | cons n ns ih => simp [PyData.bulkAll, PyData.bulk, ih]; omega
theorem fRepr_lI {ns : List Int} (h : ∀ n ∈ ns, n.natAbs < 1000000000000000000) (hl : ns.length ≤ 400000) : fRepr [lI ns] = .ok (.val (.str (lI ns).shown)) :=
  fRepr_ok (by simp [smI, smA_ints h]) (by simp [PyData.depth, depth_ints]) (by simp [PyData.bulk, bulk_ints]; omega)
theorem fNe_str {x : Str} : fNe (.str x) (.str x) = .ok (.bool false) := by
  show Res.ok (PyData.bool (!decide (x = x))) = _
  rw [decide_eq_true rfl]; rfl
theorem fEq_str {x : Str} : fEq (.str x) (.str x) = .ok (.bool true) := by
  show Res.ok (PyData.bool (decide (x = x))) = _
  rw [decide_eq_true rfl]
theorem noDict_ints : ∀ ns : List Int, PyData.hasDictAll (ns.map .int) = false
  | [] => by simp [PyData.hasDictAll]
  | n :: ns => by simp [PyData.hasDictAll, PyData.hasDict, noDict_ints ns]
theorem noDict_lI (ns : List Int) : (lI ns).hasDict = false := by simp [PyData.hasDict, noDict_ints]
theorem noDict_tI (ns : List Int) : (tI ns).hasDict = false := by simp [PyData.hasDict, noDict_ints]
end CW

namespace CW
open PySem PySem.Spec PyProof.Rows L2
/-! what mirrors answer, step by step -/
section
variable {δ δ0 δ1 δ2 δ3 : Ev} {d x y z : PyData} {s : Sl} {i j n nl : Nat} {m ma mb mc : ME} {mn : MN} {a b c : MS} {as : MA} {ds es : List PyData} {t u : MT} {p q : Bool} {r : Res (Ctl × Ev)} {re : Res (PyData × Ev)} {rb : Res (Bool × Ev)} {f : PyData → PyData → Res PyData} {ff : List PyData → Res Sl} {xs ys : List PyData}
theorem ev_var (h : δ[i]? = some (.val d)) : mVar i δ = .ok (d, δ) := by
  unfold mVar
  rw [h]
theorem ev_c : mC d δ = .ok (d, δ) := rfl
theorem ev_fz (h : δ[i]? = some (.own xs)) (h2 : δ.set i (.val (.list xs)) = δ1) : mFz i δ = .ok (.list xs, δ1) := by
  unfold mFz
  rw [h, ← h2]
theorem ev_fzv (h : δ[i]? = some (.val d)) : mFz i δ = .ok (d, δ) := by
  unfold mFz
  rw [h]
theorem ev_mv (h : δ[i]? = some (.own xs)) (h2 : δ.set i .emp = δ1) : mMv i δ = .ok (.own xs, δ1) := by
  unfold mMv
  rw [h, ← h2]
theorem ev_mvv (h : δ[i]? = some (.val d)) : mMv i δ = .ok (.val d, δ) := by
  unfold mMv
  rw [h]
theorem ev_op (h1 : ma δ = .ok (x, δ1)) (h2 : mb δ1 = .ok (y, δ2)) (h3 : f x y = .ok z) : mOp f ma mb δ = .ok (z, δ2) := by
  unfold mOp
  rw [h1]; simp only []
  rw [h2]; simp only []
  rw [h3]
theorem ev_val (h : m δ = .ok (d, δ1)) : mVal m δ = .ok (.val d, δ1) := by
  unfold mVal
  rw [h]
theorem ev_frz (h : mn δ = .ok (s, δ1)) (h2 : s.frz = .ok d) : mFrz mn δ = .ok (d, δ1) := by
  unfold mFrz
  rw [h]; simp only []
  rw [h2]
theorem ev_neg {k : Int} (h : m δ = .ok (.int k, δ1)) : mNeg m δ = .ok (.int (-k), δ1) := by
  unfold mNeg
  rw [h]
theorem ev_nil : mNil δ = .ok ([], δ) := rfl
theorem ev_cons (h : m δ = .ok (d, δ1)) (h2 : as δ1 = .ok (ds, δ2)) : mCons m as δ = .ok (d :: ds, δ2) := by
  unfold mCons
  rw [h]; simp only []
  rw [h2]
theorem ev_tup (h : as δ = .ok (ds, δ1)) (h2 : ds.length ≤ 100000) : mTup as δ = .ok (.tuple ds, δ1) := by
  unfold mTup
  rw [h]; simp only []
  rw [if_pos h2]
theorem ev_lst (h : as δ = .ok (ds, δ1)) (h2 : ds.length ≤ 100000) : mLst as δ = .ok (.own ds, δ1) := by
  unfold mLst
  rw [h]; simp only []
  rw [if_pos h2]
theorem ev_call (h : as δ = .ok (ds, δ1)) (h2 : ff ds = .ok s) : mCall ff as δ = .ok (s, δ1) := by
  unfold mCall
  rw [h]; simp only []
  rw [h2]
theorem ev_unN {g : PyData → Res Sl} (h : m δ = .ok (d, δ1)) (h2 : g d = .ok s) : mUnN g m δ = .ok (s, δ1) := by
  unfold mUnN
  rw [h]; simp only []
  rw [h2]
theorem ev_isi {T : String} (h : m δ = .ok (d, δ1)) (h2 : isT T d = some p) : mIsi T m δ = .ok (.bool p, δ1) := by
  unfold mIsi
  rw [h]; simp only []
  rw [h2]
/-! tests -/
theorem ev_T (h : m δ = .ok (.bool p, δ1)) : mT m δ = .ok (p, δ1) := by
  unfold mT
  rw [h]
theorem ev_andT (h : t δ = .ok (p, δ1)) (hp : p = true) (h2 : u δ1 = rb) : mAndT t u δ = rb := by
  subst hp
  unfold mAndT
  rw [h]; exact h2
theorem ev_andF (h : t δ = .ok (p, δ1)) (hp : p = false) : mAndT t u δ = .ok (false, δ1) := by
  subst hp
  unfold mAndT
  rw [h]
theorem ev_orT (h : t δ = .ok (p, δ1)) (hp : p = true) : mOrT t u δ = .ok (true, δ1) := by
  subst hp
  unfold mOrT
  rw [h]
theorem ev_orF (h : t δ = .ok (p, δ1)) (hp : p = false) (h2 : u δ1 = rb) : mOrT t u δ = rb := by
  subst hp
  unfold mOrT
  rw [h]; exact h2
theorem ev_notT (h : t δ = .ok (p, δ1)) (hq : (!p) = q) : mNotT t δ = .ok (q, δ1) := by
  unfold mNotT
  rw [h, ← hq]
theorem ev_andVT (h : ma δ = .ok (.bool p, δ1)) (hp : p = true) (h2 : mb δ1 = re) : mAndV ma mb δ = re := by
  subst hp
  unfold mAndV
  rw [h]; exact h2
theorem ev_andVF (h : ma δ = .ok (.bool p, δ1)) (hp : p = false) : mAndV ma mb δ = .ok (.bool false, δ1) := by
  subst hp
  unfold mAndV
  rw [h]
theorem ev_orVT (h : ma δ = .ok (.bool p, δ1)) (hp : p = true) : mOrV ma mb δ = .ok (.bool true, δ1) := by
  subst hp
  unfold mOrV
  rw [h]
theorem ev_orVF (h : ma δ = .ok (.bool p, δ1)) (hp : p = false) (h2 : mb δ1 = re) : mOrV ma mb δ = re := by
  subst hp
  unfold mOrV
  rw [h]; exact h2
/-- both ways at once, where the state stays -/
theorem ev_andV (h : ma δ = .ok (.bool p, δ)) (h2 : p = true → mb δ = .ok (.bool q, δ)) : mAndV ma mb δ = .ok (.bool (p && q), δ) := by
  unfold mAndV
  rw [h]
  cases p with
  | true => exact h2 rfl
  | false => rfl
theorem ev_orV (h : ma δ = .ok (.bool p, δ)) (h2 : p = false → mb δ = .ok (.bool q, δ)) : mOrV ma mb δ = .ok (.bool (p || q), δ) := by
  unfold mOrV
  rw [h]
  cases p with
  | true => rfl
  | false => exact h2 rfl
theorem ev_notV (h : ma δ = .ok (.bool p, δ1)) (hq : (!p) = q) : mNotV ma δ = .ok (.bool q, δ1) := by
  unfold mNotV
  rw [h, ← hq]
theorem ev_ifeT (h : t δ = .ok (p, δ1)) (hp : p = true) (h2 : ma δ1 = re) : mIf t ma mb δ = re := by
  subst hp
  unfold mIf
  rw [h]; exact h2
theorem ev_ifeF (h : t δ = .ok (p, δ1)) (hp : p = false) (h2 : mb δ1 = re) : mIf t ma mb δ = re := by
  subst hp
  unfold mIf
  rw [h]; exact h2
theorem ev_chainT {g : PyData → PyData → Res PyData} (h1 : ma δ = .ok (x, δ1)) (h2 : mb δ1 = .ok (y, δ2)) (h3 : f x y = .ok (.bool p)) (hp : p = true) (h4 : mc δ2 = .ok (z, δ3)) (h5 : g y z = .ok d) : mChain f g ma mb mc δ = .ok (d, δ3) := by
  subst hp
  unfold mChain
  rw [h1]; simp only []
  rw [h2]; simp only []
  rw [h3]; simp only []
  rw [h4]; simp only []
  rw [h5]
theorem ev_chainF {g : PyData → PyData → Res PyData} (h1 : ma δ = .ok (x, δ1)) (h2 : mb δ1 = .ok (y, δ2)) (h3 : f x y = .ok (.bool p)) (hp : p = false) : mChain f g ma mb mc δ = .ok (.bool false, δ2) := by
  subst hp
  unfold mChain
  rw [h1]; simp only []
  rw [h2]; simp only []
  rw [h3]
/-! statements -/
theorem ev_seq (h : a δ = .ok (.nx, δ1)) (h2 : b δ1 = r) : mSeq a b δ = r := by
  unfold mSeq
  rw [h]; exact h2
theorem ev_seqR (h : a δ = .ok (.rt s, δ1)) : mSeq a b δ = .ok (.rt s, δ1) := by
  unfold mSeq
  rw [h]
theorem ev_next : mNext δ = .ok (.nx, δ) := rfl
theorem ev_ret (h : mn δ = .ok (s, δ1)) : mRet mn δ = .ok (.rt s, δ1) := by
  unfold mRet
  rw [h]
theorem ev_drop (h : mn δ = .ok (s, δ1)) : mDrop mn δ = .ok (.nx, δ1) := by
  unfold mDrop
  rw [h]
theorem ev_ifT (h : t δ = .ok (p, δ1)) (hp : p = true) (h2 : a δ1 = r) : mIfS t a b δ = r := by
  subst hp
  unfold mIfS
  rw [h]; exact h2
theorem ev_ifF (h : t δ = .ok (p, δ1)) (hp : p = false) (h2 : b δ1 = r) : mIfS t a b δ = r := by
  subst hp
  unfold mIfS
  rw [h]; exact h2
theorem ev_set (h : mn δ = .ok (s, δ1)) (hi : i < δ1.length) (h2 : δ1.set i s = δ2) : mSet i mn δ = .ok (.nx, δ2) := by
  unfold mSet
  rw [h]; simp only []
  rw [if_pos hi, h2]
theorem ev_asg {g : PyData → Ev → Res Ev} (h : m δ = .ok (d, δ1)) (h2 : g d δ1 = .ok δ2) : mAsg m g δ = .ok (.nx, δ2) := by
  unfold mAsg
  rw [h]; simp only []
  rw [h2]
theorem ev_par (h : as δ = .ok ([x, y], δ1)) (hi : i < δ1.length ∧ j < δ1.length) (h2 : (δ1.set i (.val x)).set j (.val y) = δ2) : mPar i j as δ = .ok (.nx, δ2) := by
  unfold mPar
  rw [h]; simp only []
  rw [if_pos hi, h2]
theorem ev_par3 (h : as δ = .ok ([x, y, z], δ1)) (hi : i < δ1.length ∧ j < δ1.length ∧ n < δ1.length) (h2 : ((δ1.set i (.val x)).set j (.val y)).set n (.val z) = δ2) : mPar3 i j n as δ = .ok (.nx, δ2) := by
  unfold mPar3
  rw [h]; simp only []
  rw [if_pos hi, h2]
theorem ev_for {mi : MA} {g : PyData → Ev → Res Ev} (h : mi δ = .ok (ds, δ1)) (h2 : forL g b ds δ1 = r) : mFor mi g b δ = r := by
  unfold mFor
  rw [h]; exact h2
/-! targets -/
theorem ev_gset (hi : i < δ.length) (h2 : δ.set i (.val d) = δ1) : gSet i d δ = .ok δ1 := by
  unfold gSet
  rw [if_pos hi, h2]
theorem ev_gsnil : gsNil [] δ = .ok δ := rfl
theorem ev_gscons {g : PyData → Ev → Res Ev} {gs : List PyData → Ev → Res Ev} (h : g d δ = .ok δ1) (h2 : gs ds δ1 = .ok δ2) : gsCons g gs (d :: ds) δ = .ok δ2 := by
  show (match g d δ with | .ok δ1 => gs ds δ1 | .err c d => .err c d | .no => .no) = _
  rw [h]; exact h2
theorem ev_gtup {gs : List PyData → Ev → Res Ev} (hl : ds.length = n) (h : gs ds δ = .ok δ1) : gsTup n gs (.tuple ds) δ = .ok δ1 := by
  show (if ds.length = n then gs ds δ else .no) = _
  rw [if_pos hl, h]
theorem ev_gtupL {gs : List PyData → Ev → Res Ev} (hl : ds.length = n) (h : gs ds δ = .ok δ1) : gsTup n gs (.list ds) δ = .ok δ1 := by
  show (if ds.length = n then gs ds δ else .no) = _
  rw [if_pos hl, h]
theorem ev_gix {k : Int} (hw : wasOwn i δ = true) (h : m δ = .ok (.int k, δ1)) (h1 : δ1[i]? = some s) (h2 : s.isOwn = some xs) (h3 : ixN xs.length k = some j) (h4 : δ1.set i (s.put (xs.set j d)) = δ2) : gsIx i m d δ = .ok δ2 := by
  unfold gsIx
  rw [if_pos hw, h]; simp only []
  rw [h1]; simp only []
  rw [h2]; simp only []
  rw [h3]; simp only []
  rw [h4]
/-! items -/
theorem ev_items (h : m δ = .ok (d, δ1)) (h2 : itemsD d = .ok ds) : mItems m δ = .ok (ds, δ1) := by
  unfold mItems
  rw [h]; simp only []
  rw [h2]
theorem ev_rng1 {k : Int} (h : as δ = .ok ([.int k], δ1)) (h2 : rOk k = true) : mRng1 as δ = .ok (rngD 0 k.toNat, δ1) := by
  unfold mRng1
  rw [h]; simp only []
  rw [if_pos h2]
theorem ev_rng2 {k l : Int} (h : as δ = .ok ([.int k, .int l], δ1)) (h2 : (rOk k && rOk l) = true) : mRng2 as δ = .ok (rngD k (l - k).toNat, δ1) := by
  unfold mRng2
  rw [h]; simp only []
  rw [if_pos h2]
theorem ev_en (h : as δ = .ok ([d], δ1)) (h2 : seqD d = .ok ds) : mEn as δ = .ok (enD ds, δ1) := by
  unfold mEn
  rw [h]; simp only []
  rw [h2]
theorem ev_zp {st : Bool} (h : as δ = .ok ([x, y], δ1)) (h2 : seqD x = .ok ds) (h3 : seqD y = .ok es) (h4 : (!st || ds.length == es.length) = true) : mZp st as δ = .ok (zpD ds es, δ1) := by
  unfold mZp
  rw [h]; simp only []
  rw [h2]; simp only []
  rw [h3]; simp only []
  rw [if_pos h4]
theorem ev_ixv (h1 : δ[i]? = some (.val x)) (h2 : m δ = .ok (y, δ1)) (h3 : δ1[i]? = some (.val z)) (h4 : fIx x y = .ok d) : mIxV i m δ = .ok (d, δ1) := by
  unfold mIxV
  rw [h1]; simp only []
  rw [h2]; simp only []
  rw [h3]
  show (match fIx x y with | .ok d => Res.ok (d, δ1) | .err c d => .err c d | .no => .no) = _
  rw [h4]
theorem ev_ixo {k : Int} {s1 : Sl} (h1 : δ[i]? = some s) (h2 : s.isOwn = some ys) (h3 : m δ = .ok (.int k, δ1)) (h4 : δ1[i]? = some s1) (h5 : s1.isOwn = some xs) (h6 : atI xs k = some d) : mIxV i m δ = .ok (d, δ1) := by
  unfold mIxV
  rw [h1]; simp only []
  rw [h3]; simp only []
  rw [h4]; simp only []
  rw [h2, h5]
  show (match (match atI xs k with | some d => Res.ok d | none => .no) with | .ok d => Res.ok (d, δ1) | .err c d => .err c d | .no => .no) = _
  rw [h6]
theorem ev_ownM {g : List PyData → List PyData → Res (PyData × List PyData)} (hw : wasOwn i δ = true) (h : as δ = .ok (ds, δ1)) (h1 : δ1[i]? = some s) (h2 : s.isOwn = some xs) (h3 : g xs ds = .ok (d, ys)) (h4 : δ1.set i (s.put ys) = δ2) : mOwnM i g as δ = .ok (d, δ2) := by
  unfold mOwnM
  rw [if_pos hw, h]; simp only []
  rw [h1]; simp only []
  rw [h2]; simp only []
  rw [h3]; simp only []
  rw [h4]
theorem ev_nopart : mNoPart δ = .ok (none, δ) := rfl
theorem ev_part {k : Int} (h : m δ = .ok (.int k, δ1)) : mPart m δ = .ok (some k, δ1) := by
  unfold mPart
  rw [h]
theorem ev_slice {ml mh : MO} {lo hi : Option Int} (h : m δ = .ok (x, δ1)) (h1 : ml δ1 = .ok (lo, δ2)) (h2 : mh δ2 = .ok (hi, δ3)) (h3 : fSl x lo hi = .ok s) : mSlice m ml mh δ = .ok (s, δ3) := by
  unfold mSlice
  rw [h]; simp only []
  rw [h1]; simp only []
  rw [h2]; simp only []
  rw [h3]
theorem ev_lrg1 {k : Int} (h : m δ = .ok (.int k, δ1)) (h2 : -4611686018427387904 ≤ k ∧ k ≤ 16777216) : mLRg1 m δ = .ok (.own (rngD 0 k.toNat), δ1) := by
  unfold mLRg1
  rw [h]
  exact if_pos h2
theorem ev_idx (h : ma δ = .ok (.list xs, δ1)) (h2 : mb δ1 = .ok (d, δ2)) (h3 : SeqAt.shaped (.list xs) = true ∧ SeqAt.shaped d = true) (h4 : idxD d xs = some j) : mIdx ma mb δ = .ok (.int (j : Nat), δ2) := by
  unfold mIdx
  rw [h]; simp only []
  rw [h2]; simp only []
  rw [if_pos h3, h4]
/-! a look at owned lists -/
theorem ev_bor (hs : δ.map Sl.see = δ0) (h : m δ0 = .ok (d, δ1)) (h2 : scD d = true) : mBor m δ = .ok (d, δ) := by
  subst hs
  unfold mBor
  rw [h]
  exact if_pos h2
/-! calls -/
theorem ev_fn (h : a (δ ++ List.replicate nl .emp) = .ok (.rt s, δ1)) (h2 : outA δ δ1 = .ok δ2) : fnM nl a δ = .ok (s, δ2) := by
  unfold fnM
  rw [h]; simp only []
  rw [h2]
theorem ev_fnN (h : a (δ ++ List.replicate nl .emp) = .ok (.nx, δ1)) (h2 : outA δ δ1 = .ok δ2) : fnM nl a δ = .ok (.val .none, δ2) := by
  unfold fnM
  rw [h]; simp only []
  rw [h2]
variable {fm : FM} {s2 : Sl} {rest vs : Ev}
theorem ev_callV (h : as δ = .ok (ds, δ1)) (hn : ds.length = n) (hv : ds.map .val = vs) (h2 : fm vs = .ok (s, δ2)) (h3 : resV s = some s2) : mCallV n fm as δ = .ok (s2, δ1) := by
  subst hv
  unfold mCallV
  rw [h]; simp only []
  rw [if_pos hn, h2]; simp only []
  rw [h3]
theorem ev_callO {ix : List Nat} {k l : Nat} {ak : MA} (h : as δ = .ok (ds, δ1)) (h1 : ak δ1 = .ok (es, δ2)) (hn : ds.length = n ∧ es.length = k ∧ (inOrder ix (ds ++ es)).length = l) (hv : (inOrder ix (ds ++ es)).map .val = vs) (h2 : fm vs = .ok (s, δ3)) (h3 : resV s = some s2) : mCallO ix n k l fm as ak δ = .ok (s2, δ2) := by
  subst hv
  unfold mCallO
  rw [h]; simp only []
  rw [h1]; simp only []
  rw [if_pos hn, h2]; simp only []
  rw [h3]
theorem ev_callI {s0 : Sl} (hw : wasOwn i δ = true) (h : as δ = .ok (ds, δ1)) (h1 : δ1[i]? = some s0) (h2 : s0.isOwn = some xs) (hn : ds.length + 1 = n) (hv : ds.map .val = vs) (h3 : fm (.io 0 xs :: vs) = .ok (s, .io 0 ys :: rest)) (h4 : resV s = some s2) (h5 : δ1.set i (s0.put ys) = δ2) : mCallI i n fm as δ = .ok (s2, δ2) := by
  subst hv
  unfold mCallI
  rw [if_pos hw, h]; simp only []
  rw [h1]; simp only []
  rw [h2]; simp only []
  rw [if_pos hn, h3]; simp only []
  rw [h4]; simp only []
  rw [h5]
theorem ev_callT (h0 : mn δ = .ok (.own xs, δ1)) (h : as δ1 = .ok (ds, δ2)) (hn : ds.length + 1 = n) (hv : ds.map .val = vs) (h3 : fm (.io 0 xs :: vs) = .ok (s, .io 0 ys :: rest)) (h4 : resV s = some s2) : mCallT n fm mn as δ = .ok (s2, δ2) := by
  subst hv
  unfold mCallT
  rw [h0]; simp only []
  rw [h]; simp only []
  rw [if_pos hn, h3]; simp only []
  rw [h4]
theorem ev_lc {mi : MA} {g : PyData → Ev → Res Ev} {vs : List Nat} (h : mi δ = .ok (ds, δ1)) (h1 : calmAt δ1 vs = true) (hc : clr δ1 vs = δ0) (h2 : lcL g t m vs ds [] δ0 = .ok (ys, δ2)) (h3 : bck δ1 vs δ2 = δ3) : mLc mi g t m vs δ = .ok (.own ys, δ3) := by
  subst hc
  unfold mLc
  rw [h]; simp only []
  rw [if_pos h1, h2]; simp only []
  rw [h3]
theorem clr_nil : clr δ [] = δ := rfl
theorem clr_cons {v : Nat} {vs : List Nat} : clr δ (v :: vs) = (clr δ vs).set v .emp := rfl
theorem bck_nil : bck δ0 [] δ = δ := rfl
theorem bck_cons {v : Nat} {vs : List Nat} : bck δ0 (v :: vs) δ = (match δ0[v]? with | some s => (bck δ0 vs δ).set v s | none => bck δ0 vs δ) := rfl
theorem ev_yes : mYes δ = .ok (true, δ) := rfl
end
end CW

namespace CW
open PySem PySem.Spec PyProof.Rows L2
section
variable {X : Cx} {K : PySem.W.Frag} {mg : Str → Option Value}
section
variable {ρ : Nat → Addr} {Fr F F' H H' : Hp} {δ δ' : Ev} {σ σ' : L2.St} {s : Sl} {o : Option V}
theorem Rel.toEnd (r : Rel K mg ρ Fr F (s :: δ) (o :: σ) H) : Rel K mg ρ Fr F (δ ++ [s]) (σ ++ [o]) H := by
  obtain ⟨L, ⟨A, B, rfl, a1, a2⟩, h2, h3⟩ := r.own
  have e : SlotsR K mg ρ F H [s] [o] A := ⟨A, [], by simp, a1, rfl⟩
  have p : (A ++ B).Perm (B ++ A) := List.perm_append_comm
  exact ⟨r.sub, r.fr, r.dis, B ++ A, slotsR_join a2 e, p.nodup_iff.mp h2, fun x hx => h3 x (p.mem_iff.mpr hx)⟩
theorem Rel.ofEnd (hl : δ.length = σ.length) (r : Rel K mg ρ Fr F (δ ++ [s]) (σ ++ [o]) H) : Rel K mg ρ Fr F (s :: δ) (o :: σ) H := by
  obtain ⟨L, h1, h2, h3⟩ := r.own
  obtain ⟨B, A, rfl, a1, a2⟩ := slotsR_split hl h1
  obtain ⟨A1, A2, rfl, b1, b2⟩ := a2
  have e : A2 = [] := b2
  subst e
  have p : (B ++ (A1 ++ [])).Perm (A1 ++ B) := by
    rw [List.append_nil]
    exact List.perm_append_comm
  exact ⟨r.sub, r.fr, r.dis, A1 ++ B, ⟨A1, B, rfl, b1, a1⟩, p.nodup_iff.mp h2, fun x hx => h3 x (p.mem_iff.mpr hx)⟩
/-- the first slot waits in the frame -/
theorem Rel.hide1 (r : Rel K mg ρ Fr F (s :: δ) (o :: σ) H) : ∃ Fr', Rel K mg ρ Fr' F δ σ H ∧ ∀ {F' H' : Hp} {ts : Ev} {us : L2.St}, Same F F' → Rel K mg ρ Fr' F' ts us H' → Rel K mg ρ Fr F' (s :: ts) (o :: us) H' := by
  have hl : δ.length = σ.length := by simpa using r.len
  obtain ⟨Fr', h1, _, h3⟩ := Rel.hideJ hl r.toEnd
  exact ⟨Fr', h1, fun e r' => (h3 e r').ofEnd r'.len⟩
end
/-! a, b = .., .. where new lists go into names of their own -/
def mParN (i j : Nat) (m1 m2 : MN) : MS := fun δ => match m1 δ with
  | .ok (s1, δ1) => (match m2 δ1 with
    | .ok (s2, δ2) => if i < δ2.length ∧ j < δ2.length ∧ i ≠ j then .ok (.nx, (δ2.set i s1).set j s2) else .no
    | .err c d => .err c d
    | .no => .no)
  | .err c d => .err c d
  | .no => .no
theorem sn_parN {i j : Nat} {t1 t2 : TE} {m1 m2 : MN} (h1 : SndN K mg t1 m1) (h2 : SndN K mg t2 m2) : SndS K mg (tPar i j (tCons t1 (tCons t2 tNil))) (mParN i j m1 m2) := fun {ρ Fr F δ σ H c δ'} r e {D} q => by
  unfold mParN at e
  split at e
  · rename_i s1 δ1 e1
    split at e
    · rename_i s2 δ2 e2
      split at e
      · rename_i hi
        cases e
        refine h1 r e1 fun F1 v H1 t1 r1 => ?_
        obtain ⟨Fr', k1, k2⟩ := r1.hide1
        refine h2 k1 e2 fun F2 w H2 t2 r2 => ?_
        have r3 := (k2 t2 r2).swap2
        have r4 : Rel K mg ρ Fr F2 ((s1 :: δ2).set (j + 1) s2) ((some v :: σ).set (j + 1) (some w)) H2 := Rel.set (δ := s1 :: δ2) (σ := some v :: σ) (i := j + 1) r3 (by simp; omega)
        rw [List.set_cons_succ, List.set_cons_succ] at r4
        have r5 := r4.set (i := i) (by rw [List.length_set]; exact hi.1)
        rw [List.set_comm _ _ (Ne.symm hi.2.2), List.set_comm _ _ (Ne.symm hi.2.2)] at r5
        exact ⟨v, w, rfl, q F2 _ H2 (t1.trans t2) r5⟩
      · cases e
    · cases e
    · cases e
  · cases e
  · cases e
theorem rs_parN (i j : Nat) {x y : Str} {a b : Expr} {t1 t2 : TE} {m1 m2 : MN} {px py pt pos : Pos} {kt k2 pt2} (hc : X.calm = true) (hN : X.N.Nodup) (ha : RN X a t1 m1) (hb : RN X b t2 m2) (hi : X.N[i]? = some x := by rfl) (hj : X.N[j]? = some y := by rfl) (hij : i ≠ j := by decide)
    (hx : X.env.scope.names.lookup x = some .local := by rfl) (hy : X.env.scope.names.lookup y = some .local := by rfl)
    (hw : swappedStores [.Tuple [.Name x px, .Name y py] kt pt] (.Tuple [a, b] k2 pt2) X.env = pure (some [x, y]) := by rfl)
    (hs : swapsWithSole [.Tuple [.Name x px, .Name y py] kt pt] (.Tuple [a, b] k2 pt2) pos.line X.env = pure false := by rfl)
    (hq : starEach [a, b] X.env = (false, eval a X.env) :: starEach [b] X.env := by rfl) (hq2 : starEach [b] X.env = (false, eval b X.env) :: starEach [] X.env := by rfl) :
    RS X (.Assign [.Tuple [.Name x px, .Name y py] kt pt] (.Tuple [a, b] k2 pt2) pos) (tPar i j (tCons t1 (tCons t2 tNil))) (mParN i j m1 m2) := ⟨ps_par hc hN hi hj hij hx hy (pa_cons ha.pe (pa_cons hb.pe pa_nil hq2) hq) hw hs, sn_parN ha.sn hb.sn⟩
theorem ev_parN {i j : Nat} {m1 m2 : MN} {δ δ1 δ2 δ3 : Ev} {s1 s2 : Sl} (h1 : m1 δ = .ok (s1, δ1)) (h2 : m2 δ1 = .ok (s2, δ2)) (hi : i < δ2.length ∧ j < δ2.length ∧ i ≠ j) (h3 : (δ2.set i s1).set j s2 = δ3) : mParN i j m1 m2 δ = .ok (.nx, δ3) := by
  unfold mParN
  rw [h1]; simp only []
  rw [h2]; simp only []
  rw [if_pos hi, h3]
/-! a, b, c = .., .., .. likewise -/
theorem set3 {α : Type} (X : List α) {i j l : Nat} (a b c : α) (ij : i ≠ j) (il : i ≠ l) (jl : j ≠ l) : ((X.set l c).set j b).set i a = ((X.set i a).set j b).set l c := by
  rw [List.set_comm _ _ (Ne.symm jl), List.set_comm _ _ (Ne.symm il), List.set_comm _ _ (Ne.symm ij)]
def mPar3N (i j l : Nat) (m1 m2 m3 : MN) : MS := fun δ => match m1 δ with
  | .ok (s1, δ1) => (match m2 δ1 with
    | .ok (s2, δ2) => (match m3 δ2 with
      | .ok (s3, δ3) => if i < δ3.length ∧ j < δ3.length ∧ l < δ3.length ∧ i ≠ j ∧ i ≠ l ∧ j ≠ l then .ok (.nx, ((δ3.set i s1).set j s2).set l s3) else .no
      | .err c d => .err c d
      | .no => .no)
    | .err c d => .err c d
    | .no => .no)
  | .err c d => .err c d
  | .no => .no
theorem sn_par3N {i j l : Nat} {t1 t2 t3 : TE} {m1 m2 m3 : MN} (h1 : SndN K mg t1 m1) (h2 : SndN K mg t2 m2) (h3 : SndN K mg t3 m3) : SndS K mg (tPar3 i j l (tCons t1 (tCons t2 (tCons t3 tNil)))) (mPar3N i j l m1 m2 m3) := fun {ρ Fr F δ σ H c δ'} r e {D} q => by
  unfold mPar3N at e
  split at e
  · rename_i s1 δ1 e1
    split at e
    · rename_i s2 δ2 e2
      split at e
      · rename_i s3 δ3 e3
        split at e
        · rename_i hi
          cases e
          refine h1 r e1 fun F1 v H1 t1 r1 => ?_
          obtain ⟨Fr', k1, k2⟩ := r1.hide1
          refine h2 k1 e2 fun F2 w H2 t2 r2 => ?_
          obtain ⟨Fr'', k3, k4⟩ := r2.hide1
          refine h3 k3 e3 fun F3 u H3 t3 r3 => ?_
          have r4 := r3.set (i := l) hi.2.2.1
          have r5 := k4 t3 r4
          have r6 := r5.set (i := j) (by rw [List.length_set]; exact hi.2.1)
          have r7 := k2 (t2.trans t3) r6
          have r8 := r7.set (i := i) (by rw [List.length_set, List.length_set]; exact hi.1)
          rw [set3 _ _ _ _ hi.2.2.2.1 hi.2.2.2.2.1 hi.2.2.2.2.2, set3 _ _ _ _ hi.2.2.2.1 hi.2.2.2.2.1 hi.2.2.2.2.2] at r8
          exact ⟨v, w, u, rfl, q F3 _ H3 ((t1.trans t2).trans t3) r8⟩
        · cases e
      · cases e
      · cases e
    · cases e
    · cases e
  · cases e
  · cases e
theorem rs_par3N (i j l : Nat) {x y z : Str} {a b c : Expr} {t1 t2 t3 : TE} {m1 m2 m3 : MN} {px py pz pt pos : Pos} {kt k2 pt2} (hc : X.calm = true) (hN : X.N.Nodup) (ha : RN X a t1 m1) (hb : RN X b t2 m2) (hd : RN X c t3 m3) (hi : X.N[i]? = some x := by rfl) (hj : X.N[j]? = some y := by rfl) (hl : X.N[l]? = some z := by rfl) (hij : i ≠ j := by decide) (hil : i ≠ l := by decide) (hjl : j ≠ l := by decide)
    (hx : X.env.scope.names.lookup x = some .local := by rfl) (hy : X.env.scope.names.lookup y = some .local := by rfl) (hz : X.env.scope.names.lookup z = some .local := by rfl)
    (hw : swappedStores [.Tuple [.Name x px, .Name y py, .Name z pz] kt pt] (.Tuple [a, b, c] k2 pt2) X.env = pure (some [x, y, z]) := by rfl)
    (hs : swapsWithSole [.Tuple [.Name x px, .Name y py, .Name z pz] kt pt] (.Tuple [a, b, c] k2 pt2) pos.line X.env = pure false := by rfl)
    (hq : starEach [a, b, c] X.env = (false, eval a X.env) :: starEach [b, c] X.env := by rfl) (hq2 : starEach [b, c] X.env = (false, eval b X.env) :: starEach [c] X.env := by rfl) (hq3 : starEach [c] X.env = (false, eval c X.env) :: starEach [] X.env := by rfl) :
    RS X (.Assign [.Tuple [.Name x px, .Name y py, .Name z pz] kt pt] (.Tuple [a, b, c] k2 pt2) pos) (tPar3 i j l (tCons t1 (tCons t2 (tCons t3 tNil)))) (mPar3N i j l m1 m2 m3) := ⟨ps_par3 hc hN hi hj hl hij hil hjl hx hy hz (pa_cons ha.pe (pa_cons hb.pe (pa_cons hd.pe pa_nil hq3) hq2) hq) hw hs, sn_par3N ha.sn hb.sn hd.sn⟩
theorem ev_par3N {i j l : Nat} {m1 m2 m3 : MN} {δ δ1 δ2 δ3 δ4 : Ev} {s1 s2 s3 : Sl} (h1 : m1 δ = .ok (s1, δ1)) (h2 : m2 δ1 = .ok (s2, δ2)) (h3 : m3 δ2 = .ok (s3, δ3)) (hi : i < δ3.length ∧ j < δ3.length ∧ l < δ3.length ∧ i ≠ j ∧ i ≠ l ∧ j ≠ l) (h4 : ((δ3.set i s1).set j s2).set l s3 = δ4) : mPar3N i j l m1 m2 m3 δ = .ok (.nx, δ4) := by
  unfold mPar3N
  rw [h1]; simp only []
  rw [h2]; simp only []
  rw [h3]; simp only []
  rw [if_pos hi, h4]
/-! a test that looks at lists that stay owned -/
def mBorT (m : MT) : MT := fun δ => match m (δ.map Sl.see) with
  | .ok (b, _) => .ok (b, δ)
  | .err c d => .err c d
  | .no => .no
theorem sn_borT {t : TT} {m : MT} (h : SndT K mg t m) : SndT K mg t (mBorT m) := fun {ρ Fr F δ σ H d δ'} r e {Q} q => by
  unfold mBorT at e
  split at e
  · rename_i d' δ1 e1
    cases e
    obtain ⟨F1, s1, r1, back⟩ := r.bor
    refine h r1 e1 fun F2 H2 s2 r2 => ?_
    obtain ⟨L, hL, s3, mk⟩ := back (ss := []) (os := []) s2 r2 rfl
    exact q _ H2 s3 (mk [] fun Ls z => z)
  · cases e
  · cases e
theorem RT.bor {e : Expr} {t : TT} {m : MT} (h : RT X e t m) : RT X e t (mBorT m) := ⟨h.pt, sn_borT h.sn⟩
theorem ev_borT {m : MT} {δ δ0 δ1 : Ev} {p : Bool} (hs : δ.map Sl.see = δ0) (h : m δ0 = .ok (p, δ1)) : mBorT m δ = .ok (p, δ) := by
  subst hs
  unfold mBorT
  rw [h]
end
end CW

namespace CW
open PySem PySem.Spec PyProof.Rows L2
section
variable {X : Cx} {K : PySem.W.Frag} {mg : Str → Option Value}
/-! operators whose answer is a new list -/
def OpN (K : PySem.W.Frag) (mg : Str → Option Value) (r : R2) (f : PyData → PyData → Res Sl) : Prop := ∀ {ρ : Nat → Addr} {Fr F : Hp} {δ : Ev} {σ : L2.St} {H : Hp} {x y : V} {a b : PyData} {s : Sl}, Rel K mg ρ Fr F δ σ H → Dp K F x a → Dp K F y b → f a b = .ok s →
  ∀ {Q : VK}, (∀ F' v H', Same F F' → Rel K mg ρ Fr F' (s :: δ) (some v :: σ) H' → Q v H') → r x y H Q
def mOpN (f : PyData → PyData → Res Sl) (ma mb : ME) : MN := fun δ => match ma δ with
  | .ok (x, δ1) => (match mb δ1 with
    | .ok (y, δ2) => (match f x y with
      | .ok s => .ok (s, δ2)
      | .err c d => .err c d
      | .no => .no)
    | .err c d => .err c d
    | .no => .no)
  | .err c d => .err c d
  | .no => .no
theorem sn_opN {r : R2} {f} {ta tb : TE} {ma mb : ME} (ho : OpN K mg r f) (ha : SndE K mg ta ma) (hb : SndE K mg tb mb) : SndN K mg (tOp r ta tb) (mOpN f ma mb) := fun {ρ Fr F δ σ H s δ'} r e {Q} q => by
  unfold mOpN at e
  split at e
  · rename_i x δ1 e1
    split at e
    · rename_i y δ2 e2
      split at e
      · rename_i z e3
        cases e
        exact ha r e1 fun F1 v H1 s1 r1 d1 => hb r1 e2 fun F2 u H2 s2 r2 d2 => ho r2 (d1.up s2) d2 e3 fun F3 z H3 s3 r3 => q F3 z H3 ((s1.trans s2).trans s3) r3
      · cases e
      · cases e
    · cases e
    · cases e
  · cases e
  · cases e
def fAddN : PyData → PyData → Res Sl
  | .list xs, .list ys => if xs.length + ys.length ≤ sizeLine then .ok (.own (xs ++ ys)) else .no
  | _, _ => .no
theorem opn_add : OpN K mg (rCatS K) fAddN := fun {ρ Fr F δ σ H x y a b s} r dx dy e {Q} q => by
  unfold fAddN at e
  split at e
  · split at e
    · rename_i xs ys hz
      cases e
      cases dx with
      | lst h1 d1 =>
        cases dy with
        | lst h2 d2 => exact ⟨_, _, _, _, rfl, rfl, sqL_mono r.sub h1, sqL_mono r.sub h2, by rw [dpa_len d1, dpa_len d2]; exact hz, fun p hp => q F _ _ (Same.refl _) (r.temp hp (dpa_app d1 d2))⟩
    · cases e
  · cases e
theorem rn_addL {a b : Expr} {ta tb : TE} {ma mb : ME} {pos : Pos} (ha : RE X a ta ma) (hb : RE X b tb mb) : RN X (.BinOp a .Add b pos) (tOp (rCatS X.K) ta tb) (mOpN fAddN ma mb) := ⟨pe_op op_catS ha.pe hb.pe, sn_opN opn_add ha.sn hb.sn⟩
/-- xs * k of any list -/
def rRepS (K : PySem.W.Frag) : R2 := fun x y H Q => ∃ l k xs, x = .ref l ∧ y = .int k ∧ SqL K H l xs ∧ -(2 ^ 63) ≤ k ∧ k < 2 ^ 63 ∧ xs.length * k.toNat ≤ sizeLine ∧ ∀ p, H p = none → Q (.ref p) (upd H p (.lst (List.replicate k.toNat xs).flatten))
theorem op_repS : OpR X (binaryOp .Mult) (rRepS X.K) := by
  intro pins s σ H x y v u Q I rx ry h
  obtain ⟨l, k, xs, rfl, rfl, hs, h1, h2, hz, q⟩ := h
  cases rx
  obtain ⟨t, rfl⟩ := ry
  obtain ⟨its, rv, ⟨⟨cls, dd, data, sl⟩, n, ho, hc, hdn, hd⟩, hlen⟩ := I.list hs
  simp only at hc hd
  subst hc hd
  have hl := rv.length
  have hz' : its.toArray.size * k.toNat ≤ sizeLine := by rw [List.size_toArray, ← hl]; exact hz
  have cap : (sizeLine : Nat) ≤ (2 ^ 63 - 1) / 8 := by decide
  refine wpAny_binaryOp_repeat_ref (T := "list") (U := "int") (by decide) ⟨_, ho, rfl⟩ (fun s' => typeIs_int s' k t) noFill_list_mul PySem.F.fills_int_mul PySem.F.slot_int_rmul repeat_list PySem.F.slot_int_index.lookup
    (call_meets PySem.F.slot_int_rmul (typeIs_int s k t) PySem.F.entry_int_rmul (PySem.F.args_int_rmul_2 _ _) (lm_int_rmul_list_any k t l its.toArray n dd sl)
      ⟨ho, rfl, ⟨_, ho, rfl⟩, call_meets PySem.F.slot_list_mul ⟨_, ho, rfl⟩ PySem.F.entry_list_mul (PySem.F.args_list_mul_2 _ _)
        (lm_list_mul_any l its.toArray n dd sl k t (by rw [fitsIndex_both h1 h2]; exact Bool.false_ne_true) (by omega) (by rw [notLongL hz']; exact Bool.false_ne_true)) ⟨ho, ?_⟩⟩)
  rw [listMul_foldl_if]
  exact ⟨.ref _, _, I.lnew (t' := s.toks) (rv.rep k.toNat) (by rw [PyProof.Rows.lm_len_rep_flat, Nat.mul_comm]; exact hz), rfl, q _ I.fresh⟩
def fRepN : PyData → PyData → Res Sl
  | .list xs, .int k => if -(2 ^ 63) ≤ k ∧ k < 2 ^ 63 ∧ xs.length * k.toNat ≤ sizeLine then .ok (.own (List.replicate k.toNat xs).flatten) else .no
  | _, _ => .no
theorem dpa_rep {F : Hp} {vs : List V} {xs : List PyData} (h : DpAll K F vs xs) : ∀ n : Nat, DpAll K F (List.replicate n vs).flatten (List.replicate n xs).flatten
  | 0 => .nil
  | n + 1 => by
    rw [List.replicate_succ, List.replicate_succ, List.flatten_cons, List.flatten_cons]
    exact dpa_app h (dpa_rep h n)
theorem opn_rep : OpN K mg (rRepS K) fRepN := fun {ρ Fr F δ σ H x y a b s} r dx dy e {Q} q => by
  unfold fRepN at e
  split at e
  · split at e
    · rename_i xs k hz
      cases e
      cases dx with
      | lst h1 d1 =>
        cases dy
        exact ⟨_, _, _, rfl, rfl, sqL_mono r.sub h1, hz.1, hz.2.1, by rw [dpa_len d1]; exact hz.2.2, fun p hp => q F _ _ (Same.refl _) (r.temp hp (dpa_rep d1 _))⟩
    · cases e
  · cases e
theorem rn_repL {a b : Expr} {ta tb : TE} {ma mb : ME} {pos : Pos} (ha : RE X a ta ma) (hb : RE X b tb mb) : RN X (.BinOp a .Mult b pos) (tOp (rRepS X.K) ta tb) (mOpN fRepN ma mb) := ⟨pe_op op_repS ha.pe hb.pe, sn_opN opn_rep ha.sn hb.sn⟩
theorem ev_opN {f : PyData → PyData → Res Sl} {ma mb : ME} {δ δ1 δ2 : Ev} {x y : PyData} {s : Sl} (h1 : ma δ = .ok (x, δ1)) (h2 : mb δ1 = .ok (y, δ2)) (h3 : f x y = .ok s) : mOpN f ma mb δ = .ok (s, δ2) := by
  unfold mOpN
  rw [h1]; simp only []
  rw [h2]; simp only []
  rw [h3]
end
end CW

namespace CW
open PySem PySem.Spec PyProof.Rows L2
section
variable {X : Cx}
variable {elt tg iter : Expr} {ifs : List Expr} {scope : Scope} {own : List (Str × Nat)} {pos : Pos} {wi : TI} {mi : MA} {f : PyData → Ev → Res Ev} {mt : MT} {me : ME}
/-- name = [..] where nobody changes the new list: it is frozen at once -/
theorem rs_setLcF (own : List (Str × Nat)) (i : Nat) {y : Str} {py spos : Pos} (hc : X.calm = true) (hN : X.N.Nodup) (hi : RI X tg iter wi mi) (hg : ∀ s H C cl fp, ∃ g js, RG (BX X scope s H C cl fp) tg g f js ∧ ∀ k ∈ js, k ∈ own.map (·.2)) (ht : ∀ s H C cl fp, ∃ tt, RTs (BX X scope s H C cl fp) ifs tt mt)
    (he : ∀ s H C cl fp, ∃ te, RE (BX X scope s H C cl fp) elt te me) (ok : BlkOk X.N X.env.scope scope own := by exact blkOk_by rfl) (hs : ∀ x, foldedSetIterable iter X.env x = pure x := by intro _; rfl)
    (hy : X.N[i]? = some y := by rfl) (hyl : X.env.scope.names.lookup y = some .local := by rfl) (hsw : swapsWith (.ListComp elt [⟨tg, iter, ifs, 0⟩] scope pos) (some (.Name y py)) spos.line X.env = pure true := by rfl) :
    RS X (.Assign [.Name y py] (.ListComp elt [⟨tg, iter, ifs, 0⟩] scope pos) spos) (tAsg (tLc wi (cG X.K X.mg f (own.map (·.2))) (cT X.K X.mg mt) (cE X.K X.mg me) (own.map (·.2))) (gName i)) (mSet i (mVal (mFrz (mLc mi f mt me (own.map (·.2)))))) :=
  ⟨ps_setLc hc hN hy hyl hsw hi.pi ok (fun s H C cl fp => let ⟨_, _, r, j⟩ := hg s H C cl fp; r.canon j) (fun s H C cl fp => let ⟨_, r⟩ := ht s H C cl fp; r.canon) (fun s H C cl fp => let ⟨_, r⟩ := he s H C cl fp; r.canon) hs,
    sn_set i (sn_val (sn_frz (sn_lc hi.sn sn_cG sn_cT sn_cE fun _ h => h)))⟩
/-- the same while it looks at lists that stay owned -/
theorem rs_setLcB (own : List (Str × Nat)) (i : Nat) {y : Str} {py spos : Pos} (hc : X.calm = true) (hN : X.N.Nodup) (hi : RI X tg iter wi mi) (hg : ∀ s H C cl fp, ∃ g js, RG (BX X scope s H C cl fp) tg g f js ∧ ∀ k ∈ js, k ∈ own.map (·.2)) (ht : ∀ s H C cl fp, ∃ tt, RTs (BX X scope s H C cl fp) ifs tt mt)
    (he : ∀ s H C cl fp, ∃ te, RE (BX X scope s H C cl fp) elt te me) (ok : BlkOk X.N X.env.scope scope own := by exact blkOk_by rfl) (hs : ∀ x, foldedSetIterable iter X.env x = pure x := by intro _; rfl)
    (hy : X.N[i]? = some y := by rfl) (hyl : X.env.scope.names.lookup y = some .local := by rfl) (hsw : swapsWith (.ListComp elt [⟨tg, iter, ifs, 0⟩] scope pos) (some (.Name y py)) spos.line X.env = pure true := by rfl) :
    RS X (.Assign [.Name y py] (.ListComp elt [⟨tg, iter, ifs, 0⟩] scope pos) spos) (tAsg (tLc wi (cG X.K X.mg f (own.map (·.2))) (cT X.K X.mg mt) (cE X.K X.mg me) (own.map (·.2))) (gName i)) (mSet i (mBorN (mLc mi f mt me (own.map (·.2))))) :=
  ⟨ps_setLc hc hN hy hyl hsw hi.pi ok (fun s H C cl fp => let ⟨_, _, r, j⟩ := hg s H C cl fp; r.canon j) (fun s H C cl fp => let ⟨_, r⟩ := ht s H C cl fp; r.canon) (fun s H C cl fp => let ⟨_, r⟩ := he s H C cl fp; r.canon) hs,
    sn_set i (sn_borN (sn_lc hi.sn sn_cG sn_cT sn_cE fun _ h => h))⟩
theorem rs_setLcBF (own : List (Str × Nat)) (i : Nat) {y : Str} {py spos : Pos} (hc : X.calm = true) (hN : X.N.Nodup) (hi : RI X tg iter wi mi) (hg : ∀ s H C cl fp, ∃ g js, RG (BX X scope s H C cl fp) tg g f js ∧ ∀ k ∈ js, k ∈ own.map (·.2)) (ht : ∀ s H C cl fp, ∃ tt, RTs (BX X scope s H C cl fp) ifs tt mt)
    (he : ∀ s H C cl fp, ∃ te, RE (BX X scope s H C cl fp) elt te me) (ok : BlkOk X.N X.env.scope scope own := by exact blkOk_by rfl) (hs : ∀ x, foldedSetIterable iter X.env x = pure x := by intro _; rfl)
    (hy : X.N[i]? = some y := by rfl) (hyl : X.env.scope.names.lookup y = some .local := by rfl) (hsw : swapsWith (.ListComp elt [⟨tg, iter, ifs, 0⟩] scope pos) (some (.Name y py)) spos.line X.env = pure true := by rfl) :
    RS X (.Assign [.Name y py] (.ListComp elt [⟨tg, iter, ifs, 0⟩] scope pos) spos) (tAsg (tLc wi (cG X.K X.mg f (own.map (·.2))) (cT X.K X.mg mt) (cE X.K X.mg me) (own.map (·.2))) (gName i)) (mSet i (mVal (mFrz (mBorN (mLc mi f mt me (own.map (·.2))))))) :=
  ⟨ps_setLc hc hN hy hyl hsw hi.pi ok (fun s H C cl fp => let ⟨_, _, r, j⟩ := hg s H C cl fp; r.canon j) (fun s H C cl fp => let ⟨_, r⟩ := ht s H C cl fp; r.canon) (fun s H C cl fp => let ⟨_, r⟩ := he s H C cl fp; r.canon) hs,
    sn_set i (sn_val (sn_frz (sn_borN (sn_lc hi.sn sn_cG sn_cT sn_cE fun _ h => h))))⟩
end
end CW

namespace CW
open PySem PySem.Spec PyProof.Rows L2
section
variable {X : Cx} {K : PySem.W.Frag} {mg : Str → Option Value}
/-! the module's own data -/
theorem sn_glo {v : V} {d : PyData} (h : ∀ F, Dp K F v d) : SndE K mg (tC v) (mC d) := fun {ρ Fr F δ σ H d' δ'} r e {Q} q => by
  cases e
  exact q F v H (Same.refl _) r (h F)
theorem re_glo {x : Str} {d : PyData} {a : Addr} {pos : Pos} (hg : Gl X x) (hm : X.mg x = some (.ref a)) (h : ∀ F, Dp X.K F (.ref a) d) (hd : (x == ("__debug__" : Str)) = false := by decide) : RE X (.Name x pos) (tC (.ref a)) (mC d) :=
  ⟨pe_glob hg hm rfl hd, sn_glo h⟩
theorem re_gloI {x : Str} {i : Int} {pos : Pos} (hg : Gl X x) (hm : ∃ t, X.mg x = some (.int i t)) (hd : (x == ("__debug__" : Str)) = false := by decide) : RE X (.Name x pos) (tC (.int i)) (mC (.int i)) :=
  ⟨pe_glob hg hm.choose_spec ⟨_, rfl⟩ hd, sn_glo fun _ => .int i⟩
/-- a list of texts and ints that stands at the top -/
def dvD : PyData → Option He.Dv
  | .none => some .non
  | .bool b => some (.bl b)
  | .int i => some (.int i)
  | .str x => some (.str x)
  | _ => none
theorem dvD_dp {K : PySem.W.Frag} {F : Hp} {d : PyData} {v : He.Dv} (h : dvD d = some v) : Dp K F (v.v K) d := by
  cases d <;> cases h <;> constructor
theorem glo_lst {K : PySem.W.Frag} {x : Str} {vs : List He.Dv} {ds : List PyData} (h : He.lstB K x vs = true) (e : ds.map dvD = vs.map some) (F : Hp) : Dp K F (.ref (He.ga K x)) (.list ds) := by
  refine .lst (He.lstB_ok h F) ?_
  clear h
  induction ds generalizing vs with
  | nil => cases vs with
    | nil => exact .nil
    | cons => cases e
  | cons d ds ih => cases vs with
    | nil => cases e
    | cons v vs =>
      rw [List.map_cons, List.map_cons] at e
      injection e with e1 e2
      exact .cons (dvD_dp e1) (ih e2)
/-! xs.count(k) of ints -/
def mCnt (ma mb : ME) : ME := fun δ => match ma δ with
  | .ok (.list xs, δ1) => (match mb δ1 with
    | .ok (.int k, δ2) => (match intsOf xs with
      | some ns => .ok (.int (ns.count k : Nat), δ2)
      | none => .no)
    | .err c d => .err c d
    | _ => .no)
  | .err c d => .err c d
  | _ => .no
theorem sn_cnt {ta tb : TE} {ma mb : ME} (ha : SndE K mg ta ma) (hb : SndE K mg tb mb) : SndE K mg (tBM K "list" (rCntI K) ta (tCons tb tNil)) (mCnt ma mb) := fun {ρ Fr F δ σ H d δ'} r e {Q} q => by
  unfold mCnt at e
  split at e
  · rename_i xs δ1 e1
    split at e
    · rename_i k δ2 e2
      split at e
      · rename_i ns e3
        cases e
        refine ha r e1 fun F1 v H1 s1 r1 d1 => ?_
        cases d1 with
        | lst h1 da =>
          refine ⟨Or.inl ⟨rfl, _, sqL_mono r1.sub h1⟩, hb r1 e2 fun F2 u H2 s2 r2 d2 => ?_⟩
          cases d2
          have ev := dpa_intsOf da e3
          subst ev
          exact ⟨_, ns, k, rfl, rfl, sqL_mono (s2.trans r2.sub) h1, q F2 _ H2 (s1.trans s2) r2 (.int _)⟩
      · cases e
    · cases e
    · cases e
  · cases e
  · cases e
theorem re_cnt {o a : Expr} {t t' : TE} {m m' : ME} {apos cpos : Pos} (ho : RE X o t m) (ha : RE X a t' m')
    (hbase : attributeBase o "count" X.env (eval o X.env) = eval o X.env := by rfl)
    (hfew : ((backTo cpos (starEach [a] X.env)).all (fun x => !x.1) && (backToKw cpos (keywordEach [] X.env)).all (fun x => x.1.isSome)
      && decide (([a] : List Expr).length + ([] : List Keyword).length + (if ([] : List Keyword).isEmpty then 0 else 1) < 30)) = true := by rfl)
    (hline : (apos.endLine == cpos.line) = true := by rfl) (hs : starEach [a] X.env = (false, eval a X.env) :: starEach [] X.env := by rfl) (hplain : (backTo cpos (starEach [] X.env)).any (·.1) = false := by rfl) :
    RE X (.Call (.Attribute o "count" apos) [a] [] cpos) (tBM X.K "list" (rCntI X.K) t (tCons t' tNil)) (mCnt m m') :=
  ⟨pe_bm PySem.F.plainAttrs_list PySem.F.slot_list_count PySem.F.type_list_count mt_lcount ho.pe (pa_cons ha.pe pa_nil hs) hbase hfew hline hs hplain, sn_cnt ho.sn ha.sn⟩
theorem ev_cnt {ma mb : ME} {δ δ1 δ2 : Ev} {xs : List PyData} {ns : List Int} {k : Int} (h : ma δ = .ok (.list xs, δ1)) (h2 : mb δ1 = .ok (.int k, δ2)) (h3 : intsOf xs = some ns) : mCnt ma mb δ = .ok (.int (ns.count k : Nat), δ2) := by
  unfold mCnt
  rw [h]; simp only []
  rw [h2]; simp only []
  rw [h3]
/-! a, b, .. = x, y, .. by way of a tuple, new lists into names of their own -/
abbrev MNs := Ev → Res (List Sl × Ev)
structure RNs (X : Cx) (es : List Expr) (t : TA) (m : MNs) : Prop where
  pa : PA X es t
  sn : ∀ {ρ : Nat → Addr} {Fr F : Hp} {δ : Ev} {σ : L2.St} {H : Hp} {ss : List Sl} {δ' : Ev}, Rel X.K X.mg ρ Fr F δ σ H → m δ = .ok (ss, δ') →
    ∀ {Q : List V → Hp → Prop}, (∀ F' vs H', Same F F' → Rel X.K X.mg ρ Fr F' (ss ++ δ') (vs.map some ++ σ) H' → vs.length = ss.length → Q vs H') → t σ H Q
def mNsNil : MNs := fun δ => .ok ([], δ)
def mNsCons (m : MN) (ms : MNs) : MNs := fun δ => match m δ with
  | .ok (s, δ1) => (match ms δ1 with
    | .ok (ss, δ2) => .ok (s :: ss, δ2)
    | .err c d => .err c d
    | .no => .no)
  | .err c d => .err c d
  | .no => .no
theorem rns_nil : RNs X [] tNil mNsNil := ⟨pa_nil, fun {ρ Fr F δ σ H ss δ'} r e {Q} q => by
  cases e
  exact q F [] H (Same.refl _) r rfl⟩
theorem rns_cons {e : Expr} {es : List Expr} {t : TE} {u : TA} {m : MN} {ms : MNs} (ha : RN X e t m) (hs : RNs X es u ms) (hq : starEach (e :: es) X.env = (false, eval e X.env) :: starEach es X.env := by rfl) : RNs X (e :: es) (tCons t u) (mNsCons m ms) :=
  ⟨pa_cons ha.pe hs.pa hq, fun {ρ Fr F δ σ H ss δ'} r e {Q} q => by
    unfold mNsCons at e
    split at e
    · rename_i s1 δ1 e1
      split at e
      · rename_i ss2 δ2 e2
        cases e
        refine ha.sn r e1 fun F1 v H1 t1 r1 => ?_
        obtain ⟨Fr', k1, k2⟩ := r1.hide1
        refine hs.sn k1 e2 fun F2 ws H2 t2 r2 l2 => ?_
        exact q F2 (v :: ws) H2 (t1.trans t2) (k2 t2 r2) (by simp [l2])
      · cases e
      · cases e
    · cases e
    · cases e⟩
def putA : List Nat → List Sl → Ev → Option Ev
  | [], [], δ => some δ
  | i :: is, s :: ss, δ => if i < δ.length then putA is ss (δ.set i s) else none
  | _, _, _ => none
structure RNg (X : Cx) (es : List Expr) (t : TGs) (is : List Nat) : Prop where
  pg : PGs X es t
  sn : ∀ {ρ : Nat → Addr} {Fr F : Hp} {δ : Ev} {σ : L2.St} {H : Hp} {ss : List Sl} {vs : List V} {δ' : Ev}, Rel X.K X.mg ρ Fr F (ss ++ δ) (vs.map some ++ σ) H → vs.length = ss.length → putA is ss δ = some δ' →
    ∀ {Q : L2.St → Hp → Prop}, (∀ σ', Rel X.K X.mg ρ Fr F δ' σ' H → Q σ' H) → t vs σ H Q
theorem rng_nil : RNg X [] gNil [] := ⟨pgs_nil, fun {ρ Fr F δ σ H ss vs δ'} r hl e {Q} q => by
  cases ss with
  | nil =>
    cases vs with
    | nil =>
      cases e
      exact ⟨rfl, q σ r⟩
    | cons => simp at hl
  | cons => cases e⟩
theorem set_over {α : Type} (xs ys : List α) (i : Nat) (a : α) : (xs ++ ys).set (i + xs.length) a = xs ++ ys.set i a := by
  induction xs with
  | nil => rfl
  | cons x xs ih =>
    show x :: (xs ++ ys).set (i + xs.length) a = _
    rw [ih]; rfl
theorem rng_cons (i : Nat) {x : Str} {es : List Expr} {t : TGs} {is : List Nat} {pos : Pos} (hN : X.N.Nodup) (hs : RNg X es t is) (hi : X.N[i]? = some x := by rfl) (hx : Loc X.env.scope x := by first | exact .inl rfl | exact .inr rfl) (hf : X.fn x = true ∨ X.env.scope.names.lookup x = some .local := by first | exact .inl rfl | exact .inr rfl)
    : RNg X (.Name x pos :: es) (gCons (gName i) t) (i :: is) :=
  ⟨pgs_cons (pg_name hN hi hx hf) hs.pg, fun {ρ Fr F δ σ H ss vs δ'} r hl e {Q} q => by
    cases ss with
    | nil => cases e
    | cons s ss =>
      cases vs with
      | nil => simp at hl
      | cons v vs =>
        have l2 : vs.length = ss.length := by simpa using hl
        unfold putA at e
        split at e
        · rename_i hlt
          have r2 : Rel X.K X.mg ρ Fr F ((ss ++ δ).set (i + ss.length) s) ((vs.map some ++ σ).set (i + ss.length) (some v)) H := Rel.set (δ := ss ++ δ) (σ := vs.map some ++ σ) (i := i + ss.length) r (by simp; omega)
          rw [set_over] at r2
          have e3 : (vs.map some ++ σ).set (i + ss.length) (some v) = vs.map some ++ σ.set i (some v) := by
            have z := set_over (vs.map some) σ i (some v)
            rwa [List.length_map, l2] at z
          rw [e3] at r2
          exact ⟨v, vs, rfl, hs.sn r2 l2 e q⟩
        · cases e⟩
def mTupN (is : List Nat) (ms : MNs) : MS := fun δ => match ms δ with
  | .ok (ss, δ1) => if ss.length ≤ 100 then (match putA is ss δ1 with
    | some δ2 => .ok (.nx, δ2)
    | none => .no) else .no
  | .err c d => .err c d
  | .no => .no
theorem rs_tupN {is : List Nat} {n : Nat} {ts es : List Expr} {k1 k2} {t : TA} {g : TGs} {ms : MNs} {pt pt2 pos : Pos} (hc : X.calm = true) (ha : RNs X es t ms) (hg : RNg X ts g is) (hl : is.length = n := by rfl)
    (hn : (assignEach ts X.env).length = n := by rfl) (hst : (assignEach ts X.env).findIdx? (·.1) = none := by rfl)
    (hs : swapsWithSole [.Tuple ts k1 pt] (.Tuple es k2 pt2) pos.line X.env = pure false := by rfl) (hw : swappedStores [.Tuple ts k1 pt] (.Tuple es k2 pt2) X.env = pure none := by rfl)
    (h1 : (assignEach [.Tuple ts k1 pt] X.env).map (·.2) = [assign (.Tuple ts k1 pt) X.env] := by rfl) :
    RS X (.Assign [.Tuple ts k1 pt] (.Tuple es k2 pt2) pos) (tAsg (tTup t) (gTup X.K n g)) (mTupN is ms) :=
  ⟨ps_asg (pe_tup ha.pa) (pg_tup hc hg.pg hn hst) hs hw h1, fun {ρ Fr F δ σ H c δ'} r e {D} q => by
    unfold mTupN at e
    split at e
    · rename_i ss δ1 e1
      split at e
      · rename_i hz
        split at e
        · rename_i δ2 e2
          cases e
          refine ha.sn r e1 fun F1 vs H1 t1 r1 lv => ⟨by rw [sizeLine_eq]; omega, fun p hp => ?_⟩
          have r2 := r1.new (o := .tup vs) hp
          have ln : ∀ (is : List Nat) (ss : List Sl) (δ1 δ2 : Ev), putA is ss δ1 = some δ2 → is.length = ss.length := by
            intro is
            induction is with
            | nil => intro ss δ1 δ2 h; cases ss with
              | nil => rfl
              | cons => cases h
            | cons i is ih => intro ss δ1 δ2 h; cases ss with
              | nil => cases h
              | cons s ss =>
                unfold putA at h
                split at h
                · simp [ih _ _ _ h]
                · cases h
          refine ⟨p, vs, rfl, .inl (.inl upd_same), by rw [lv, ← ln _ _ _ _ e2, hl], ?_⟩
          exact hg.sn r2 lv e2 fun σ' r3 => q F1 _ _ t1 r3
        · cases e
      · cases e
    · cases e
    · cases e⟩
theorem ev_nsnil {δ : Ev} : mNsNil δ = .ok ([], δ) := rfl
theorem ev_nscons {m : MN} {ms : MNs} {δ δ1 δ2 : Ev} {s : Sl} {ss : List Sl} (h : m δ = .ok (s, δ1)) (h2 : ms δ1 = .ok (ss, δ2)) : mNsCons m ms δ = .ok (s :: ss, δ2) := by
  unfold mNsCons
  rw [h]; simp only []
  rw [h2]
theorem ev_tupN {is : List Nat} {ms : MNs} {δ δ1 δ2 : Ev} {ss : List Sl} (h : ms δ = .ok (ss, δ1)) (h2 : ss.length ≤ 100) (h3 : putA is ss δ1 = some δ2) : mTupN is ms δ = .ok (.nx, δ2) := by
  unfold mTupN
  rw [h]; simp only []
  rw [if_pos h2, h3]
end
theorem putA_nil {δ : Ev} : putA [] [] δ = some δ := rfl
theorem putA_cons {i : Nat} {is : List Nat} {s : Sl} {ss : List Sl} {δ δ1 : Ev} {r : Option Ev} (hi : i < δ.length) (h : δ.set i s = δ1) (h2 : putA is ss δ1 = r) : putA (i :: is) (s :: ss) δ = r := by
  unfold putA
  rw [if_pos hi, h, h2]
/-! the hook with one more look at the part of the heap -/
def hookG (n : Nat) (fa : List He.Fa) (fn : List He.DefD) (ex : PySem.W.Frag → Bool) : PySem.W.Hook where
  α := He.AlD × Bool
  obs := fun s => (He.obsDG n fa fn s.heap.get?, ex (He.frG s.heap.get? (He.asD s.heap.get? n)))
  val := fun _ => (He.valD fn, true)
  says := fun _ h => ∃ K : PySem.W.Frag, K.In h ∧ He.SaysD fa fn K ∧ ex K = true
  of := fun _ _ e => ⟨_, He.frG_in, congrArg (fun z : He.AlD × Bool => z.1) e, congrArg (fun z : He.AlD × Bool => z.2) e⟩
  keeps := fun _ _ _ ⟨K, hK, c⟩ k => ⟨K, PySem.W.Frag.In.keeps hK k, c⟩
def obsGG (n : Nat) (fa : List He.Fa) (fn : List He.DefD) (ex : PySem.W.Frag → Bool) (g : Addr → Option Obj) : He.AlD × Bool := (He.obsDG n fa fn g, ex (He.frG g (He.asD g n)))
theorem obsGG_eq {n : Nat} {fa : List He.Fa} {fn : List He.DefD} {ex : PySem.W.Frag → Bool} {g : Addr → Option Obj} {s : Shared} (h : ∀ a, g a = s.heap.get? a) : obsGG n fa fn ex g = (hookG n fa fn ex).obs s := by
  have e : g = s.heap.get? := funext h
  rw [e] <;> rfl
end CW

namespace CW
open PySem PySem.Spec PyProof.Rows L2
/-! tables from texts to ints: a dict of the top, a dict display -/
abbrev Tb := List (Str × Int)
def KTab (K : PySem.W.Frag) (w : World) (a : Addr) (tb : Tb) : Prop := (∃ es n, KDict K w a es n) ∧ ∀ z i, tb.lookup z = some i → ∃ u, PySem.W.nsIn K a z = some (some u) ∧ RelV (.int i) u
def mKd (tb : Tb) (m : ME) : ME := fun δ => match m δ with
  | .ok (.str z, δ1) => (match tb.lookup z with
    | some i => .ok (.int i, δ1)
    | none => .no)
  | .err c d => .err c d
  | _ => .no
/-- whether a key is there: only keys that are -/
def mKdIn (neg : Bool) (tb : Tb) (m : ME) : ME := fun δ => match m δ with
  | .ok (.str z, δ1) => (match tb.lookup z with
    | some _ => .ok (.bool (!neg), δ1)
    | none => .no)
  | .err c d => .err c d
  | _ => .no
section
variable {X : Cx} {K : PySem.W.Frag} {mg : Str → Option Value}
theorem sn_kd {w : World} {a : Addr} {tb : Tb} {t : TE} {m : ME} (hk : KTab K w a tb) (h : SndE K mg t m) : SndE K mg (tOp (rIxD K w) (tC (.ref a)) t) (mKd tb m) := fun {ρ Fr F δ σ H d δ'} r e {Q} q => by
  unfold mKd at e
  split at e
  · rename_i z δ1 e1
    split at e
    · rename_i i e2
      cases e
      refine h r e1 fun F1 v H1 s1 r1 d1 => ?_
      cases d1
      obtain ⟨⟨es, n, D⟩, hv⟩ := hk
      obtain ⟨u, k1, k2⟩ := hv _ _ e2
      exact ⟨a, _, .int i, rfl, rfl, ⟨es, n, u, D.at_, D.lit, k1, k2⟩, q F1 _ H1 s1 r1 (.int i)⟩
    · cases e
  · cases e
  · cases e
theorem re_kd {x : Str} {a : Addr} {tb : Tb} {e : Expr} {t : TE} {m : ME} {p pos : Pos} (hg : Gl X x) (hm : X.mg x = some (.ref a)) (hk : KTab X.K X.w a tb) (h : RE X e t m) (hs : PlainIx e := by exact fun _ _ => rfl) (hd : (x == ("__debug__" : Str)) = false := by decide) :
    RE X (.Subscript (.Name x p) e pos) (tOp (rIxD X.K X.w) (tC (.ref a)) t) (mKd tb m) := ⟨pe_ix ix_kdict (pe_glob hg hm rfl hd) h.pe hs, sn_kd hk h.sn⟩
def rKdIn (K : PySem.W.Frag) (a : Addr) (neg : Bool) : R2 := fun x y H Q => ∃ (z : Str) (r : Option Value), x = .str z ∧ y = .ref a ∧ PySem.W.nsIn K a z = some r ∧ Q (.bl (if neg = true then !r.isSome else r.isSome)) H
theorem sn_kdIn {w : World} {a : Addr} {tb : Tb} {t : TE} {m : ME} {neg : Bool} (hk : KTab K w a tb) (h : SndE K mg t m) : SndE K mg (tOp (rKdIn K a neg) t (tC (.ref a))) (mKdIn neg tb m) := fun {ρ Fr F δ σ H d δ'} r e {Q} q => by
  unfold mKdIn at e
  split at e
  · rename_i z δ1 e1
    split at e
    · rename_i i e2
      cases e
      refine h r e1 fun F1 v H1 s1 r1 d1 => ?_
      cases d1
      obtain ⟨_, hv⟩ := hk
      obtain ⟨u, k1, k2⟩ := hv _ _ e2
      refine ⟨_, some u, rfl, rfl, k1, ?_⟩
      have q1 := q F1 (.bl (!neg)) H1 s1 r1 (.bl _)
      cases neg <;> exact q1
    · cases e
  · cases e
  · cases e
theorem op_kdIn {a : Addr} {es : Array DictEntry} {n : Nat} (D : KDict X.K X.w a es n) : OpR X (compareOp .In) (rKdIn X.K a false) := fun pins s σ H x y v u Q I rx ry h => by
  obtain ⟨z, r, h1, h2, h3, h4⟩ := h
  exact op_in_kd D pins s σ H x y v u Q I rx ry ⟨z, r, h1, h2, h3, h4⟩
theorem op_kdNotIn {a : Addr} {es : Array DictEntry} {n : Nat} (D : KDict X.K X.w a es n) : OpR X (compareOp .NotIn) (rKdIn X.K a true) := fun pins s σ H x y v u Q I rx ry h => by
  obtain ⟨z, r, h1, h2, h3, h4⟩ := h
  exact op_notIn_kd D pins s σ H x y v u Q I rx ry ⟨z, r, h1, h2, h3, h4⟩
theorem re_kdIn {x : Str} {a : Addr} {tb : Tb} {e : Expr} {t : TE} {m : ME} {p pos : Pos} (hg : Gl X x) (hm : X.mg x = some (.ref a)) (hk : KTab X.K X.w a tb) (h : RE X e t m) (hb : behindInMarks .In (.Name x p) = false := by rfl) (hd : (x == ("__debug__" : Str)) = false := by decide) :
    RE X (.Compare e [.In] [.Name x p] pos) (tOp (rKdIn X.K a false) t (tC (.ref a))) (mKdIn false tb m) :=
  ⟨pe_cmpR (op_kdIn hk.1.choose_spec.choose_spec) h.pe (pe_glob hg hm rfl hd) hb, sn_kdIn hk h.sn⟩
theorem re_kdNotIn {x : Str} {a : Addr} {tb : Tb} {e : Expr} {t : TE} {m : ME} {p pos : Pos} (hg : Gl X x) (hm : X.mg x = some (.ref a)) (hk : KTab X.K X.w a tb) (h : RE X e t m) (hb : behindInMarks .NotIn (.Name x p) = false := by rfl) (hd : (x == ("__debug__" : Str)) = false := by decide) :
    RE X (.Compare e [.NotIn] [.Name x p] pos) (tOp (rKdIn X.K a true) t (tC (.ref a))) (mKdIn true tb m) :=
  ⟨pe_cmpR (op_kdNotIn hk.1.choose_spec.choose_spec) h.pe (pe_glob hg hm rfl hd) hb, sn_kdIn hk h.sn⟩
theorem rt_kdNotIn {x : Str} {a : Addr} {tb : Tb} {e : Expr} {t : TE} {m : ME} {p pos : Pos} (hg : Gl X x) (hm : X.mg x = some (.ref a)) (hk : KTab X.K X.w a tb) (h : RE X e t m) (hb : behindInMarks .NotIn (.Name x p) = false := by rfl) (hd : (x == ("__debug__" : Str)) = false := by decide) :
    RT X (.Compare e [.NotIn] [.Name x p] pos) (tTest (tOp (rKdIn X.K a true) t (tC (.ref a)))) (mT (mKdIn true tb m)) :=
  ⟨pt_cmpR (op_kdNotIn hk.1.choose_spec.choose_spec) h.pe (pe_glob hg hm rfl hd) hb, sn_test (sn_kdIn hk h.sn)⟩
theorem rt_kdIn {x : Str} {a : Addr} {tb : Tb} {e : Expr} {t : TE} {m : ME} {p pos : Pos} (hg : Gl X x) (hm : X.mg x = some (.ref a)) (hk : KTab X.K X.w a tb) (h : RE X e t m) (hb : behindInMarks .In (.Name x p) = false := by rfl) (hd : (x == ("__debug__" : Str)) = false := by decide) :
    RT X (.Compare e [.In] [.Name x p] pos) (tTest (tOp (rKdIn X.K a false) t (tC (.ref a)))) (mT (mKdIn false tb m)) :=
  ⟨pt_cmpR (op_kdIn hk.1.choose_spec.choose_spec) h.pe (pe_glob hg hm rfl hd) hb, sn_test (sn_kdIn hk h.sn)⟩
/-- {k: i, ..}[e] -/
def dTr (tb : Tb) : List (TE × TE) := tb.map fun kv => (tC (.str kv.1), tC (.int kv.2))
def dKv (tb : Tb) : List (Key × V) := tb.map fun kv => (.inr kv.1, .int kv.2)
theorem tPairs_const {σ : L2.St} {H : Hp} {Q : List (V × V) → Hp → Prop} : ∀ tb : Tb, tPairs (dTr tb) σ H Q = Q (tb.map fun kv => (.str kv.1, .int kv.2)) H
  | [] => rfl
  | kv :: tb => by
    show tPairs (dTr tb) σ H (fun ps H3 => Q ((.str kv.1, .int kv.2) :: ps) H3) = _
    rw [tPairs_const tb]; rfl
def dOk (tb : Tb) : Bool := decide (tb.length ≤ 15) && tb.all fun kv => match valV (mergeK [] (dKv tb)) (.inr kv.1) with
  | some (.int j) => decide (j = kv.2)
  | _ => false
theorem dOk_val {tb : Tb} (h : dOk tb = true) {z : Str} {i : Int} (e : tb.lookup z = some i) : valV (mergeK [] (dKv tb)) (.inr z) = some (.int i) := by
  unfold dOk at h
  rw [Bool.and_eq_true] at h
  have hm : (z, i) ∈ tb := by
    clear h
    induction tb with
    | nil => cases e
    | cons kv tb ih =>
      rw [List.lookup_cons] at e
      split at e
      · rename_i hz
        cases e
        have z' : z = kv.1 := by simpa using hz
        rw [z']
        exact List.mem_cons_self ..
      · exact List.mem_cons_of_mem _ (ih e)
  have z := List.all_eq_true.mp h.2 _ hm
  simp only at z
  split at z
  · rename_i j hv
    rw [hv, of_decide_eq_true z]
  · cases z
theorem sn_disp {tb : Tb} {t : TE} {m : ME} (hk : dOk tb = true) (h : SndE K mg t m) : SndE K mg (tDGet (tDisp (dTr tb)) t) (mKd tb m) := fun {ρ Fr F δ σ H d δ'} r e {Q} q => by
  unfold mKd at e
  split at e
  · rename_i z δ1 e1
    split at e
    · rename_i i e2
      cases e
      intro p hp
      rw [tPairs_const]
      have hl : (dKv tb).length ≤ 15 := by
        unfold dOk at hk
        rw [Bool.and_eq_true] at hk
        unfold dKv
        rw [List.length_map]
        exact of_decide_eq_true hk.1
      refine ⟨upd_same, dKv tb, ?_, hl, ?_⟩
      · unfold dKv
        rw [List.map_map]; rfl
      · have eu : upd (upd H p (.dK [])) p (.dK (mergeK [] (dKv tb))) = upd H p (.dK (mergeK [] (dKv tb))) := by
          funext a
          by_cases ha : a = p
          · subst ha
            rw [upd_same, upd_same]
          · rw [upd_ne ha, upd_ne ha, upd_ne ha]
        rw [eu]
        have r2 := r.frz (o := .dK (mergeK [] (dKv tb))) hp
        refine h r2 e1 fun F1 v H1 s1 r1 d1 => ?_
        cases d1
        have hF : F1 p = some (.dK (mergeK [] (dKv tb))) := s1 p _ upd_same
        have hH := r1.sub p _ hF
        exact ⟨p, .int i, rfl, .inl ⟨_, .inr z, .inl hH, rfl, (dOk_val hk e2).symm⟩, q F1 _ H1 ((same_upd (r.fF hp)).trans s1) r1 (.int i)⟩
    · cases e
  · cases e
  · cases e
theorem re_disp {keys : List (Option Expr)} {values : List Expr} {tb : Tb} {e : Expr} {t : TE} {m : ME} {p pos : Pos} (hu : X.A.units + 65 < cLine) (hp : PPs X p keys values (dTr tb)) (h : RE X e t m) (hk : dOk tb = true := by kernel_rfl)
    (hall : keys.all (·.isSome) = true := by rfl) (hl : keys.length = values.length := by rfl) (h0 : keys ≠ [] := by exact fun h => nomatch h) (h15 : keys.length ≤ 15 := by decide) (hs : NoSl e := by exact fun _ _ => rfl) :
    RE X (.Subscript (.Dict keys values p) e pos) (tDGet (tDisp (dTr tb)) t) (mKd tb m) := ⟨pe_dget (by omega) (pe_disp hp hall hl h0 h15) h.pe hs, sn_disp hk h.sn⟩
theorem ev_kd {tb : Tb} {m : ME} {δ δ1 : Ev} {z : Str} {i : Int} (h : m δ = .ok (.str z, δ1)) (h2 : tb.lookup z = some i) : mKd tb m δ = .ok (.int i, δ1) := by
  unfold mKd
  rw [h]; simp only []
  rw [h2]
theorem ev_kdIn {tb : Tb} {m : ME} {neg : Bool} {δ δ1 : Ev} {z : Str} {i : Int} (h : m δ = .ok (.str z, δ1)) (h2 : tb.lookup z = some i) : mKdIn neg tb m δ = .ok (.bool (!neg), δ1) := by
  unfold mKdIn
  rw [h]; simp only []
  rw [h2]
end
/-- what the hook looks at -/
def dvKv (tb : Tb) : List (Str × He.Dv) := tb.map fun kv => (kv.1, .int kv.2)
theorem ktab_of {K : PySem.W.Frag} {w : World} {a : Addr} {tb : Tb} (h : He.dicW K a = some (He.keysIn w.params (tb.map (·.1)))) (hv : He.valsB K a (dvKv tb) = true) : KTab K w a tb := by
  refine ⟨He.dicW_ok h, fun z i e => ?_⟩
  have hm : (z, i) ∈ tb := by
    clear h hv
    induction tb with
    | nil => cases e
    | cons kv tb ih =>
      rw [List.lookup_cons] at e
      split at e
      · rename_i hz
        cases e
        have z' : z = kv.1 := by simpa using hz
        rw [z']
        exact List.mem_cons_self ..
      · exact List.mem_cons_of_mem _ (ih e)
  exact He.valsB_ok hv (q := (z, .int i)) (List.mem_map.mpr ⟨(z, i), hm, rfl⟩)
/-- what is read: the module and what it names, the statics -/
def asH (g : Addr → Option Obj) (n : Nat) : List Addr := cStatics :: He.asD g n
abbrev AlH : Type := (He.AlD × Bool) × List (Option (List (Option (Str × Int))))
def hookH (n : Nat) (fa : List He.Fa) (fn : List He.DefD) (ex : PySem.W.Frag → Bool) (ts : List He.Tab) : PySem.W.Hook where
  α := AlH
  obs := fun s => ((He.obsD fa fn (He.frG s.heap.get? (asH s.heap.get? n)), ex (He.frG s.heap.get? (asH s.heap.get? n))), ts.map fun t => He.dicW (He.frG s.heap.get? (asH s.heap.get? n)) (t.1 (He.frG s.heap.get? (asH s.heap.get? n))))
  val := fun w => ((He.valD fn, true), ts.map fun t => some (He.keysIn w.params t.2))
  says := fun w h => ∃ K : PySem.W.Frag, K.In h ∧ He.SaysD fa fn K ∧ ex K = true ∧ ts.map (fun t => He.dicW K (t.1 K)) = ts.map fun t => some (He.keysIn w.params t.2)
  of := fun _ _ e => ⟨_, He.frG_in, congrArg (fun z : AlH => z.1.1) e, congrArg (fun z : AlH => z.1.2) e, congrArg (fun z : AlH => z.2) e⟩
  keeps := fun _ _ _ ⟨K, hK, c⟩ k => ⟨K, PySem.W.Frag.In.keeps hK k, c⟩
def obsHG (n : Nat) (fa : List He.Fa) (fn : List He.DefD) (ex : PySem.W.Frag → Bool) (ts : List He.Tab) (g : Addr → Option Obj) : AlH := ((He.obsD fa fn (He.frG g (asH g n)), ex (He.frG g (asH g n))), ts.map fun t => He.dicW (He.frG g (asH g n)) (t.1 (He.frG g (asH g n))))
theorem obsHG_eq {n : Nat} {fa : List He.Fa} {fn : List He.DefD} {ex : PySem.W.Frag → Bool} {ts : List He.Tab} {g : Addr → Option Obj} {s : Shared} (h : ∀ a, g a = s.heap.get? a) : obsHG n fa fn ex ts g = (hookH n fa fn ex ts).obs s := by
  have e : g = s.heap.get? := funext h
  rw [e] <;> rfl
theorem tab_at {w : World} {K : PySem.W.Frag} {ts : List He.Tab} (c : ts.map (fun t => He.dicW K (t.1 K)) = ts.map fun t => some (He.keysIn w.params t.2)) (i : Nat) {t : He.Tab} (h : ts[i]? = some t := by rfl) : He.dicW K (t.1 K) = some (He.keysIn w.params t.2) := by
  have e2 : (ts.map fun t => He.dicW K (t.1 K))[i]? = (ts.map fun t => some (He.keysIn w.params t.2))[i]? := by rw [c]
  rw [List.getElem?_map, List.getElem?_map, h] at e2
  exact Option.some.inj e2
end CW

namespace CW
open PySem PySem.Spec PyProof.Rows L2
section
variable {X : Cx} {x : Str} {p pos : Pos} {e : Expr} {es : List Expr} {kws : List Keyword} {t tk : TA} {as ak : MA}
theorem rn_sortR (hu : X.A.units + 64 < cLine) (hg : Gl X x) (hm : X.mg x = none) (hv : bootBuiltins x = some (.builtin "sorted")) (ha : RA X (e :: es) t as) (hkw : RK X kws tk ak) (h1 : x ≠ "__name__" := by decide) (h2 : (x == ("__debug__" : Str)) = false := by decide)
    (he : backTo pos (starEach (e :: es) X.env) = (false, eval e X.env) :: backTo pos (starEach es X.env) := by rfl) (hpl : (backTo pos (starEach (e :: es) X.env)).any (·.1) = false := by rfl)
    (hall : (backToKw pos (keywordEach kws X.env)).all (·.1.isSome) = true := by rfl) (hnone : (backToKw pos (keywordEach kws X.env)).any (·.1.isNone) = false := by rfl) (hks : (backToKw pos (keywordEach kws X.env)).filterMap (·.1) = [Str.ofString "reverse"] := by rfl) :
    RN X (.Call (.Name x p) (e :: es) kws pos) (tCKw (rSortedRD X.K) t tk) (mSortR as ak) := ⟨pe_callBK (cr_sortedRD hu) hg hm hv ha.pa hkw.pk h1 h2 he hpl hall hnone hks, sn_sortR ha.sn hkw.sn⟩
end
/-! len(set(xs)), xs a list of ints -/
/-- unlike ones, in the order in which they come -/
def unlike (ns : List Int) : List Int := firstMet (fun i => ns.getD i 0) ns.length
theorem range_getD (ns : List Int) : (List.range ns.length).map (fun i => ns.getD i 0) = ns := by
  apply List.ext_getElem
  · simp
  · intro i h1 h2
    simp [List.getD_eq_getElem?_getD, h2]
theorem unlike_eq (ns : List Int) : unlike ns = ns.foldl step_dedup [] := by
  unfold unlike firstMet
  rw [range_getD]
theorem dedup_nodup : ∀ (ns acc : List Int), (acc ++ ns).Nodup → ns.foldl step_dedup acc = acc ++ ns
  | [], acc, _ => by simp
  | n :: ns, acc, h => by
    have h1 : n ∉ acc := fun z => (List.nodup_append.mp h).2.2 n z n (List.mem_cons_self ..) rfl
    have e : step_dedup acc n = acc ++ [n] := by
      unfold step_dedup
      rw [if_neg]
      intro z
      obtain ⟨x, hx, hq⟩ := List.any_eq_true.mp z
      exact h1 (beq_iff_eq.mp hq ▸ hx)
    rw [List.foldl_cons, e, dedup_nodup ns (acc ++ [n]) (by simpa using h)]
    simp
theorem unlike_nodup {ns : List Int} (h : ns.Nodup) : unlike ns = ns := by
  rw [unlike_eq, dedup_nodup ns [] (by simpa using h)]
  rfl
theorem unlike_same {x : Int} : ∀ {ns : List Int}, ns ≠ [] → (∀ n ∈ ns, n = x) → unlike ns = [x] := by
  have key : ∀ ns : List Int, (∀ n ∈ ns, n = x) → ns.foldl step_dedup [x] = [x] := by
    intro ns
    induction ns with
    | nil => intro _; rfl
    | cons n ns ih =>
      intro h
      have hn := h n (List.mem_cons_self ..)
      subst hn
      have e : step_dedup [n] n = [n] := by unfold step_dedup; simp
      rw [List.foldl_cons, e]
      exact ih fun m hm => h m (List.mem_cons_of_mem _ hm)
  intro ns hne h
  rw [unlike_eq]
  cases ns with
  | nil => exact absurd rfl hne
  | cons n ns =>
    have hn := h n (List.mem_cons_self ..)
    subst hn
    exact key ns fun m hm => h m (List.mem_cons_of_mem _ hm)
def tLenSet (K : PySem.W.Frag) (t : TE) : TE := fun σ H Q => t σ H fun x H1 => ∃ (a : Addr) (ns : List Int), x = V.ref a ∧ SqL K H1 a (ns.map V.int) ∧ ns.length ≤ 4000 ∧ Q (.int (unlike ns).length) H1
def mLenSet (m : ME) : ME := fun δ => match m δ with
  | .ok (.list xs, δ1) => (match intsOf xs with
    | some ns => if ns.length ≤ 4000 then .ok (.int ((unlike ns).length : Nat), δ1) else .no
    | none => .no)
  | .ok _ => .no
  | .err c d => .err c d
  | .no => .no
theorem unlike_le (ns : List Int) : (unlike ns).length ≤ ns.length := firstMet_length_le _ _
theorem re_lenSet {a : Expr} {t : TE} {m : ME} {p1 p2 q1 q2 : Pos} (hc : X.calm = true) (g1 : Gl X "len") (m1 : X.mg "len" = none) (g2 : Gl X "set") (m2 : X.mg "set" = none) (ha : RE X a t m)
    (na : starEach [a] X.env = (false, eval a X.env) :: starEach [] X.env := by rfl) : RE X (.Call (.Name "len" p1) [.Call (.Name "set" p2) [a] [] q2] [] q1) (tLenSet X.K t) (mLenSet m) := by
  refine ⟨⟨fun pins s σ H Q I h => ?_⟩, fun {ρ Fr F δ σ H d δ'} r e {Q} q => ?_⟩
  · refine Call_ (ld_blt I g1 m1 PySem.boot_len (PyProof.Rows.callWith_builtin1 (PyProof.Rows.args_cons ?_ rfl) rfl rfl))
    refine Call_ (ld_blt I g2 m2 PyProof.Rows.boot_set (PyProof.Rows.callWith_type1 (PyProof.Rows.args_cons (thn (ha.pe.run pins s σ H _ I h) fun v s1 ⟨x, H1, I1, r1, q1⟩ => PyProof.Rows.args_nil ?_) na) na rfl))
    obtain ⟨l, ns, rfl, hq, hl, q1⟩ := q1
    cases r1
    obtain ⟨its, rv, pl, hz⟩ := I1.list hq
    have sz : its.toArray.size = ns.length := by rw [List.size_toArray, ← rv.length, List.length_map]
    have ub : (unlike ns).length ≤ 4000 := Nat.le_trans (unlike_le ns) hl
    refine call_set_list (I1.ok.hd hc) pl.isList (by simpa using rv.ints) (by rw [sz]; unfold scanBound; omega) fun h' tk hS hk => PyProof.Rows.args_nil ?_
    rw [sz] at hS
    obtain ⟨o, es, ep, t', ho, ex, hd, _, _, _, hf, hn⟩ := hS
    have hn' : es.size = (unlike ns).length := hn
    have I2 : Inv X pins σ H1 { s1 with heap := h', toks := tk } := I1.kept fun b o e => hk b o (Heap.lt_size e) e
    exact call_len_set ho ex hd hf (by rw [hn']; omega) ⟨.int (unlike ns).length, H1, I2.tok _, ⟨_, by rw [hn']⟩, q1⟩
  · unfold mLenSet at e
    split at e
    · split at e
      · rename_i xs δ1 e1 _ ns e2
        split at e
        · rename_i hl
          cases e
          refine ha.sn r e1 fun F1 v H1 s1 r1 d1 => ?_
          cases d1 with
          | lst hs da =>
            rw [dpa_intsOf da e2] at hs
            exact ⟨_, ns, rfl, sqL_mono r1.sub hs, hl, q F1 _ H1 s1 r1 (.int _)⟩
        · cases e
      · cases e
    · cases e
    · cases e
    · cases e
theorem ev_lenSet {m : ME} {δ δ1 : Ev} {ns : List Int} {k : Int} (h : m δ = .ok (lI ns, δ1)) (hl : ns.length ≤ 4000) (hk : ((unlike ns).length : Int) = k) : mLenSet m δ = .ok (.int k, δ1) := by
  unfold mLenSet
  rw [h]
  show (match intsOf (ns.map .int) with
    | some ns => if ns.length ≤ 4000 then Res.ok (PyData.int ((unlike ns).length : Nat), δ1) else .no
    | none => .no) = _
  rw [intsOf_ints]
  show (if ns.length ≤ 4000 then Res.ok (PyData.int ((unlike ns).length : Nat), δ1) else .no) = _
  rw [if_pos hl, hk]
theorem fSorted_ints (ns : List Int) : fSorted [lI ns] = .ok (.own ((srtI ns).map .int)) := by
  show (match intsOf (ns.map .int) with | some ns => Res.ok (Sl.own ((srtI ns).map .int)) | none => if sortOk (ns.map .int) = true then .ok (.own ((ns.map PyData.int).mergeSort (W.dataLe false id))) else .no) = _
  rw [intsOf_ints]
theorem fSorted_data {xs : List PyData} (h : intsOf xs = none) (ok : sortOk xs = true) : fSorted [.list xs] = .ok (.own (xs.mergeSort (W.dataLe false id))) := by
  show (match intsOf xs with | some ns => Res.ok (Sl.own ((srtI ns).map .int)) | none => if sortOk xs = true then .ok (.own (xs.mergeSort (W.dataLe false id))) else .no) = _
  rw [h]
  exact if_pos ok
/-! xs[:h:-1] of a list, h not negative -/
theorem revTo_map (items : Array Value) : ∀ c : Nat, c ≤ items.size → (List.range c).filterMap (fun k => items[items.size - 1 - k]?) = (items.toList.drop (items.size - c)).reverse
  | 0, _ => by simp
  | c + 1, h => by
    rw [List.range_succ, List.filterMap_append, revTo_map items c (by omega)]
    have e : items.size - c = items.size - (c + 1) + 1 := by omega
    have hl : items.size - (c + 1) < items.toList.length := by rw [Array.length_toList]; omega
    rw [List.drop_eq_getElem_cons hl, ← e, List.reverse_cons]
    congr 1
    have e2 : items.size - 1 - c = items.size - (c + 1) := by omega
    have hl2 : items.size - (c + 1) < items.size := by omega
    simp only [List.filterMap_cons, List.filterMap_nil, e2, Array.getElem?_eq_getElem hl2, Array.getElem_toList]
theorem revTo_pick (items : Array Value) (h : Int) (h0 : 0 ≤ h) : slicePick items none (some h) (some (-1)) = (items.toList.drop (h.toNat + 1)).reverse.toArray := by
  unfold slicePick
  have hb : sliceBounds none (some h) (some (-1)) items.size = ((items.size : Int) - 1, max (-1) (min h ((items.size : Int) - 1)), -1) := by
    unfold sliceBounds
    have h1 : ¬ ((-1 : Int) > 0) := by decide
    have h2 : ¬ h < 0 := by omega
    simp only [Option.getD, h1, h2, if_false]
  rw [hb]
  show ((sliceRange ((items.size : Int) - 1) (max (-1) (min h ((items.size : Int) - 1))) (-1)).filterMap (items[·]?)).toArray = _
  congr 1
  have hr : sliceRange ((items.size : Int) - 1) (max (-1) (min h ((items.size : Int) - 1))) (-1) = (List.range (items.size - (h.toNat + 1))).map fun k => items.size - 1 - k := by
    unfold sliceRange
    have h1 : ¬ ((-1 : Int) > 0) := by decide
    simp only [h1, if_false]
    have hc : (if (items.size : Int) - 1 > max (-1) (min h ((items.size : Int) - 1)) then ((items.size : Int) - 1 - max (-1) (min h ((items.size : Int) - 1)) - -1 - 1) / (- -1) else 0).toNat = items.size - (h.toNat + 1) := by
      rw [show (- -1 : Int) = 1 by decide, Int.ediv_one]
      split <;> omega
    rw [hc]
    apply List.map_congr_left
    intro k hk
    have := List.mem_range.mp hk
    omega
  rw [hr, List.filterMap_map]
  have e := revTo_map items (items.size - (h.toNat + 1)) (by omega)
  rw [show (List.filterMap ((fun x => items[x]?) ∘ fun k => items.size - 1 - k) (List.range (items.size - (h.toNat + 1)))) = (List.range (items.size - (h.toNat + 1))).filterMap (fun k => items[items.size - 1 - k]?) from rfl, e]
  by_cases hh : h.toNat + 1 ≤ items.size
  · rw [show items.size - (items.size - (h.toNat + 1)) = h.toNat + 1 by omega]
  · rw [show items.size - (items.size - (h.toNat + 1)) = items.size by omega]
    rw [List.drop_eq_nil_of_le (by simp), List.drop_eq_nil_of_le (by simp; omega)]
section
variable {X : Cx} {K : PySem.W.Frag} {mg : Str → Option Value}
def tRevTo (K : PySem.W.Frag) (te : TE) (th : TO) : TE := fun σ H Q => te σ H fun x H1 => th σ H1 fun o H2 => ∃ a xs h, x = .ref a ∧ o = some h ∧ (0 : Int) ≤ h ∧ SqL K H2 a xs ∧ ∀ p, H2 p = none → Q (.ref p) (upd H2 p (.lst (xs.drop (h.toNat + 1)).reverse))
theorem pe_revTo {e : Expr} {te : TE} {eh : Expr} {th : TO} {k : Nat} {p1 p2 p3 pos : Pos} (he : PE X e te) (hh : PO X (some eh) th) : PE X (.Subscript e (.Slice none (some eh) (some (.UnaryOp .USub (.Constant (.int 1) k p1) p2)) p3) pos) (tRevTo X.K te th) := by
  refine ⟨fun pins s σ H Q I h => ?_⟩
  refine Subscript_ (thn (he.run pins s σ H _ I h) fun v s1 ⟨x, H1, I1, r1, q1⟩ => ?_)
  have hst : PO X (some (.UnaryOp .USub (.Constant (.int 1) k p1) p2)) (tPart (tUn (rU fun i => .int (-i)) (tC (.int 1)))) := po_some (pe_un un_neg pe_int)
  refine wpAny_Slice (thn (po_none.run pins s1 σ H1 (fun o H2 => o = none ∧ H2 = H1) I1 ⟨rfl, rfl⟩) fun vl s2 ⟨l, H2, I2, pl, el, e2⟩ => ?_)
  subst el e2
  refine thn (hh.run pins s2 σ H2 _ I2 q1) fun vu s3 ⟨u, H3, I3, pu, q3⟩ => ?_
  obtain ⟨a, xs, hi, ex, eo, h0, hx, q⟩ := q3
  subst ex eo
  cases r1
  refine thn (hst.run pins s3 σ H3 (fun o H4 => o = some (-1) ∧ H4 = H3) I3 ⟨1, rfl, -1, rfl, rfl, rfl⟩) fun vs s4 ⟨o, H4, I4, ps, eo, e4⟩ => ?_
  subst eo e4
  have I5 : Inv X pins σ H4 { s4 with heap := s4.heap.push { cls := .type "slice", data := .fields #[vl, vu, vs] } } := I4.kept (t' := s4.toks) fun b ob q => Heap.get?_push_of_some _ q
  obtain ⟨its, r, ht, hz⟩ := I5.list hx
  have hlen := r.length
  show wpAny (model X.prog X.w) X.A (subscriptTail e (.Slice none (some eh) (some (.UnaryOp .USub (.Constant (.int 1) k p1) p2)) p3) (.ref a) (.ref s4.heap.objs.size)) (EP X pins σ Q) X.xe { s4 with heap := s4.heap.push { cls := .type "slice", data := .fields #[vl, vu, vs] } }
  refine tail_any (ops := [.ref a, .ref s4.heap.objs.size]) ht.isList.typeIs (PySem.slot_list_getitem.lookup) ?_ (by with_unfolding_all rfl)
  refine wpAny_getItem_list_slice ht.isList (Heap.IsSliceOf.new _ vl vu vs) pl pu ps (by decide) ?_ (by rw [List.size_toArray]; omega)
  rw [revTo_pick _ _ h0]
  refine ⟨.ref _, _, I5.laid (t' := s4.toks) (o := .lst (xs.drop (hi.toNat + 1)).reverse) (fun b ob q => Heap.get?_push_of_some _ q) (Nat.le_refl _) ?_, rfl, q _ (I5.hok.fresh (Nat.le_refl _))⟩
  exact ⟨by rw [List.length_reverse, List.length_drop]; omega, _, 0, (r.drop _).reverse, Heap.get?_push_size _ rfl⟩
def fRevTo : PyData → Option Int → Res Sl
  | .list xs, some h => if 0 ≤ h then .ok (.own (xs.drop (h.toNat + 1)).reverse) else .no
  | _, _ => .no
def mRevTo (ma : ME) (mh : MO) : MN := fun δ => match ma δ with
  | .ok (x, δ1) => (match mh δ1 with
    | .ok (hi, δ3) => (match fRevTo x hi with
      | .ok s => .ok (s, δ3)
      | .err c d => .err c d
      | .no => .no)
    | .err c d => .err c d
    | .no => .no)
  | .err c d => .err c d
  | .no => .no
theorem sn_revTo {ta : TE} {th : TO} {ma : ME} {mh : MO} (ha : SndE K mg ta ma) (hh : SndO K mg th mh) : SndN K mg (tRevTo K ta th) (mRevTo ma mh) := fun {ρ Fr F δ σ H d δ'} r e {Q} q => by
  unfold mRevTo at e
  split at e
  · rename_i x δ1 e1
    split at e
    · rename_i hi δ3 e3
      split at e
      · rename_i s e4
        cases e
        refine ha r e1 fun F1 v H1 s1 r1 d1 => hh r1 e3 fun F3 H3 s3 r3 => ?_
        have d3 := d1.up s3
        have s13 := s1.trans s3
        unfold fRevTo at e4
        split at e4
        · split at e4
          · rename_i h0
            cases e4
            cases d3 with
            | lst h1 da => exact ⟨_, _, _, rfl, rfl, h0, sqL_mono r3.sub h1, fun p hp => q _ _ _ s13 (r3.temp hp (dpa_rev (dpa_drop _ da)))⟩
          · cases e4
        · cases e4
      · cases e
      · cases e
    · cases e
    · cases e
  · cases e
  · cases e
theorem rn_revTo {e eh : Expr} {ta : TE} {th : TO} {ma : ME} {mh : MO} {k : Nat} {p1 p2 p3 pos : Pos} (ha : RE X e ta ma) (hh : RO X (some eh) th mh) : RN X (.Subscript e (.Slice none (some eh) (some (.UnaryOp .USub (.Constant (.int 1) k p1) p2)) p3) pos) (tRevTo X.K ta th) (mRevTo ma mh) :=
  ⟨pe_revTo ha.pe hh.po, sn_revTo ha.sn hh.sn⟩
theorem ev_revTo {m : ME} {mh : MO} {δ δ1 δ2 : Ev} {x : PyData} {hi : Option Int} {s : Sl} (h : m δ = .ok (x, δ1)) (h2 : mh δ1 = .ok (hi, δ2)) (h3 : fRevTo x hi = .ok s) : mRevTo m mh δ = .ok (s, δ2) := by
  unfold mRevTo
  rw [h]; dsimp only; rw [h2]; dsimp only; rw [h3]
end
end CW

namespace CW
open PySem PySem.Spec PyProof.Rows L2
/-! sorted(set(xs)), xs a list of fewer than 64 ints -/
section
variable {P : Program} {w : World} {A : Around} {E : Value → Shared → Prop} {s : Shared}
theorem call_set_listI {l : Addr} {items : Array Value} (ns : List Int) {Q : Value → Shared → Prop} (hh : A.handled = none) (hl : s.heap.IsList l items) (hit : IntsAre items.toList ns) (hb : ns.length + 1 < scanBound)
    (h : ∀ (h' : Heap) (tk c : Nat), SetR w h' s.heap.objs.size (fun j => decide (j ∈ ns)) c → c ≤ ns.length → (∀ b o, s.heap.get? b = some o → h'.get? b = some o) → Q (.ref s.heap.objs.size) { s with heap := h', toks := tk }) :
    wpAny (model P w) A (call (.type "set") [.ref l]) Q E s := by
  have hisz : items.size = ns.length := by
    have q := IntsAre.length hit
    rw [Array.length_toList] at q
    exact q
  obtain ⟨c, tl, hmro⟩ := PySem.F.called_set.mro
  have hmade := PySem.F.called_set.made
  have hsub := PySem.F.called_set.sub
  refine wpAny_call (codeAny_of_tree ?_)
  show wpAny _ _ (callAny (.type "set") _) _ _ _
  refine wpAny_pure ⟨Code.quiet_builtin _ (by decide +kernel), codeAny_builtin PySem.F.entry_type_call ?_⟩
  rw [Around.under_plain (weight_type_call_type "set" [.ref l] []) rfl]
  have h1 := PySem.F.called_set.notType
  have h2 := PySem.F.called_set.canCreate
  have hct := PySem.F.typeCall_set_1 (.ref l)
  repeat (any_goals (first | assumption | wp_step))

  refine codeAny_mono (code_set_led1 (.ref l) (E := E) (Q₁ := fun obj s₁ => obj = .ref s.heap.objs.size ∧ s₁ = { s with heap := s.heap.push { cls := .type "set", dict := none, data := .set #[] 0 (.fresh 0 0 (!w.params.followText "set-order")) } }) ⟨rfl, rfl⟩) fun r s₁ hr => ?_
  cases r with
  | error e => exact hr
  | ok fl =>
    cases fl with
    | ret obj =>
      obtain ⟨rfl, rfl⟩ := hr
      have hS : (s.heap.push { cls := .type "set", dict := none, data := .set #[] 0 (.fresh 0 0 (!w.params.followText "set-order")) }).get? s.heap.objs.size = some { cls := .type "set", dict := none, data := .set #[] 0 (.fresh 0 0 (!w.params.followText "set-order")) } := Heap.get?_push_size _ rfl
      have hT : Shared.TypeIs { s with heap := s.heap.push { cls := .type "set", dict := none, data := .set #[] 0 (.fresh 0 0 (!w.params.followText "set-order")) } } (.ref s.heap.objs.size) "set" := ⟨_, hS, rfl⟩
      have hli := PySem.F.called_set.init.lookup
      have hbi := PySem.F.called_set.init.bind (.ref s.heap.objs.size)
      repeat (any_goals (first | assumption | wp_step))

      refine codeAny_mono (codeAny_call_builtin (R := wants (fun r s₂ => r = .none ∧ ∃ h' tk c, s₂ = { s with heap := h', toks := tk } ∧ SetR w h' s.heap.objs.size (fun j => decide (j ∈ ns)) c ∧ c ≤ ns.length ∧
          (∀ b o, s.heap.get? b = some o → h'.get? b = some o)) E) PySem.F.called_set.init.plain PySem.F.entry_set_init (check_set_init_1 hT ?_)) fun r₂ s₂ hr₂ => ?_
      · obtain ⟨ol, hol, hcl, nl, hdl⟩ := hl
        obtain ⟨ocls, odict, odata, oslots⟩ := ol
        simp only at hcl hdl
        subst hcl; subst hdl
        have hol' : (s.heap.push { cls := .type "set", dict := none, data := .set #[] 0 (.fresh 0 0 (!w.params.followText "set-order")) }).get? l = some { cls := .type "list", dict := odict, data := .seq items nl, slots := oslots } := Heap.get?_push_of_some _ hol
        have hsls := PySem.F.sub_list_set
        have hslf := PySem.F.sub_list_frozenset
        have hne : (Value.type "list" == Value.type "dict") = false := by decide
        have hl1 : (s.heap.push { cls := .type "set", dict := none, data := .set #[] 0 (.fresh 0 0 (!w.params.followText "set-order")) }).IsList l items := ⟨_, hol', rfl, nl, rfl⟩
        unfold Builtin.«set.__init__» noKeywords Builtin.Frozenset.updateFrom
        generalize hPI : pyIter = PI
        wp_walk
        subst hPI

        refine wpAny_pyIter_list hl1 ?_
        refine wpAny_bind (wpAny_runValue ?_)
        have hlS : l < s.heap.objs.size := Heap.lt_size hol
        have hh3 : A.in1.in1.in1.handled = none := by simp [hh]
        have hneI : l ≠ (s.heap.push { cls := .type "set", dict := none, data := .set #[] 0 (.fresh 0 0 (!w.params.followText "set-order")) }).objs.size := by
          rw [Heap.size_push]; exact Nat.ne_of_lt (Nat.lt_succ_of_lt hlS)
        have hSf : s.heap.objs.size ∉ [(s.heap.push { cls := .type "set", dict := none, data := .set #[] 0 (.fresh 0 0 (!w.params.followText "set-order")) }).objs.size, l] := by
          rw [Heap.size_push]; simp only [List.mem_cons, List.mem_singleton, List.not_mem_nil, or_false, not_or]
          exact ⟨Nat.ne_of_lt (Nat.lt_succ_self _), Nat.ne_of_gt hlS⟩
        have hval : ∀ (i : Nat) (v : Value), items[i]? = some v → ∃ k t, ns[i]? = some k ∧ v = .int k t := fun i v hv => by
          have hi : i < ns.length := by rw [← hisz]; exact (Array.getElem?_eq_some_iff.mp hv).1
          obtain ⟨t, e⟩ := PyProof.Rows.IntsAre.int_at hit i v (by rw [Array.getElem?_toList]; exact hv)
          refine ⟨ns[i], t, List.getElem?_eq_getElem hi, ?_⟩
          rw [e, List.getD_eq_getElem?_getD, List.getElem?_eq_getElem hi] <;> rfl
        refine set_update_ints ((Walks.list hh3 _ l hneI items).toS) s.heap.objs.size
          hSf ns hisz hb hval (items.size - 0) 0 _ (by omega) (Nat.zero_le _)
          ⟨⟨_, Heap.get?_push_size _ rfl, rfl, rfl⟩, (hl1.push _)⟩ ?hS0 ?hR
        case hS0 =>
          have hget : ((s.heap.push { cls := .type "set", dict := none, data := .set #[] 0 (.fresh 0 0 (!w.params.followText "set-order")) }).push { cls := .type "list_iterator", data := .fields #[.ref l, .int 0 0] }).get? s.heap.objs.size
              = some { cls := .type "set", dict := none, data := .set #[] 0 (.fresh 0 0 (!w.params.followText "set-order")) } := Heap.get?_push_of_some _ hS
          exact ⟨0, Nat.le_refl 0, setR_new_at hget⟩
        case hR =>
          intro s' c' hm hc' hS'
          obtain ⟨h', g2, d', tk', os'⟩ := s'
          have eg : g2 = s.gens := hm.gens
          have ed : d' = s.drawn := hm.drawn
          have eo : os' = s.os := hm.os
          subst eg; subst ed; subst eo
          show wpAny _ _ _ _ _ _
          refine wpAny_pure ?_
          show wpAny _ _ (ret Value.none) _ _ _
          rw [hisz] at hc'
          refine wpAny_pure ⟨rfl, h', tk', c', rfl, hS', hc', fun b o e => ?_⟩
          have hb0 : b < s.heap.objs.size := Heap.lt_size e
          have hb1 : b ≠ s.heap.objs.size := Nat.ne_of_lt hb0
          have hb2 : b ≠ (s.heap.push { cls := .type "set", dict := none, data := .set #[] 0 (.fresh 0 0 (!w.params.followText "set-order")) }).objs.size := by
            rw [Heap.size_push]; exact Nat.ne_of_lt (Nat.lt_succ_of_lt hb0)
          exact hm.heap b o (by simp only [List.mem_cons, List.mem_singleton, List.not_mem_nil, or_false, not_or]; exact ⟨hb1, hb2⟩) (Heap.get?_push_of_some _ (Heap.get?_push_of_some _ e))

      · cases r₂ with
        | error e => exact hr₂
        | ok fl₂ =>
          cases fl₂ with
          | ret r =>
            obtain ⟨rfl, h', tk, c', rfl, hS', hc', hk'⟩ := hr₂
            repeat (any_goals (first | assumption | wp_step))
            exact h _ _ _ hS' hc' hk'
          | _ => exact hr₂.elim
    | _ => exact hr.elim
end
theorem dedup_ok : ∀ (ns acc : List Int), acc.Nodup → (ns.foldl step_dedup acc).Nodup ∧ ∀ k, k ∈ ns.foldl step_dedup acc ↔ k ∈ acc ∨ k ∈ ns
  | [], acc, h => ⟨h, fun k => by simp⟩
  | n :: ns, acc, h => by
    rw [List.foldl_cons]
    by_cases q : n ∈ acc
    · have e : step_dedup acc n = acc := by
        unfold step_dedup
        exact if_pos ((List.any_eq_true (p := fun x => x == n)).mpr ⟨n, q, beq_self_eq_true n⟩)
      rw [e]
      have ⟨a, b⟩ := dedup_ok ns acc h
      refine ⟨a, fun k => ?_⟩
      rw [b, List.mem_cons]
      constructor
      · rintro (z | z)
        · exact .inl z
        · exact .inr (.inr z)
      · rintro (z | rfl | z)
        · exact .inl z
        · exact .inl q
        · exact .inr z
    · have e : step_dedup acc n = acc ++ [n] := by
        unfold step_dedup
        rw [if_neg]
        intro z
        obtain ⟨x, hx, hq⟩ := List.any_eq_true.mp z
        exact q (beq_iff_eq.mp hq ▸ hx)
      rw [e]
      have ⟨a, b⟩ := dedup_ok ns (acc ++ [n]) (List.nodup_append.mpr ⟨h, by simp, fun x hx y hy => by
        rw [List.mem_singleton] at hy
        rintro rfl
        exact q (hy ▸ hx)⟩)
      refine ⟨a, fun k => ?_⟩
      rw [b, List.mem_append, List.mem_singleton, List.mem_cons, or_assoc]
theorem unlike_ok (ns : List Int) : (unlike ns).Nodup ∧ ∀ k, k ∈ unlike ns ↔ k ∈ ns := by
  rw [unlike_eq]
  have ⟨a, b⟩ := dedup_ok ns [] (by simp)
  exact ⟨a, fun k => by rw [b]; simp⟩
theorem sortSet_eq {ns ks : List Int} (hs : ks.Pairwise (· < ·)) (hm : ∀ k, k ∈ ks ↔ k ∈ ns) : ks = srtI (unlike ns) := by
  have ⟨a, b⟩ := unlike_ok ns
  have nd : ks.Nodup := List.Pairwise.imp (fun h => by omega) hs
  have p : ks.Perm (unlike ns) := (List.perm_ext_iff_of_nodup nd a).mpr fun k => by rw [hm, b]
  exact sorted_one (p.trans (srtI_perm _).symm) (List.Pairwise.imp (fun h => by omega) hs) (srtI_sorted _)
section
variable {X : Cx} {K : PySem.W.Frag} {mg : Str → Option Value}
def tSortSet (K : PySem.W.Frag) (t : TE) : TE := fun σ H Q => t σ H fun x H1 => ∃ (a : Addr) (ns : List Int), x = V.ref a ∧ SqL K H1 a (ns.map V.int) ∧ ns.length < 64 ∧ ∀ p, H1 p = none → Q (.ref p) (upd H1 p (.lst ((srtI (unlike ns)).map V.int)))
def mSortSet (m : ME) : MN := fun δ => match m δ with
  | .ok (.list xs, δ1) => (match intsOf xs with
    | some ns => if ns.length < 64 then .ok (.own ((srtI (unlike ns)).map .int), δ1) else .no
    | none => .no)
  | .ok _ => .no
  | .err c d => .err c d
  | .no => .no
theorem rn_sortSet {a : Expr} {t : TE} {m : ME} {p1 p2 q1 q2 : Pos} (hc : X.calm = true) (g1 : Gl X "sorted") (m1 : X.mg "sorted" = none) (g2 : Gl X "set") (m2 : X.mg "set" = none) (ha : RE X a t m)
    (na : starEach [a] X.env = (false, eval a X.env) :: starEach [] X.env := by rfl) : RN X (.Call (.Name "sorted" p1) [.Call (.Name "set" p2) [a] [] q2] [] q1) (tSortSet X.K t) (mSortSet m) := by
  refine ⟨⟨fun pins s σ H Q I h => ?_⟩, fun {ρ Fr F δ σ H d δ'} r e {Q} q => ?_⟩
  · refine Call_ (ld_blt I g1 m1 boot_sorted (PyProof.Rows.callWith_builtin1 (PyProof.Rows.args_cons ?_ rfl) rfl rfl))
    refine Call_ (ld_blt I g2 m2 PyProof.Rows.boot_set (PyProof.Rows.callWith_type1 (PyProof.Rows.args_cons (thn (ha.pe.run pins s σ H _ I h) fun v s1 ⟨x, H1, I1, r1, q1⟩ => PyProof.Rows.args_nil ?_) na) na rfl))
    obtain ⟨l, ns, rfl, hq, hl, q1⟩ := q1
    cases r1
    obtain ⟨its, rv, pl, hz⟩ := I1.list hq
    refine call_set_listI ns (I1.ok.hd hc) pl.isList (by simpa using rv.ints) (by unfold scanBound; omega) fun h' tk c hS hcl hk => PyProof.Rows.args_nil ?_
    have I2 : Inv X pins σ H1 { s1 with heap := h', toks := tk } := I1.kept fun b o e => hk b o e
    refine sorted_set hS (I2.ok.hd hc) (by omega) fun s' p out c' ks k g o hp hg hi hs hm hl' => ?_
    have ek : ks = srtI (unlike ns) := sortSet_eq hs fun k => by rw [hm]; exact decide_eq_true_iff
    have hlen : (ks.map V.int).length ≤ sizeLine := by rw [List.length_map, hl', sizeLine_eq]; omega
    have hn : H1 p = none := I2.hok.fresh hp
    have J : Inv X pins σ (upd H1 p (.lst (ks.map V.int))) { s1 with heap := s'.heap, gens := s'.gens, drawn := s'.drawn, toks := s'.toks } :=
      Inv.call (s := { s1 with heap := h', toks := tk }) (ch := []) I2 (Un.laid k hp hn) (I2.hok.laid k hp ⟨hlen, out.toList, c', vals_of_ints hi, hg⟩) (by rw [g]; exact I2.bare) (fun _ z => nomatch z)
    have e : s' = { s1 with heap := s'.heap, gens := s'.gens, drawn := s'.drawn, toks := s'.toks } := by
      cases s'
      cases s1
      cases o
      rfl
    rw [e]
    rw [ek] at J
    exact ⟨.ref p, _, J, rfl, q1 p hn⟩
  · unfold mSortSet at e
    split at e
    · split at e
      · rename_i xs δ1 e1 _ ns e2
        split at e
        · rename_i hl
          cases e
          refine ha.sn r e1 fun F1 v H1 s1 r1 d1 => ?_
          cases d1 with
          | lst hs da =>
            rw [dpa_intsOf da e2] at hs
            refine ⟨_, ns, rfl, sqL_mono r1.sub hs, hl, fun p hp => ?_⟩
            exact q _ _ _ s1 (r1.temp hp (dpa_of_ints _))
        · cases e
      · cases e
    · cases e
    · cases e
    · cases e
theorem ev_sortSet {m : ME} {δ δ1 : Ev} {ns : List Int} (h : m δ = .ok (lI ns, δ1)) (hl : ns.length < 64) : mSortSet m δ = .ok (.own ((srtI (unlike ns)).map .int), δ1) := by
  unfold mSortSet
  rw [h]
  show (match intsOf (ns.map .int) with
    | some ns => if ns.length < 64 then Res.ok (Sl.own ((srtI (unlike ns)).map .int), δ1) else .no
    | none => .no) = _
  rw [intsOf_ints]
  exact if_pos hl
end
/-! a local name that holds one of two defs -/
section
variable {X : Cx} {K : PySem.W.Frag} {mg : Str → Option Value}
theorem Rel.tfn {ρ : Nat → Addr} {Fr F H : Hp} {δ : Ev} {σ : L2.St} {x : Str} {f : Addr} (r : Rel K mg ρ Fr F δ σ H) (h : mg x = some (.ref f)) : Rel K mg ρ Fr F (.fn x :: δ) (some (.ref f) :: σ) H := by
  obtain ⟨L, h1, h2, h3⟩ := r.own
  exact ⟨r.sub, r.fr, r.dis, L, ⟨[], L, rfl, ⟨rfl, f, rfl, h⟩, h1⟩, h2, h3⟩
theorem Rel.getFn {ρ : Nat → Addr} {Fr F H : Hp} {δ : Ev} {σ : L2.St} {x : Str} {f : Addr} {i : Nat} (r : Rel K mg ρ Fr F δ σ H) (h : δ[i]? = some (.fn x)) (hm : mg x = some (.ref f)) : σ[i]? = some (some (.ref f)) := by
  obtain ⟨L, h1, h2, h3⟩ := r.own
  obtain ⟨o, L1, Li, L2, e1, e2, ⟨_, f', rfl, e3⟩, _⟩ := slotsR_at h1 h
  rw [hm] at e3
  cases e3
  exact e1
def mFnm (x : Str) : MN := fun δ => .ok (.fn x, δ)
theorem rn_fnm {x : Str} {f : Addr} {pos : Pos} (hg : Gl X x) (hm : X.mg x = some (.ref f)) (hd : (x == ("__debug__" : Str)) = false := by decide) : RN X (.Name x pos) (tC (.ref f)) (mFnm x) :=
  ⟨pe_glob hg hm rfl hd, fun {ρ Fr F δ σ H d δ'} r e {Q} q => by
    cases e
    exact q F _ H (Same.refl _) (r.tfn hm)⟩
def mIfN (c : MT) (a b : MN) : MN := fun δ => match c δ with
  | .ok (true, δ1) => a δ1
  | .ok (false, δ1) => b δ1
  | .err c d => .err c d
  | .no => .no
theorem sn_ifN {c : TT} {t u : TE} {mc : MT} {a b : MN} (hc : SndT K mg c mc) (ha : SndN K mg t a) (hb : SndN K mg u b) : SndN K mg (tIf c t u) (mIfN mc a b) := fun {ρ Fr F δ σ H d δ'} r e {Q} q => by
  unfold mIfN at e
  split at e
  · rename_i δ1 e1
    exact hc r e1 fun F1 H1 s1 r1 => by
      exact ha r1 e fun F2 v H2 s2 r2 => q F2 v H2 (s1.trans s2) r2
  · rename_i δ1 e1
    exact hc r e1 fun F1 H1 s1 r1 => by
      exact hb r1 e fun F2 v H2 s2 r2 => q F2 v H2 (s1.trans s2) r2
  · cases e
  · cases e
theorem rn_ifN {c a b : Expr} {tc : TT} {t u : TE} {mc : MT} {ma mb : MN} {pos : Pos} (hc : RT X c tc mc) (ha : RN X a t ma) (hb : RN X b u mb) : RN X (.IfExp c a b pos) (tIf tc t u) (mIfN mc ma mb) := ⟨pe_ifExp hc.pt ha.pe hb.pe, sn_ifN hc.sn ha.sn hb.sn⟩
def tFnAt (i : Nat) (f : Addr) (t : TE) : TE := fun σ H Q => σ[i]? = some (some (.ref f)) ∧ t σ H Q
section
variable {CX : CXT} {k : Nat} {f : Addr} {fd : FuncData} {ps : List Str} {sp : Sp} {E : XK} {x : Str} {e : Expr} {es : List Expr} {t : TA} {p pos : Pos}
theorem pe_callFnG {i : Nat} (F : FnG X.prog X.w X.K X.mg X.base CX k f fd ps sp) (hG : X.A.guards = some []) (hr : Room k X.A) (hk : PySem.W.keepIn X.K (.ref f) = true) (hb : Binds X.K fd ps []) (hx : Passes CX X E) (hN : X.N[i]? = some x) (hv : Vis X.env.scope x)
    (ha : PA X (e :: es) t) (hd : (x == ("__debug__" : Str)) = false := by decide) (hcd : (x == ("__classdict__" : Str)) = false := by decide) (he : starEach (e :: es) X.env = (false, eval e X.env) :: starEach es X.env := by rfl) (hpl : (backTo pos (starEach es X.env)).any (·.1) = false := by rfl) :
    PE X (.Call (.Name x p) (e :: es) [] pos) (tFnAt i f (tCall sp [] E t)) := by
  refine ⟨fun pins s σ H Q I h => ?_⟩
  obtain ⟨hs, h⟩ := h
  refine wpAny_Call_Name_kw (thn ((pe_var (pos := p) (i := i) hN hv hd hcd).run pins s σ H (fun v H1 => v = .ref f ∧ H1 = H) I ⟨.ref f, hs, rfl, rfl⟩) fun u s1 ⟨v, H1, I1, r1, ev, eH⟩ => ?_)
  subst ev
  rw [eH] at I1
  cases r1
  refine PySem.W.callWith_K (h₀ := X.base) I.ok.mod.kin hk (thn (ha.run pos pins s1 σ H _ I1 h) fun us s1 ⟨vs, H1, I1, r, q⟩ => ⟨I1.kIn, ?_⟩) he hpl
  have q' : sp vs H1 Q E := by
    have z : sp (vs ++ []) H1 Q E := q
    rwa [List.append_nil] at z
  exact run_fnG (args := ⟨us, []⟩) F hG hr hx I1 (fun hl => by have z := hb s1 us I1.kIn (by simpa using hl); rwa [List.append_nil] at z) r q'
end
def mFnAt (i : Nat) (xa xb : Str) (ma mb : MN) : MN := fun δ => match δ[i]? with
  | some (.fn y) => if y = xa then ma δ else if y = xb then mb δ else .no
  | _ => .no
theorem sn_fnAt {i : Nat} {xa xb : Str} {fa fb : Addr} {ta tb : TE} {ma mb : MN} (ea : mg xa = some (.ref fa)) (eb : mg xb = some (.ref fb)) (ha : SndN K mg ta ma) (hb : SndN K mg tb mb) : SndN K mg (fun σ H Q => tFnAt i fa ta σ H Q ∨ tFnAt i fb tb σ H Q) (mFnAt i xa xb ma mb) := fun {ρ Fr F δ σ H d δ'} r e {Q} q => by
  unfold mFnAt at e
  split at e
  · rename_i y hy
    split at e
    · rename_i h1
      subst h1
      exact .inl ⟨r.getFn hy ea, ha r e q⟩
    · split at e
      · rename_i h2
        subst h2
        exact .inr ⟨r.getFn hy eb, hb r e q⟩
      · cases e
  · cases e
theorem rn_callFn (i : Nat) {xa xb x : Str} {ka kb na nb : Nat} {fa fb : Addr} {da db : FuncData} {pa pb : List Str} {ga gb : FM} {p pos : Pos} {e : Expr} {es : List Expr} {t : TA} {as : MA}
    (Fa : FnG X.prog X.w X.K X.mg X.base CX0 ka fa da pa (spD X.K X.mg na ga)) (Fb : FnG X.prog X.w X.K X.mg X.base CX0 kb fb db pb (spD X.K X.mg nb gb)) (hG : X.A.guards = some []) (hra : Room ka X.A) (hrb : Room kb X.A)
    (ma : X.mg xa = some (.ref fa)) (mb : X.mg xb = some (.ref fb)) (hka : PySem.W.keepIn X.K (.ref fa) = true) (hkb : PySem.W.keepIn X.K (.ref fb) = true) (ba : Binds X.K da pa []) (bb : Binds X.K db pb [])
    (ha : RA X (e :: es) t as) (hN : X.N[i]? = some x := by rfl) (hv : Vis X.env.scope x := by first | exact Or.inl rfl | exact Or.inr (Or.inl rfl) | exact Or.inr (Or.inr rfl)) (hd : (x == ("__debug__" : Str)) = false := by decide) (hcd : (x == ("__classdict__" : Str)) = false := by decide)
    (he : starEach (e :: es) X.env = (false, eval e X.env) :: starEach es X.env := by rfl) (hpl : (backTo pos (starEach es X.env)).any (·.1) = false := by rfl) :
    RN X (.Call (.Name x p) (e :: es) [] pos) (fun σ H Q => tFnAt i fa (tCall (spD X.K X.mg na ga) [] E0 t) σ H Q ∨ tFnAt i fb (tCall (spD X.K X.mg nb gb) [] E0 t) σ H Q) (mFnAt i xa xb (mCallV na ga as) (mCallV nb gb as)) :=
  ⟨pe_either (pe_callFnG Fa hG hra hka ba pass0 hN hv ha.pa hd hcd he hpl) (pe_callFnG Fb hG hrb hkb bb pass0 hN hv ha.pa hd hcd he hpl), sn_fnAt ma mb (sn_callV ha.sn) (sn_callV ha.sn)⟩
theorem ev_fnm {x : Str} {δ : Ev} : mFnm x δ = .ok (.fn x, δ) := rfl
theorem ev_ifNT {c : MT} {a b : MN} {δ δ1 : Ev} {p : Bool} {r} (h : c δ = .ok (p, δ1)) (hp : p = true) (h2 : a δ1 = r) : mIfN c a b δ = r := by
  subst hp
  unfold mIfN
  rw [h]; exact h2
theorem ev_ifNF {c : MT} {a b : MN} {δ δ1 : Ev} {p : Bool} {r} (h : c δ = .ok (p, δ1)) (hp : p = false) (h2 : b δ1 = r) : mIfN c a b δ = r := by
  subst hp
  unfold mIfN
  rw [h]; exact h2
theorem ev_fnA {i : Nat} {xa xb : Str} {ma mb : MN} {δ : Ev} {r} (h : δ[i]? = some (.fn xa)) (h2 : ma δ = r) : mFnAt i xa xb ma mb δ = r := by
  unfold mFnAt
  rw [h]
  exact (if_pos rfl).trans h2
theorem ev_fnB {i : Nat} {xa xb : Str} {ma mb : MN} {δ : Ev} {r} (hne : xb ≠ xa) (h : δ[i]? = some (.fn xb)) (h2 : mb δ = r) : mFnAt i xa xb ma mb δ = r := by
  unfold mFnAt
  rw [h]
  exact (if_neg hne).trans ((if_pos rfl).trans h2)
end
/-! range(a, b, c) -/
section
variable {X : Cx} {K : PySem.W.Frag} {mg : Str → Option Value}
def rngC (lo c : Int) (n : Nat) : List PyData := (List.range n).map fun (i : Nat) => PyData.int (lo + (i : Int) * c)
theorem itD_rngC {F : Hp} {lo c : Int} {n : Nat} : ItD K mg (Itc lo c n) F (rngC lo c n) := fun i F2 H2 s1 s2 => by
  refine ⟨fun e => ?_, fun d' e => ?_⟩
  · show n ≤ i
    rw [e]; unfold rngC; simp
  · unfold rngC at e
    rw [List.getElem?_map] at e
    cases q : (List.range n)[i]? with
    | none => rw [q] at e; cases e
    | some k =>
      rw [q] at e
      have e' : PyData.int (lo + k * c) = d' := Option.some.inj e
      subst e'
      obtain ⟨hl, hc⟩ := List.getElem?_eq_some_iff.mp q
      have hn : i < n := by simpa using hl
      have hi : k = i := by rw [← hc]; simp
      subst hi
      refine ⟨hn, fun x H3 y => ?_⟩
      obtain ⟨rfl, rfl⟩ := y
      exact ⟨F2, Same.refl _, .int _, fun r => r⟩
def stOk (i j c : Int) : Bool := decide (c ≠ 0 ∧ c.natAbs < 1073741824) && Builtin.Range.small i j c
def mRng3 (as : MA) : MA := fun δ => match as δ with
  | .ok ([.int i, .int j, .int c], δ1) => if stOk i j c = true ∧ Builtin.Range.rangeSize i j c = ((Builtin.Range.rangeSize i j c).toNat : Nat) then .ok (rngC i c (Builtin.Range.rangeSize i j c).toNat, δ1) else .no
  | .err c d => .err c d
  | _ => .no
theorem sn_rng3 {t : TA} {as : MA} (h : SndA K mg t as) : SndI K mg (iRng3 t) (mRng3 as) := fun {ρ Fr F δ σ H ds δ'} r e {R} q => by
  unfold mRng3 at e
  split at e
  · split at e
    · rename_i i j c δ1 e1 hj
      cases e
      refine h r e1 fun F1 vs H1 s1 r1 d1 => ?_
      obtain ⟨h1, h2⟩ := hj
      unfold stOk at h1
      rw [Bool.and_eq_true] at h1
      have h3 := of_decide_eq_true h1.1
      cases d1 with
      | cons d2 d3 =>
        cases d3 with
        | cons d4 d5 =>
          cases d5 with
          | cons d6 d7 =>
            cases d2; cases d4; cases d6; cases d7
            exact ⟨_, _, _, _, rfl, ⟨h3.1, h3.2, h1.2, h2⟩, q F1 _ H1 s1 r1 itD_rngC⟩
    · cases e
  · cases e
  · cases e
theorem ri_rng3 {tg a b c : Expr} {t : TA} {as : MA} {p pos : Pos} (hg : Gl X "range") (hm : X.mg "range" = none) (ha : RA X [a, b, c] t as) (hs : starEach [a, b, c] X.env = (false, eval a X.env) :: starEach [b, c] X.env := by rfl) (hpl : (backTo pos (starEach [b, c] X.env)).any (·.1) = false := by rfl) :
    RI X tg (.Call (.Name "range" p) [a, b, c] [] pos) (iRng3 t) (mRng3 as) := ⟨pi_range3 hg hm ha.pa hs hpl, sn_rng3 ha.sn⟩
theorem ev_rng3 {as : MA} {δ δ1 : Ev} {i j c : Int} {ds : List PyData} (h : as δ = .ok ([.int i, .int j, .int c], δ1)) (h2 : stOk i j c = true ∧ Builtin.Range.rangeSize i j c = ((Builtin.Range.rangeSize i j c).toNat : Nat)) (h3 : rngC i c (Builtin.Range.rangeSize i j c).toNat = ds) : mRng3 as δ = .ok (ds, δ1) := by
  unfold mRng3
  rw [h]; simp only []
  rw [if_pos h2, h3]
end
/-! f(x, ..) with x a list of its own, which f does not look at -/
section
variable {X : Cx} {K : PySem.W.Frag} {mg : Str → Option Value}
def mCallU (i n : Nat) (f : FM) (as : MA) : MN := fun δ => if wasOwn i δ = true then (match as δ with
  | .ok (ds, δ1) => if ds.length + 1 = n then (match f (.emp :: ds.map .val) with
    | .ok (r, _) => (match resV r with
      | some s => .ok (s, δ1)
      | none => .no)
    | .err c d => .err c d
    | .no => .no) else .no
  | .err c d => .err c d
  | .no => .no) else .no
theorem sn_callU {i n : Nat} {f : FM} {t : TA} {as : MA} {E : XK} (ha : SndA K mg t as) : SndN K mg (tCall (spD K mg n f) [] E (tCons (tVar i) t)) (mCallU i n f as) := fun {ρ Fr F δ σ H s δ'} r e {Q} q => by
  unfold mCallU at e
  split at e
  · rename_i hw
    obtain ⟨p, vs0, g0, _⟩ := wasOwn_at r hw
    split at e
    · rename_i ds δ1 e1
      split at e
      · rename_i hn
        split at e
        · rename_i r' as' e4
          split at e
          · rename_i s' e5
            cases e
            refine ⟨_, g0, ha r e1 fun F1 vs H1 s1 r1 d1 => ?_⟩
            show spD K mg n f ((V.ref p :: vs) ++ []) H1 Q E
            rw [List.append_nil]
            obtain ⟨Fr', z1, z2, z3⟩ := Rel.hideJ (ss := []) (os := []) rfl r1
            have z4 : Rel K mg ρ Fr' F1 (ds.map .val) (vs.map some) H1 := by simpa using z1.vals d1
            have z5 : Rel K mg ρ Fr' F1 (.emp :: ds.map .val) (some (.ref p) :: vs.map some) H1 := by
              obtain ⟨L, h1, h2, h3⟩ := z4.own
              exact ⟨z4.sub, z4.fr, z4.dis, L, ⟨[], L, rfl, rfl, h1⟩, h2, h3⟩
            refine ⟨ρ, Fr', F1, .emp :: ds.map .val, r', as', by simpa [dpa_len d1] using hn, z5, e4, fun F' v H' s2 r4 => q F' v H' (s1.trans s2) ?_⟩
            obtain ⟨L, ⟨A, B, rfl, a1, a2⟩, nd, av⟩ := r4.own
            have a1' : SlotR K mg ρ F' H' s (some v) A := resV_slot e5 a1
            have r5 : Rel K mg ρ Fr' F' [s] [some v] H' := ⟨r4.sub, r4.fr, r4.dis, A, ⟨A, [], by simp, a1', rfl⟩, (List.nodup_append.mp nd).1, fun a ha => av a (List.mem_append_left _ ha)⟩
            exact z3 s2 r5
          · cases e
        · cases e
        · cases e
      · cases e
    · cases e
    · cases e
  · cases e
section
variable {k : Nat} {f : Addr} {fd : FuncData} {ps : List Str} {n : Nat} {fm : FM} {x y : Str} {p pos py : Pos} {es : List Expr} {t : TA} {as : MA}
theorem rn_callU (i : Nat) (F : FnG X.prog X.w X.K X.mg X.base CX0 k f fd ps (spD X.K X.mg n fm)) (hG : X.A.guards = some []) (hr : Room k X.A) (hg : Gl X x) (hm : X.mg x = some (.ref f)) (hk : PySem.W.keepIn X.K (.ref f) = true) (hb : Binds X.K fd ps [])
    (ha : RA X es t as) (hN : X.N[i]? = some y := by rfl) (hv : Vis X.env.scope y := by first | exact Or.inl rfl | exact Or.inr (Or.inl rfl) | exact Or.inr (Or.inr rfl)) (hd : (y == ("__debug__" : Str)) = false := by decide) (hcd : (y == ("__classdict__" : Str)) = false := by decide)
    (hdb : (x == ("__debug__" : Str)) = false := by decide) (he : starEach (.Name y py :: es) X.env = (false, eval (.Name y py) X.env) :: starEach es X.env := by rfl) (hpl : (backTo pos (starEach es X.env)).any (·.1) = false := by rfl) :
    RN X (.Call (.Name x p) (.Name y py :: es) [] pos) (tCall (spD X.K X.mg n fm) [] E0 (tCons (tVar i) t)) (mCallU i n fm as) :=
  ⟨pe_callG F hG hr hg hm hk hb pass0 (pa_cons (pe_var hN hv hd hcd) ha.pa he) hdb he hpl, sn_callU ha.sn⟩
theorem ev_callU {i : Nat} {δ δ1 δ3 : Ev} {ds : List PyData} {vs : Ev} {s s2 : Sl} (hw : wasOwn i δ = true) (h : as δ = .ok (ds, δ1)) (hn : ds.length + 1 = n) (hv : (.emp :: ds.map .val) = vs) (h2 : fm vs = .ok (s, δ3)) (h3 : resV s = some s2) : mCallU i n fm as δ = .ok (s2, δ1) := by
  subst hv
  unfold mCallU
  rw [if_pos hw, h]; simp only []
  rw [if_pos hn, h2]; simp only []
  rw [h3]
end
end
end CW

namespace CW
open PySem PySem.Spec PyProof.Rows L2
section
variable {X : Cx} {K : PySem.W.Frag} {mg : Str → Option Value}
/-! a new value as a tree -/
def toT : Sl → Res PyData
  | .own xs => if scA xs = true then .ok (.list xs) else .no
  | .val d => if scD d = true then .ok d else .no
  | .tree d => .ok d
  | _ => .no
section
variable {ρ : Nat → Addr} {Fr F F' H H' : Hp} {δ δ' : Ev} {σ σ' : L2.St}
theorem slot_toT {s : Sl} {d : PyData} {v : V} {L : List Addr} (e : toT s = .ok d) (h : SlotR K mg ρ F H s (some v) L) : Tp K F H v d L := by
  cases s with
  | own xs =>
    unfold toT at e
    simp only [] at e
    split at e
    · rename_i hs
      cases e
      obtain ⟨p, vs, e1, rfl, e2, e3⟩ := h
      cases e1
      exact .lst e2 (tpa_sc hs e3)
    · cases e
  | val d' =>
    unfold toT at e
    simp only [] at e
    split at e
    · rename_i hs
      cases e
      obtain ⟨rfl, u, e1, e2⟩ := h
      cases e1
      exact .sc e2 hs
    · cases e
  | tree d' =>
    cases e
    obtain ⟨u, e1, t⟩ := h
    cases e1
    exact t
  | emp => cases e
  | vk j d => cases e
  | io k xs => cases e
  | fn x => cases e
def toTs : List Sl → Res (List PyData)
  | [] => .ok []
  | s :: ss => match toT s with
    | .ok d => (match toTs ss with
      | .ok ds => .ok (d :: ds)
      | .err c d => .err c d
      | .no => .no)
    | .err c d => .err c d
    | .no => .no
theorem slots_toTs : ∀ {ss : List Sl} {ds : List PyData} {vs : List V} {L : List Addr}, toTs ss = .ok ds → SlotsR K mg ρ F H ss (vs.map some) L → TpAll K F H vs ds L
  | [], _, [], _, e, h => by
    cases e
    have z : _ = [] := h
    subst z
    exact .nil
  | [], _, _ :: _, _, _, h => h.elim
  | s :: ss, _, [], _, _, h => h.elim
  | s :: ss, ds, v :: vs, L, e, h => by
    unfold toTs at e
    split at e
    · rename_i d e1
      split at e
      · rename_i ds' e2
        cases e
        obtain ⟨A, B, rfl, a1, a2⟩ := h
        exact .cons (slot_toT e1 a1) (slots_toTs e2 a2)
      · cases e
      · cases e
    · cases e
    · cases e
theorem toTs_len : ∀ {ss : List Sl} {ds : List PyData}, toTs ss = .ok ds → ds.length = ss.length
  | [], _, e => by cases e; rfl
  | s :: ss, ds, e => by
    unfold toTs at e
    split at e
    · split at e
      · rename_i e2
        cases e
        simp [toTs_len e2]
      · cases e
      · cases e
    · cases e
    · cases e
/-- slots on top become one -/
theorem Rel.joinT {ss : List Sl} {vs : List V} {s : Sl} {o : Option V} (hl : vs.length = ss.length) (r : Rel K mg ρ Fr F (ss ++ δ) (vs.map some ++ σ) H) (h : ∀ L, SlotsR K mg ρ F H ss (vs.map some) L → SlotR K mg ρ F H s o L) : Rel K mg ρ Fr F (s :: δ) (o :: σ) H := by
  obtain ⟨L, h1, h2, h3⟩ := r.own
  obtain ⟨L1, L2, rfl, g1, g2⟩ := slotsR_split (by simp [hl]) h1
  exact ⟨r.sub, r.fr, r.dis, L1 ++ L2, ⟨L1, L2, rfl, h L1 g1, g2⟩, h2, h3⟩
/-- a new list of slots on top -/
theorem Rel.newL {ss : List Sl} {vs : List V} {ds : List PyData} {p : Addr} (r : Rel K mg ρ Fr F (ss ++ δ) (vs.map some ++ σ) H) (hl : vs.length = ss.length) (hp : H p = none) (e : toTs ss = .ok ds) : Rel K mg ρ Fr F (.tree (.list ds) :: δ) (some (.ref p) :: σ) (upd H p (.lst vs)) := by
  obtain ⟨L, h1, h2, h3⟩ := r.own
  have hL : ∀ a ∈ L, a ≠ p := fun a ha => by
    obtain ⟨ws, e4⟩ := slotsR_mem h1 ha
    exact ne_of_none e4 hp
  have h1' := slotsR_mono (H' := upd H p (.lst vs)) (Same.refl F) (fun a ha => upd_ne (hL a ha)) h1
  obtain ⟨L1, L2, rfl, g1, g2⟩ := slotsR_split (by simp [hl]) h1'
  refine ⟨r.sub.trans (same_upd hp), r.fr.trans (same_upd hp), r.dis, (p :: L1) ++ L2, ⟨p :: L1, L2, rfl, ⟨_, rfl, .lst upd_same (slots_toTs e g1)⟩, g2⟩, ?_, fun a ha => ?_⟩
  · rw [List.cons_append]
    exact List.nodup_cons.mpr ⟨fun z => hL p z rfl, h2⟩
  · rw [List.cons_append] at ha
    rcases List.mem_cons.mp ha with z | z
    · rw [z]; exact ⟨r.fF hp, r.fFr hp⟩
    · exact h3 a z
/-- a value behind a tree's list -/
theorem Rel.apT {s : Sl} {v : V} {p : Addr} {xs : List PyData} {y : PyData} (r : Rel K mg ρ Fr F (.tree (.list xs) :: s :: δ) (some (.ref p) :: some v :: σ) H) (e : CW.toT s = .ok y) : ∃ ws, H p = some (.lst ws) ∧ ws.length = xs.length ∧ Rel K mg ρ Fr F (.tree (.list (xs ++ [y])) :: δ) (some (.ref p) :: σ) (upd H p (.lst (ws ++ [v]))) := by
  obtain ⟨L, ⟨A, B, rfl, ⟨u, eu, tp⟩, C, D, rfl, b1, b2⟩, h2, h3⟩ := r.own
  cases eu
  cases tp with
  | sc _ z => cases z
  | @lst _ ws _ M e1 ta =>
    refine ⟨ws, e1, tpa_len ta, ?_⟩
    have hp := h3 p (by simp)
    have nd := List.nodup_cons.mp (show (p :: (M ++ (C ++ D))).Nodup from h2)
    have hne : ∀ a ∈ M ++ (C ++ D), upd H p (.lst (ws ++ [v])) a = H a := fun a ha => upd_ne (fun z => nd.1 (z ▸ ha))
    have tv := slot_toT e b1
    refine ⟨fun a u' q => ?_, fun a u' q => ?_, r.dis, (p :: (M ++ C)) ++ D, ⟨p :: (M ++ C), D, rfl, ⟨_, rfl, .lst upd_same (tpa_app (tpa_mono (Same.refl _) _ _ _ (fun a ha => hne a (List.mem_append_left _ ha)) ta) ?_)⟩, ?_⟩, ?_, fun a ha => h3 a ?_⟩
    · rw [upd_ne (ne_of_none q hp.1)]; exact r.sub a u' q
    · rw [upd_ne (ne_of_none q hp.2)]; exact r.fr a u' q
    · have z := TpAll.cons (tp_mono (Same.refl F) _ _ _ (fun a ha => hne a (by simp [ha])) tv) (TpAll.nil (K := K) (F := F) (H := upd H p (.lst (ws ++ [v]))))
      rwa [List.append_nil] at z
    · exact slotsR_mono (Same.refl _) (fun a ha => hne a (by simp [ha])) b2
    · rw [List.cons_append, List.append_assoc]; exact h2
    · rw [List.cons_append, List.append_assoc] at ha; exact ha
end
def mToT (m : MN) : MN := fun δ => match m δ with
  | .ok (s, δ1) => (match toT s with
    | .ok d => .ok (.tree d, δ1)
    | .err c d => .err c d
    | .no => .no)
  | .err c d => .err c d
  | .no => .no
theorem sn_toT {t : TE} {m : MN} (h : SndN K mg t m) : SndN K mg t (mToT m) := fun {ρ Fr F δ σ H s δ'} r e {Q} q => by
  unfold mToT at e
  split at e
  · rename_i s1 δ1 e1
    split at e
    · rename_i d e2
      cases e
      exact h r e1 fun F1 v H1 t1 r1 => q F1 v H1 t1 (Rel.joinT (ss := [s1]) (vs := [v]) rfl r1 fun L hL => by
        obtain ⟨A, B, rfl, a1, a2⟩ := hL
        have z : B = [] := a2
        subst z
        rw [List.append_nil]
        exact ⟨v, rfl, slot_toT e2 a1⟩)
    · cases e
    · cases e
  · cases e
  · cases e
theorem RN.toT {e : Expr} {t : TE} {m : MN} (h : RN X e t m) : RN X e t (mToT m) := ⟨h.pe, sn_toT h.sn⟩
/-! (a, b), [a, b] -/
def mTupT (ms : MNs) : MN := fun δ => match ms δ with
  | .ok (ss, δ1) => (match toTs ss with
    | .ok ds => if ds.length ≤ 100000 then .ok (.tree (.tuple ds), δ1) else .no
    | .err c d => .err c d
    | .no => .no)
  | .err c d => .err c d
  | .no => .no
theorem rn_tupT {es : List Expr} {k} {pos : Pos} {t : TA} {ms : MNs} (h : RNs X es t ms) : RN X (.Tuple es k pos) (tTup t) (mTupT ms) := ⟨pe_tup h.pa, fun {ρ Fr F δ σ H s δ'} r e {Q} q => by
  unfold mTupT at e
  split at e
  · rename_i ss δ1 e1
    split at e
    · rename_i ds e2
      split at e
      · rename_i hz
        cases e
        refine h.sn r e1 fun F1 vs H1 t1 r1 lv => ⟨by rw [lv, ← toTs_len e2, sizeLine_eq]; omega, fun p hp => ?_⟩
        exact q _ _ _ (t1.trans (same_upd (r1.fF hp))) (Rel.joinT lv (r1.frz (o := .tup vs) hp) fun L hL => ⟨_, rfl, .tup (SqT.of upd_same) (slots_toTs e2 hL)⟩)
      · cases e
    · cases e
    · cases e
  · cases e
  · cases e⟩
def mLstT (ms : MNs) : MN := fun δ => match ms δ with
  | .ok (ss, δ1) => (match toTs ss with
    | .ok ds => if ds.length ≤ 100000 then .ok (.tree (.list ds), δ1) else .no
    | .err c d => .err c d
    | .no => .no)
  | .err c d => .err c d
  | .no => .no
theorem rn_lstT {es : List Expr} {pos : Pos} {t : TA} {ms : MNs} (h : RNs X es t ms) : RN X (.List es pos) (tLst t) (mLstT ms) := ⟨pe_lst h.pa, fun {ρ Fr F δ σ H s δ'} r e {Q} q => by
  unfold mLstT at e
  split at e
  · rename_i ss δ1 e1
    split at e
    · rename_i ds e2
      split at e
      · rename_i hz
        cases e
        refine h.sn r e1 fun F1 vs H1 t1 r1 lv => ⟨by rw [lv, ← toTs_len e2, sizeLine_eq]; omega, fun p hp => q F1 _ _ t1 ?_⟩
        exact r1.newL lv hp e2
      · cases e
    · cases e
    · cases e
  · cases e
  · cases e⟩
/-! [e for x in xs if c] with new lists for e -/
def lcTL (g : PyData → Ev → Res Ev) (tt : MT) (te : MN) (vs : List Nat) : List PyData → List PyData → Ev → Res (List PyData × Ev)
  | [], acc, δ => .ok (acc, δ)
  | d :: ds, acc, δ => match g d δ with
    | .ok δ2 => (match tt δ2 with
      | .ok (true, δ3) => (match te δ3 with
        | .ok (s, δ4) => (match toT s with
          | .ok y => if acc.length < sizeLine then lcTL g tt te vs ds (acc ++ [y]) (clr δ4 vs) else .no
          | .err c d => .err c d
          | .no => .no)
        | .err c d => .err c d
        | .no => .no)
      | .ok (false, δ3) => lcTL g tt te vs ds acc (clr δ3 vs)
      | .err c d => .err c d
      | .no => .no)
    | .err c d => .err c d
    | .no => .no
def mLcT (mi : MA) (g : PyData → Ev → Res Ev) (tt : MT) (te : MN) (vs : List Nat) : MN := fun δ => match mi δ with
  | .ok (ds, δ1) => if calmAt δ1 vs = true then (match lcTL g tt te vs ds [] (clr δ1 vs) with
    | .ok (ys, δ2) => .ok (.tree (.list ys), bck δ1 vs δ2)
    | .err c d => .err c d
    | .no => .no) else .no
  | .err c d => .err c d
  | .no => .no
theorem sn_lcT {wi : TI} {g : TG} {tt : TT} {te : TE} {mi : MA} {f} {mt : MT} {me : MN} {vs js : List Nat} (hi : SndI K mg wi mi) (hg : SndG K mg g f js) (ht : SndT K mg tt mt) (he : SndN K mg te me) (hj : ∀ k ∈ js, k ∈ vs) :
    SndN K mg (tLc wi g tt te vs) (mLcT mi f mt me vs) := fun {ρ Fr F δ σ H s δ'} r e {Q} q => by
  unfold mLcT at e
  split at e
  · rename_i ds δ1 e1
    split at e
    · rename_i hc
      split at e
      · rename_i ys δ2 e2
        cases e
        refine hi r e1 fun F1 J H1 s1 r1 it => ?_
        intro D hD
        have r0 : Rel K mg ρ Fr F1 (.tree (.list []) :: clr δ1 vs) (some (.ref D) :: wipe σ vs) (upd H1 D (.lst [])) := Rel.newL (ss := []) (vs := []) (r1.clr vs) rfl hD rfl
        refine ⟨fun i m H' => ∃ F2 δ3 acc, Same F1 F2 ∧ Rel K mg ρ Fr F2 (.tree (.list acc) :: δ3) (some (.ref D) :: wipe σ vs) H' ∧ i + m = ds.length ∧ lcTL f mt me vs (ds.drop i) acc δ3 = .ok (ys, δ2), ⟨ds.length, F1, _, [], Same.refl _, r0, Nat.zero_add _, e2⟩, ?_⟩
        rintro i m H' ⟨F2, δ3, acc, s2, r2, hm, e3⟩
        have it' := it i F2 H' s2 r2.sub
        cases q2 : ds[i]? with
        | none =>
          have hl : ds.length ≤ i := List.getElem?_eq_none_iff.mp q2
          have hi : i = ds.length := by omega
          rw [List.drop_eq_nil_of_le hl] at e3
          cases e3
          refine .inl ⟨it'.1 hi, q F2 _ H' (s1.trans s2) ?_⟩
          obtain ⟨Fr', k1, k2⟩ := r2.hide1
          have key : Rel K mg ρ Fr' F2 (bck δ1 vs δ2) (unw σ vs (wipe σ vs)) H' := by
            have go : ∀ us : List Nat, calmAt δ1 us = true → Rel K mg ρ Fr' F2 (bck δ1 us δ2) (unw σ us (wipe σ vs)) H' := by
              intro us
              induction us with
              | nil => exact fun _ => k1
              | cons u us ih =>
                intro c
                unfold calmAt at c
                rw [Bool.and_eq_true] at c
                have r4 := ih c.2
                unfold CW.bck unw
                cases z : δ1[u]? with
                | none =>
                  have hl := List.getElem?_eq_none_iff.mp z
                  rw [List.getElem?_eq_none (by rw [← r1.len]; exact hl)]
                  exact r4
                | some s =>
                  obtain ⟨L0, h1, _, _⟩ := r1.own
                  obtain ⟨o, L1, Li, L2, g1, _, g3, _⟩ := slotsR_at h1 z
                  rw [g1]
                  have c1 := c.1
                  rw [z] at c1
                  exact r4.drop (calm_slot g3 s2 c1)
            exact go vs hc
          rw [unw_wipe] at key
          exact k2 (Same.refl _) key
        | some d =>
          obtain ⟨hl, hd⟩ := List.getElem?_eq_some_iff.mp q2
          rw [List.drop_eq_getElem_cons hl, hd] at e3
          obtain ⟨go, yl⟩ := it'.2 d q2
          refine .inr ⟨go, fun H' => ∃ F2 δ3 acc, Same F1 F2 ∧ Rel K mg ρ Fr F2 (.tree (.list acc) :: δ3) (some (.ref D) :: wipe σ vs) H' ∧ lcTL f mt me vs (ds.drop (i + 1)) acc δ3 = .ok (ys, δ2), ?_, ?_⟩
          · rintro H3 ⟨F3, δ4, acc', a1, a3, a4⟩
            exact ⟨m - 1, by omega, F3, δ4, acc', a1, a3, by omega, a4⟩
          · intro x H3 y
            obtain ⟨F3, s3, dx, up⟩ := yl x H3 y
            have r3 := up r2
            obtain ⟨Fr', k1, k2⟩ := r3.hide1
            unfold lcTL at e3
            split at e3
            · rename_i δ4 e4
              refine hg k1 dx e4 fun F4 σ4 H4 s4 r4 k4 l4 => ?_
              have hw : wipe σ4 vs = wipe σ vs := by
                have z := wipe_eq (σ := wipe σ vs) (σ' := σ4) (vs := vs) l4 (fun k hk => k4 k (fun z => hk (hj k z)))
                rw [z, wipe_wipe]
              refine ⟨hw, ?_⟩
              split at e3
              · rename_i δ5 e5
                split at e3
                · rename_i sy δ6 e6
                  split at e3
                  · rename_i y' e7
                    split at e3
                    · rename_i hz
                      refine ht r4 e5 fun F5 H5 s5 r5 => iteT (he r5 e6 fun F6 v H6 s6 r6 => ?_)
                      have s46 := (s4.trans s5).trans s6
                      obtain ⟨ws, g1, g2, g3⟩ := (k2 s46 r6).apT e7
                      refine ⟨ws, g1, by rw [g2]; exact hz, F6, _, acc ++ [y'], s2.trans (s3.trans s46), ?_, e3⟩
                      have k7 := Rel.clr (r := g3) (vs.map (· + 1))
                      have c1 : ∀ (us : List Nat) (a : Sl) (η : Ev), CW.clr (a :: η) (us.map (· + 1)) = a :: CW.clr η us := by
                        intro us
                        induction us with
                        | nil => intro a η; rfl
                        | cons u us ih =>
                          intro a η
                          show (CW.clr (a :: η) (us.map (· + 1))).set (u + 1) .emp = a :: (CW.clr η us).set u .emp
                          rw [ih]; rfl
                      have c2 : ∀ (us : List Nat) (a : Option V) (η : L2.St), wipe (a :: η) (us.map (· + 1)) = a :: wipe η us := by
                        intro us
                        induction us with
                        | nil => intro a η; rfl
                        | cons u us ih =>
                          intro a η
                          show (wipe (a :: η) (us.map (· + 1))).set (u + 1) none = a :: (wipe η us).set u none
                          rw [ih]; rfl
                      rw [c1, c2, hw] at k7
                      exact k7
                    · cases e3
                  · cases e3
                  · cases e3
                · cases e3
                · cases e3
              · rename_i δ5 e5
                refine ht r4 e5 fun F5 H5 s5 r5 => iteF ?_
                have s45 := s4.trans s5
                have k7 := r5.clr vs
                rw [hw] at k7
                exact ⟨F5, _, acc, s2.trans (s3.trans s45), k2 s45 k7, e3⟩
              · cases e3
              · cases e3
            · cases e3
            · cases e3
      · cases e
      · cases e
    · cases e
  · cases e
  · cases e
def cN (K : PySem.W.Frag) (mg : Str → Option Value) (m : MN) : TE := fun σ H Q => ∃ (ρ : Nat → Addr) (Fr F : Hp) (δ : Ev) (d : Sl) (δ' : Ev), Rel K mg ρ Fr F δ σ H ∧ m δ = .ok (d, δ') ∧ ∀ F' v H', Same F F' → Rel K mg ρ Fr F' (d :: δ') (some v :: σ) H' → Q v H'
theorem sn_cN {m : MN} : SndN K mg (cN K mg m) m := fun {ρ Fr F δ σ H d δ'} r e {Q} q => ⟨ρ, Fr, F, δ, d, δ', r, e, q⟩
theorem RN.canon {e : Expr} {t : TE} {m : MN} (h : RN X e t m) : PE X e (cN X.K X.mg m) := ⟨fun pins s σ H Q I ⟨ρ, Fr, F, δ, d, δ', r, e, q⟩ => h.pe.run pins s σ H Q I (h.sn r e q)⟩
section
variable {elt tg iter : Expr} {ifs : List Expr} {scope : Scope} {own : List (Str × Nat)} {pos : Pos} {wi : TI} {mi : MA} {f : PyData → Ev → Res Ev} {mt : MT} {me : MN}
theorem rn_lcT (own : List (Str × Nat)) (hc : X.calm = true) (hN : X.N.Nodup) (hi : RI X tg iter wi mi) (hg : ∀ s H C cl fp, ∃ g js, RG (BX X scope s H C cl fp) tg g f js ∧ ∀ k ∈ js, k ∈ own.map (·.2)) (ht : ∀ s H C cl fp, ∃ tt, RTs (BX X scope s H C cl fp) ifs tt mt)
    (he : ∀ s H C cl fp, ∃ te, RN (BX X scope s H C cl fp) elt te me) (ok : BlkOk X.N X.env.scope scope own := by exact blkOk_by rfl) (hs : ∀ x, foldedSetIterable iter X.env x = pure x := by intro _; rfl) :
    RN X (.ListComp elt [⟨tg, iter, ifs, 0⟩] scope pos) (tLc wi (cG X.K X.mg f (own.map (·.2))) (cT X.K X.mg mt) (cN X.K X.mg me) (own.map (·.2))) (mLcT mi f mt me (own.map (·.2))) :=
  ⟨pe_lc hc hN hi.pi ok (fun s H C cl fp => let ⟨_, _, r, j⟩ := hg s H C cl fp; r.canon j) (fun s H C cl fp => let ⟨_, r⟩ := ht s H C cl fp; r.canon) (fun s H C cl fp => let ⟨_, r⟩ := he s H C cl fp; r.canon) hs,
    sn_lcT hi.sn sn_cG sn_cT sn_cN fun _ h => h⟩
theorem rs_setLcT (own : List (Str × Nat)) (i : Nat) {y : Str} {py spos : Pos} (hc : X.calm = true) (hN : X.N.Nodup) (hi : RI X tg iter wi mi) (hg : ∀ s H C cl fp, ∃ g js, RG (BX X scope s H C cl fp) tg g f js ∧ ∀ k ∈ js, k ∈ own.map (·.2)) (ht : ∀ s H C cl fp, ∃ tt, RTs (BX X scope s H C cl fp) ifs tt mt)
    (he : ∀ s H C cl fp, ∃ te, RN (BX X scope s H C cl fp) elt te me) (ok : BlkOk X.N X.env.scope scope own := by exact blkOk_by rfl) (hs : ∀ x, foldedSetIterable iter X.env x = pure x := by intro _; rfl)
    (hy : X.N[i]? = some y := by rfl) (hyl : X.env.scope.names.lookup y = some .local := by rfl) (hsw : swapsWith (.ListComp elt [⟨tg, iter, ifs, 0⟩] scope pos) (some (.Name y py)) spos.line X.env = pure true := by rfl) :
    RS X (.Assign [.Name y py] (.ListComp elt [⟨tg, iter, ifs, 0⟩] scope pos) spos) (tAsg (tLc wi (cG X.K X.mg f (own.map (·.2))) (cT X.K X.mg mt) (cN X.K X.mg me) (own.map (·.2))) (gName i)) (mSet i (mLcT mi f mt me (own.map (·.2)))) :=
  ⟨ps_setLc hc hN hy hyl hsw hi.pi ok (fun s H C cl fp => let ⟨_, _, r, j⟩ := hg s H C cl fp; r.canon j) (fun s H C cl fp => let ⟨_, r⟩ := ht s H C cl fp; r.canon) (fun s H C cl fp => let ⟨_, r⟩ := he s H C cl fp; r.canon) hs,
    sn_set i (sn_lcT hi.sn sn_cG sn_cT sn_cN fun _ h => h)⟩
end
/-! x[i][j].append(e) on nested data of its own -/
inductive VP (K : PySem.W.Frag) (H : Hp) : V → List Int → V → Prop
  | nil {v : V} : VP K H v [] v
  | lst {a : Addr} {xs : List V} {i : Int} {v w : V} {p : List Int} : SqL K H a xs → atI xs i = some v → VP K H v p w → VP K H (.ref a) (i :: p) w
  | tup {a : Addr} {xs : List V} {i : Int} {v w : V} {p : List Int} : SqT K H a xs → atI xs i = some v → VP K H v p w → VP K H (.ref a) (i :: p) w
theorem vp_snoc {H : Hp} {w : V} {i : Int} : ∀ {p : List Int} {v : V}, VP K H v (p ++ [i]) w → ∃ u, VP K H v p u ∧ VP K H u [i] w
  | [], v, h => ⟨v, .nil, h⟩
  | j :: p, _, h => by
    cases h with
    | lst h1 h2 h3 => obtain ⟨u, a, b⟩ := vp_snoc h3; exact ⟨u, .lst h1 h2 a, b⟩
    | tup h1 h2 h3 => obtain ⟨u, a, b⟩ := vp_snoc h3; exact ⟨u, .tup h1 h2 a, b⟩
structure RP (X : Cx) (e : Expr) (t : TE) (i : Nat) (p : List Int) : Prop where
  pe : PE X e t
  sn : ∀ {σ : L2.St} {H : Hp} {v w : V} {Q : VK}, σ[i]? = some (some v) → VP X.K H v p w → Q w H → t σ H Q
theorem rp_name (i : Nat) {x : Str} {pos : Pos} (hN : X.N[i]? = some x := by rfl) (hv : Vis X.env.scope x := by first | exact Or.inl rfl | exact Or.inr (Or.inl rfl) | exact Or.inr (Or.inr rfl)) (hd : (x == ("__debug__" : Str)) = false := by decide)
    (hcd : (x == ("__classdict__" : Str)) = false := by decide) : RP X (.Name x pos) (tVar i) i [] := ⟨pe_var hN hv hd hcd, fun {σ H v w Q} h1 h2 q => by
  cases h2
  exact ⟨v, h1, q⟩⟩
theorem rp_ix {o : Expr} {t : TE} {i : Nat} {p : List Int} {c : Int} {j cp pos} (h : RP X o t i p) (hs : PlainIx (.Constant (.int c) j cp) := by exact fun _ _ => rfl) : RP X (.Subscript o (.Constant (.int c) j cp) pos) (tOp (rIx X.K) t (tC (.int c))) i (p ++ [c]) :=
  ⟨pe_ix ix_seq h.pe pe_int hs, fun {σ H v w Q} h1 h2 q => by
    obtain ⟨u, a, b⟩ := vp_snoc h2
    refine h.sn h1 a ?_
    cases b with
    | lst b1 b2 b3 => cases b3; exact .inl ⟨_, _, _, _, rfl, rfl, b1, b2, q⟩
    | tup b1 b2 b3 => cases b3; exact .inr (.inl ⟨_, _, _, _, rfl, rfl, b1, b2, q⟩)⟩
def kidsD : PyData → Option (Bool × List PyData)
  | .list xs => some (true, xs)
  | .tuple xs => some (false, xs)
  | _ => none
theorem kidsD_inv {d : PyData} {b : Bool} {xs : List PyData} (h : kidsD d = some (b, xs)) : (d = .list xs ∧ b = true) ∨ (d = .tuple xs ∧ b = false) := by
  cases d <;> first | (cases h; exact .inl ⟨rfl, rfl⟩) | (cases h; exact .inr ⟨rfl, rfl⟩) | cases h
def mkD (b : Bool) (xs : List PyData) : PyData := if b = true then .list xs else .tuple xs
def apAt : List Int → PyData → PyData → Option PyData
  | [], d, e => (match d with
    | .list xs => if xs.length < sizeLine then some (.list (xs ++ [e])) else none
    | _ => none)
  | i :: p, d, e => (match kidsD d with
    | some (b, xs) => (match ixN xs.length i with
      | some j => (match xs[j]? with
        | some d1 => (match apAt p d1 e with
          | some d' => some (mkD b (xs.set j d'))
          | none => none)
        | none => none)
      | none => none)
    | none => none)
theorem apAt_sc {e : PyData} : ∀ (p : List Int) (d d' : PyData), scD d = true → apAt p d e = some d' → False
  | [], d, d', h1, h2 => by
    unfold apAt at h2
    split at h2
    · cases h1
    · cases h2
  | i :: p, d, d', h1, h2 => by
    unfold apAt at h2
    split at h2
    · rename_i b xs hk
      rcases kidsD_inv hk with ⟨rfl, _⟩ | ⟨rfl, _⟩
      · cases h1
      · split at h2
        · rename_i j hj
          split at h2
          · rename_i d1 hd1
            split at h2
            · rename_i d3 hd3
              refine apAt_sc p d1 d3 ?_ hd3
              have al : ∀ (xs : List PyData) (j : Nat), scA xs = true → xs[j]? = some d1 → scD d1 = true := by
                intro xs
                induction xs with
                | nil => intro j _ h; simp at h
                | cons x xs ih2 =>
                  intro j h1 h2
                  unfold scA at h1
                  rw [Bool.and_eq_true] at h1
                  cases j with
                  | zero => simp at h2; rw [← h2]; exact h1.1
                  | succ j => exact ih2 j h1.2 (by simpa using h2)
              exact al xs j h1 hd1
            · cases h2
          · cases h2
        · cases h2
    · cases h2
theorem tpa_at {F H : Hp} : ∀ {ds : List PyData} {vs : List V} {L : List Addr} {j : Nat} {d : PyData}, TpAll K F H vs ds L → ds[j]? = some d → ∃ v Lj M1 M2, vs[j]? = some v ∧ L = M1 ++ (Lj ++ M2) ∧ Tp K F H v d Lj ∧
    ∀ {H' : Hp} {d' : PyData}, (∀ a ∈ M1 ++ M2, H' a = H a) → Tp K F H' v d' Lj → TpAll K F H' vs (ds.set j d') L
  | [], _, _, j, d, h, e => by simp at e
  | d0 :: ds, _, _, 0, d, h, e => by
    cases h with
    | @cons v vs _ _ L M h1 h2 =>
      simp at e
      subst e
      exact ⟨v, L, [], M, rfl, rfl, h1, fun k t => .cons t (tpa_mono (Same.refl _) _ _ _ k h2)⟩
  | d0 :: ds, _, _, j + 1, d, h, e => by
    cases h with
    | @cons v vs _ _ L M h1 h2 =>
      obtain ⟨w, Lj, M1, M2, e1, rfl, e3, e4⟩ := tpa_at (j := j) h2 (by simpa using e)
      refine ⟨w, Lj, L ++ M1, M2, by simpa using e1, by simp, e3, fun k t => .cons (tp_mono (Same.refl _) _ _ _ (fun a ha => k a (by simp [ha])) h1) (e4 (fun a ha => k a ?_) t)⟩
      rw [List.append_assoc]
      exact List.mem_append_right _ ha
theorem tp_path {F H : Hp} (sub : Same F H) {e : PyData} : ∀ {p : List Int} {d d2 : PyData} {v : V} {L : List Addr}, Tp K F H v d L → L.Nodup → apAt p d e = some d2 → ∃ a ws, VP K H v p (.ref a) ∧ a ∈ L ∧ H a = some (.lst ws) ∧ ws.length < sizeLine ∧
    ∀ u, Dp K F u e → scD e = true → Tp K F (upd H a (.lst (ws ++ [u]))) v d2 L
  | [], d, d2, v, L, h, nd, q => by
    unfold apAt at q
    split at q
    · rename_i xs
      split at q
      · rename_i hz
        cases q
        cases h with
        | sc _ z => cases z
        | @lst a ws _ M e1 ta =>
          refine ⟨a, ws, .nil, List.mem_cons_self .., e1, by rw [tpa_len ta]; exact hz, fun u hu hs => .lst upd_same ?_⟩
          have n1 := (List.nodup_cons.mp nd).1
          have z := tpa_app (tpa_mono (H' := upd H a (.lst (ws ++ [u]))) (Same.refl F) _ _ _ (fun b hb => upd_ne (fun z => n1 (z ▸ hb))) ta) (.cons (.sc hu hs) .nil)
          simpa using z
      · cases q
    · cases q
  | i :: p, d, d2, v, L, h, nd, q => by
    unfold apAt at q
    split at q
    · rename_i bb xs hk
      split at q
      · rename_i j hj
        split at q
        · rename_i d1 hd1
          split at q
          · rename_i d3 hd3
            cases q
            rcases kidsD_inv hk with ⟨rfl, rfl⟩ | ⟨rfl, rfl⟩
            · cases h with
              | sc _ z => cases z
              | @lst a ws _ M e1 ta =>
                obtain ⟨w, Lj, M1, M2, g1, rfl, g3, g4⟩ := tpa_at ta hd1
                have n0 := List.nodup_cons.mp nd
                have n1 := List.nodup_append.mp n0.2
                have n2 := List.nodup_append.mp n1.2.1
                obtain ⟨b, us, k1, k2, k3, k4, k5⟩ := tp_path sub g3 n2.1 hd3
                refine ⟨b, us, .lst (SqL.of e1) ?_ k1, by simp [k2], k3, k4, fun u hu hs => .lst ?_ (g4 (fun c hc => upd_ne (fun z => ?_)) (k5 u hu hs))⟩
                · unfold atI
                  rw [tpa_len ta, hj]
                  exact g1
                · rw [upd_ne (fun z => n0.1 (by rw [z]; simp [k2]))]; exact e1
                · subst z
                  rcases List.mem_append.mp hc with w | w
                  · exact n1.2.2 c w c (by simp [k2]) rfl
                  · exact n2.2.2 c k2 c w rfl
            · cases h with
              | sc _ hs =>
                exfalso
                refine apAt_sc (e := e) (i :: p) (.tuple xs) (mkD false (xs.set j d3)) hs ?_
                unfold apAt
                rw [hk]; simp only []
                rw [hj]; simp only []
                rw [hd1]; simp only []
                rw [hd3]
              | @tup a ws _ M e1 ta =>
                obtain ⟨w, Lj, M1, M2, g1, rfl, g3, g4⟩ := tpa_at ta hd1
                have n1 := List.nodup_append.mp nd
                have n2 := List.nodup_append.mp n1.2.1
                obtain ⟨b, us, k1, k2, k3, k4, k5⟩ := tp_path sub g3 n2.1 hd3
                refine ⟨b, us, .tup (sqT_mono sub e1) ?_ k1, by simp [k2], k3, k4, fun u hu hs => .tup e1 (g4 (fun c hc => upd_ne (fun z => ?_)) (k5 u hu hs))⟩
                · unfold atI
                  rw [tpa_len ta, hj]
                  exact g1
                · subst z
                  rcases List.mem_append.mp hc with w | w
                  · exact n1.2.2 c w c (by simp [k2]) rfl
                  · exact n2.2.2 c k2 c w rfl
          · cases q
        · cases q
      · cases q
    · cases q
def mTreeAp (i : Nat) (p : List Int) (d : PyData) : ME := fun δ => match δ[i]? with
  | some (.tree d0) => if scD d = true then (match apAt p d0 d with
    | some d2 => .ok (.none, δ.set i (.tree d2))
    | none => .no) else .no
  | _ => .no
theorem re_treeAp {o a : Expr} {to : TE} {i : Nat} {p : List Int} {v : V} {d : PyData} {apos cpos : Pos} (ho : RP X o to i p) (ha : PE X a (tC v)) (hd : ∀ F, Dp X.K F v d)
    (hbase : attributeBase o "append" X.env (eval o X.env) = eval o X.env := by rfl)
    (hfew : ((backTo cpos (starEach [a] X.env)).all (fun x => !x.1) && (backToKw cpos (keywordEach [] X.env)).all (fun x => x.1.isSome)
      && decide (([a] : List Expr).length + ([] : List Keyword).length + (if ([] : List Keyword).isEmpty then 0 else 1) < 30)) = true := by rfl)
    (hline : (apos.endLine == cpos.line) = true := by rfl) (hs : starEach [a] X.env = (false, eval a X.env) :: starEach [] X.env := by rfl) (hplain : (backTo cpos (starEach [] X.env)).any (·.1) = false := by rfl) :
    RE X (.Call (.Attribute o "append" apos) [a] [] cpos) (tBM X.K "list" rAppend to (tCons (tC v) tNil)) (mTreeAp i p d) :=
  ⟨pe_bm PySem.F.plainAttrs_list PySem.F.slot_list_append PySem.F.type_list_append mt_append ho.pe (pa_cons ha pa_nil hs) hbase hfew hline hs hplain, fun {ρ Fr F δ σ H d' δ'} r e {Q} q => by
    unfold mTreeAp at e
    split at e
    · rename_i d0 e0
      split at e
      · rename_i hsc
        split at e
        · rename_i d2 e2
          cases e
          obtain ⟨L, h1, h2, h3⟩ := r.own
          obtain ⟨o', L1, Li, L2, g1, rfl, ⟨v0, rfl, tp⟩, g4⟩ := slotsR_at h1 e0
          have n1 := List.nodup_append.mp h2
          have n2 := List.nodup_append.mp n1.2.1
          obtain ⟨b, ws, k1, k2, k3, k4, k5⟩ := tp_path r.sub tp n2.1 e2
          refine ho.sn g1 k1 ⟨.inl ⟨rfl, _, SqL.of k3⟩, ⟨b, ws, v, rfl, rfl, k3, k4, ?_⟩⟩
          have hb := h3 b (by simp [k2])
          refine q F .non _ (Same.refl _) ⟨fun a u z => ?_, fun a u z => ?_, r.dis, _, ?_, h2, h3⟩ .non
          · rw [upd_ne (ne_of_none z hb.1)]; exact r.sub a u z
          · rw [upd_ne (ne_of_none z hb.2)]; exact r.fr a u z
          · have z := g4 (F' := F) (H' := upd H b (.lst (ws ++ [v]))) (Same.refl _) (fun a ha => upd_ne (fun z => ?_)) (.tree d2) (some v0) Li ⟨v0, rfl, k5 v (hd F) hsc⟩
            · rw [set_self g1] at z
              exact z
            · subst z
              rcases List.mem_append.mp ha with w | w
              · exact n1.2.2 a w a (by simp [k2]) rfl
              · exact n2.2.2 a k2 a w rfl
        · cases e
      · cases e
    · cases e⟩
end
end CW
namespace CW
open PySem PySem.Spec PyProof.Rows L2
section
variable {δ δ0 δ1 δ2 δ3 : Ev} {d d0 d2 : PyData} {s : Sl} {ss : List Sl} {ds ys : List PyData} {i : Nat} {m : MN} {ms : MNs}
theorem ev_toT (h : m δ = .ok (s, δ1)) (h2 : toT s = .ok d) : mToT m δ = .ok (.tree d, δ1) := by
  unfold mToT
  rw [h]; simp only []
  rw [h2]
theorem ev_tupT (h : ms δ = .ok (ss, δ1)) (h2 : toTs ss = .ok ds) (h3 : ds.length ≤ 100000) : mTupT ms δ = .ok (.tree (.tuple ds), δ1) := by
  unfold mTupT
  rw [h]; simp only []
  rw [h2]; simp only []
  rw [if_pos h3]
theorem ev_lstT (h : ms δ = .ok (ss, δ1)) (h2 : toTs ss = .ok ds) (h3 : ds.length ≤ 100000) : mLstT ms δ = .ok (.tree (.list ds), δ1) := by
  unfold mLstT
  rw [h]; simp only []
  rw [h2]; simp only []
  rw [if_pos h3]
theorem ev_lcT {mi : MA} {g : PyData → Ev → Res Ev} {t : MT} {vs : List Nat} (h : mi δ = .ok (ds, δ1)) (h1 : calmAt δ1 vs = true) (hc : clr δ1 vs = δ0) (h2 : lcTL g t m vs ds [] δ0 = .ok (ys, δ2)) (h3 : bck δ1 vs δ2 = δ3) : mLcT mi g t m vs δ = .ok (.tree (.list ys), δ3) := by
  subst hc
  unfold mLcT
  rw [h]; simp only []
  rw [if_pos h1, h2]; simp only []
  rw [h3]
theorem ev_treeAp {p : List Int} (h : δ[i]? = some (.tree d0)) (hs : scD d = true) (h2 : apAt p d0 d = some d2) (h3 : δ.set i (.tree d2) = δ1) : mTreeAp i p d δ = .ok (.none, δ1) := by
  unfold mTreeAp
  rw [h]; simp only []
  rw [if_pos hs, h2]; simp only []
  rw [h3]
theorem ev_mvt (h : δ[i]? = some (.tree d)) (h2 : δ.set i .emp = δ1) : mMv i δ = .ok (.tree d, δ1) := by
  unfold mMv
  rw [h, ← h2]
theorem ev_fzt (h : δ[i]? = some (.tree d)) (h2 : δ.set i (.val d) = δ1) : mFz i δ = .ok (d, δ1) := by
  unfold mFz
  rw [h, ← h2]
/-- a comprehension of new lists that leaves all slots as they are -/
theorem lcTL_pure {α : Type} {g : PyData → Ev → Res Ev} {tt : MT} {te : MN} {vs : List Nat} (enc : α → PyData) (p : α → Bool) (f : α → PyData) (δ : Ev) : ∀ (xs : List α) (acc : List PyData), acc.length + xs.length ≤ sizeLine →
    (∀ a ∈ xs, ∃ δ1 s, g (enc a) δ = .ok δ1 ∧ tt δ1 = .ok (p a, δ1) ∧ (p a = true → te δ1 = .ok (s, δ1) ∧ toT s = .ok (f a)) ∧ clr δ1 vs = δ) → lcTL g tt te vs (xs.map enc) acc δ = .ok (acc ++ (xs.filter p).map f, δ)
  | [], acc, _, _ => by simp [lcTL]
  | a :: xs, acc, hl, h => by
    obtain ⟨δ1, s, e1, e2, e3, e4⟩ := h a (List.mem_cons_self ..)
    rw [List.map_cons]
    unfold lcTL
    rw [List.length_cons] at hl
    cases hp : p a with
    | true =>
      rw [hp] at e2
      have ⟨e5, e6⟩ := e3 hp
      simp only [e1, e2, e5, e6, e4]
      rw [if_pos (by omega), lcTL_pure enc p f δ xs (acc ++ [f a]) (by rw [List.length_append]; simp; omega) fun b hb => h b (List.mem_cons_of_mem _ hb)]
      simp [hp]
    | false =>
      rw [hp] at e2
      simp only [e1, e2, e4]
      rw [lcTL_pure enc p f δ xs acc (by omega) fun b hb => h b (List.mem_cons_of_mem _ hb)]
      simp [hp]
theorem lcTL_all {α : Type} {g : PyData → Ev → Res Ev} {te : MN} {vs : List Nat} (enc : α → PyData) (f : α → PyData) (δ : Ev) (xs : List α) (hl : xs.length ≤ sizeLine) (h : ∀ a ∈ xs, ∃ δ1 s, g (enc a) δ = .ok δ1 ∧ te δ1 = .ok (s, δ1) ∧ toT s = .ok (f a) ∧ clr δ1 vs = δ) : lcTL g mYes te vs (xs.map enc) [] δ = .ok (xs.map f, δ) := by
  have lc := lcTL_pure (g := g) (tt := mYes) (te := te) (vs := vs) enc (fun _ => true) f δ xs [] (by simpa using hl) (by
    intro a ha
    obtain ⟨δ1, s, e1, e2, e3, e4⟩ := h a ha
    exact ⟨δ1, s, e1, rfl, fun _ => ⟨e2, e3⟩, e4⟩)
  rw [List.filter_eq_self.mpr (fun _ _ => rfl), List.nil_append] at lc
  exact lc
end
end CW

namespace CW
open PySem PySem.Spec PyProof.Rows L2
section
variable {X : Cx} {K : PySem.W.Frag} {mg : Str → Option Value}
/-! a def that marks each list of nested data, told True where none stands twice -/
def endOk (ds : List PyData) : Bool := match fNe (.list ds) (.list []) with
  | .ok (.bool false) => true
  | .ok (.bool true) => (match atI ds (-1) with
    | some e => (match fEq e (.str "marked") with
      | .ok (.bool false) => true
      | _ => false)
    | none => false)
  | _ => false
def mkOk : Nat → PyData → Bool
  | 0, _ => false
  | n + 1, d => (match d with
    | .list ds => endOk ds && decide (ds.length < 1000000) && ds.all (mkOk n)
    | .tuple ds => decide (ds.length < 1000000) && ds.all (mkOk n)
    | d => scD d)
def spMk (K : PySem.W.Frag) (n : Nat) : Sp := fun vs H Q _ => ∃ (F : Hp) (v : V) (d : PyData) (L : List Addr), vs = [v] ∧ Same F H ∧ Tp K F H v d L ∧ L.Nodup ∧ (∀ a ∈ L, F a = none) ∧ mkOk n d = true ∧ ∀ H', (∀ a o, a ∉ L → H a = some o → H' a = some o) → Q (.bl true) H'
theorem spMk_len {n : Nat} {ps : List Str} (hl : ps.length = 1) : ∀ vs H Q E, spMk K n vs H Q E → vs.length = ps.length := fun vs H Q E h => by
  obtain ⟨F, v, d, L, rfl, _⟩ := h
  rw [hl]; rfl
theorem fnG_mk0 {P : Program} {w : World} {base : Heap} {k : Nat} {f : Addr} {fd : FuncData} {ps : List Str} (hl : ps.length = 1) : FnG P w K mg base CX0 k f fd ps (spMk K 0) := ⟨spMk_len hl, fun A outer s H args us vs Q E _ _ _ _ _ h => by
  obtain ⟨F, v, d, L, _, _, _, _, _, z, _⟩ := h
  cases z⟩
/-- the marks of all items -/
theorem kids_run {n : Nat} {wi : TI} {J : It} {σ : L2.St} {F H : Hp} {vs : List V} {ds : List PyData} {M : List Addr}
    (hw : ∀ {R : It → Hp → Prop}, R J H → wi σ H R) (sub : Same F H) (ta : TpAll K F H vs ds M) (nd : M.Nodup) (hF : ∀ a ∈ M, F a = none) (hok : ds.all (mkOk n) = true) (hl : ds.length < 1000000) (h2 : 2 < σ.length)
    (hJ : ∀ H' i, (∀ a o, a ∉ M → H a = some o → H' a = some o) → (i = vs.length → J.stop i H') ∧ ∀ v, vs[i]? = some v → J.go i H' ∧ ∀ x H3, J.yld i H' x H3 → x = v ∧ H3 = H')
    {Q : VK} (q : ∀ H' D, (∀ a o, a ∉ M → H a = some o → H' a = some o) → H D = none → H' D = some (.lst (List.replicate ds.length (.bl true))) → Q (.ref D) H') :
    tLc wi (gName 2) tYes (tCall (spMk K n) [] E0 (tCons (tVar 2) tNil)) [2] σ H Q := by
  refine hw ?_
  intro D hD
  have hDM : D ∉ M := fun z => by
    obtain ⟨ws, e⟩ := tpa_mem ds vs M ta D z
    rw [hD] at e; cases e
  have lv := tpa_len ta
  refine ⟨fun i m H' => i + m = ds.length ∧ H' D = some (.lst (List.replicate i (.bl true))) ∧ (∀ a o, a ∉ M → H a = some o → H' a = some o) ∧ ∃ Mi, TpAll K F H' (vs.drop i) (ds.drop i) Mi ∧ (∀ a ∈ Mi, a ∈ M) ∧ Mi.Nodup, ⟨ds.length, by omega, upd_same, fun a o _ e => ?_, M, ?_, fun _ h => h, nd⟩, ?_⟩
  · rw [upd_ne (fun z => by rw [z, hD] at e; cases e)]; exact e
  · exact tpa_mono (Same.refl _) _ _ _ (fun a ha => upd_ne (fun z => hDM (by rw [← z]; exact ha))) ta
  rintro i m H' ⟨hm, hD', keep, Mi, ti, hi, ndi⟩
  obtain ⟨js, jg⟩ := hJ H' i keep
  cases e : ds[i]? with
  | none =>
    have hl' : ds.length ≤ i := List.getElem?_eq_none_iff.mp e
    have hi' : i = ds.length := by omega
    subst hi'
    exact .inl ⟨js (by omega), q H' D keep hD hD'⟩
  | some d =>
    obtain ⟨hlt, hd⟩ := List.getElem?_eq_some_iff.mp e
    have hlv : i < vs.length := by omega
    rw [List.drop_eq_getElem_cons hlv, List.drop_eq_getElem_cons hlt, hd] at ti
    cases ti with
    | @cons v _ _ _ L1 M1 t1 t2 =>
      obtain ⟨go, yl⟩ := jg vs[i] (List.getElem?_eq_getElem hlv)
      refine .inr ⟨go, fun H'' => i + 1 + (m - 1) = ds.length ∧ H'' D = some (.lst (List.replicate (i + 1) (.bl true))) ∧ (∀ a o, a ∉ M → H a = some o → H'' a = some o) ∧ ∃ Mi, TpAll K F H'' (vs.drop (i + 1)) (ds.drop (i + 1)) Mi ∧ (∀ a ∈ Mi, a ∈ M) ∧ Mi.Nodup, fun H'' z => ⟨m - 1, by omega, z⟩, ?_⟩
      intro x H3 y
      obtain ⟨rfl, rfl⟩ := yl x H3 y
      have nd1 := List.nodup_append.mp ndi
      show wipe ((wipe σ [2]).set 2 (some vs[i])) [2] = wipe σ [2] ∧ _
      refine ⟨?_, ?_⟩
      · show (((σ.set 2 none).set 2 (some vs[i])).set 2 none) = σ.set 2 none
        rw [List.set_set, List.set_set]
      show tCall (spMk K n) [] E0 (tCons (tVar 2) tNil) ((σ.set 2 none).set 2 (some vs[i])) H3 _
      refine ⟨vs[i], ?_, ?_⟩
      · rw [List.set_set]
        exact List.getElem?_set_self h2
      unfold tNil
      show spMk K n ([vs[i]] ++ []) H3 _ _
      have sub' : Same F H3 := fun a u z => keep a u (fun w => by rw [hF a w] at z; cases z) (sub a u z)
      rw [List.all_eq_true] at hok
      refine ⟨F, vs[i], d, L1, rfl, sub', t1, nd1.1, fun a ha => hF a (hi a (List.mem_append_left _ ha)), hok d (by rw [← hd]; exact List.getElem_mem hlt), fun H4 k4 => ?_⟩
      have hD4 : H4 D = some (.lst (List.replicate i (.bl true))) := k4 D _ (fun z => hDM (hi D (List.mem_append_left _ z))) hD'
      refine ⟨_, hD4, by rw [List.length_replicate, sizeLine_eq]; omega, by omega, ?_, fun a o ha z => ?_, M1, ?_, fun a ha => hi a (List.mem_append_right _ ha), nd1.2.1⟩
      · rw [upd_same, List.replicate_succ']
      · rw [upd_ne (fun w => by rw [w, hD] at z; cases z)]
        exact k4 a o (fun w => ha (hi a (List.mem_append_left _ w))) (keep a o ha z)
      · refine tpa_mono (Same.refl _) _ _ _ (fun a ha => ?_) t2
        obtain ⟨ws, ew⟩ := tpa_mem _ _ _ t2 a ha
        rw [upd_ne (fun w => hDM (hi D (by rw [← w]; exact List.mem_append_right _ ha))), ew]
        exact k4 a _ (fun w => nd1.2.2 a w a ha rfl) ew
theorem trues_lay : ∀ m : Nat, PyData.canLayAll0 (List.replicate m (.bool true)) = true ∧ PyData.depthAll (List.replicate m (PyData.bool true)) = 0
  | 0 => by simp [PyData.canLayAll0, PyData.depthAll]
  | m + 1 => by
    have ⟨a, b⟩ := trues_lay m
    rw [List.replicate_succ]
    simp [PyData.canLayAll0, PyData.canLay0, PyData.depthAll, PyData.depth, a, b]
theorem fIn_trues (m : Nat) : fInD true (.bool false) (.list (List.replicate m (.bool true))) = .ok (.bool true) := by
  have ⟨a, b⟩ := trues_lay m
  have sh : SeqAt.shaped (.list (List.replicate m (.bool true))) = true := by
    show ((PyData.list _).canLay0 && decide ((PyData.list _).depth ≤ 64)) = true
    simp [PyData.canLay0, PyData.depth, a, b]
  have z : fInD true (.bool false) (.list (List.replicate m (.bool true))) = .ok (.bool (!(List.replicate m (PyData.bool true)).any fun z => PyData.eqv z (.bool false))) := if_pos ⟨rfl, sh⟩
  rw [z]
  congr 2
  rw [Bool.not_eq_true', List.any_eq_false]
  intro x hx
  rw [List.eq_of_mem_replicate hx]
  simp [PyData.eqv]
theorem dpa_trues {F : Hp} : ∀ m : Nat, DpAll K F (List.replicate m (.bl true)) (List.replicate m (.bool true))
  | 0 => .nil
  | m + 1 => by
    rw [List.replicate_succ, List.replicate_succ]
    exact .cons (.bl true) (dpa_trues m)
/-- False not in the list of the answers -/
theorem notin_run {rr : R2} (hv : OpV K mg rr (fInD true)) {H : Hp} {D : Addr} {m : Nat} (e : H D = some (.lst (List.replicate m (.bl true)))) {Q : VK} (q : ∀ H', (∀ a o, H a = some o → H' a = some o) → Q (.bl true) H') : rr (.bl false) (.ref D) H Q := by
  have r : Rel K mg (fun _ => 0) (fun _ => none) H [] [] H := ⟨Same.refl _, (fun a u z => by cases z), (fun a ha => absurd rfl ha), [], rfl, List.nodup_nil, (fun _ z => by cases z)⟩
  exact hv r (.bl false) (.lst (SqL.of e) (dpa_trues m)) (fIn_trues m) fun F' v H' s1 r1 d1 => by
    cases d1
    exact q H' (s1.trans r1.sub)
theorem tp_tup {F H : Hp} {v : V} {ds : List PyData} {L : List Addr} (h : Tp K F H v (.tuple ds) L) : ∃ a xs, v = .ref a ∧ SqT K F a xs ∧ TpAll K F H xs ds L := by
  cases h with
  | sc h1 h2 =>
    cases h1 with
    | tup g1 g2 => exact ⟨_, _, rfl, g1, tpa_sc h2 g2⟩
  | tup g1 g2 => exact ⟨_, _, rfl, g1, g2⟩
open Classical in
theorem mk_read {n : Nat} {tc1 tc2 : TT} {tis : TE} {tA : TS} {rr : R2} (h1 : SndT K mg tc1 (mBorT (mT (mIsi "list" (mVar 0)))))
    (h2 : SndT K mg tc2 (mAndT (mBorT (mT (mOp fNe (mVar 0) (mFrz (mLst mNil))))) (mBorT (mT (mOp fEq (mIxV 0 (mNeg (mC (.int 1)))) (mC (.str "marked")))))))
    (h4 : SndE K mg tis (mBor (mIsi "tuple" (mVar 0)))) (hv : OpV K mg rr (fInD true)) {vs : List V} {H : Hp} {Q : VK} {E : XK} (h : spMk K (n + 1) vs H Q E) :
    tSeq (tIfS tc1 (tSeq (tIfS tc2 tA tNext) (tSeq (tAsg (tLc (iList K (tVar 0)) (gName 2) tYes (tCall (spMk K n) [] E0 (tCons (tVar 2) tNil)) [2]) (gName 1)) (tSeq (tDrop (tBM K "list" rAppend (tVar 0) (tCons (tC (.str "marked")) tNil))) (tRet (tOp rr (tC (.bl false)) (tVar 1)))))) tNext)
      (tRet (tOrV (tNotV tis) (tOp rr (tC (.bl false)) (tLc (iTup K (tVar 0)) (gName 2) tYes (tCall (spMk K n) [] E0 (tCons (tVar 2) tNil)) [2])))) { nx := fun _ H' => Q .non H', rt := Q } (L2.start ["told", "kept", "item"] vs) H := by
  obtain ⟨F, v, d, L, rfl, sub, tp, nd, hF, ok, q⟩ := h
  let Fr : Hp := fun a => if a ∈ L then none else if F a = none then H a else none
  have fr1 : ∀ a, Fr a ≠ none → a ∉ L ∧ F a = none ∧ Fr a = H a := fun a ha => by
    by_cases z : a ∈ L
    · exact absurd (if_pos z) ha
    · by_cases y : F a = none
      · exact ⟨z, y, by show (if a ∈ L then none else if F a = none then H a else none) = _; rw [if_neg z, if_pos y]⟩
      · exact absurd (show (if a ∈ L then none else if F a = none then H a else none) = none by rw [if_neg z, if_neg y]) ha
  have r0 : Rel K mg (fun _ => 0) Fr F [.tree d, .emp, .emp] [some v, none, none] H := by
    refine ⟨sub, fun a u e => ?_, fun a ha => (fr1 a ha).2.1, L, ⟨L, [], by simp, ⟨v, rfl, tp⟩, [], [], rfl, rfl, [], [], rfl, rfl, rfl⟩, nd, fun a ha => ⟨hF a ha, if_pos ha⟩⟩
    have z := fr1 a (by rw [e]; simp)
    rw [← z.2.2]; exact e
  have keepR : ∀ {F' H' : Hp} {δ' : Ev} {σ' : L2.St}, Same F F' → Rel K mg (fun _ => 0) Fr F' δ' σ' H' → ∀ a o, a ∉ L → H a = some o → H' a = some o := by
    intro F' H' δ' σ' s r a o ha e
    cases y : F a with
    | none => exact r.fr a o (by show (if a ∈ L then none else if F a = none then H a else none) = _; rw [if_neg ha, if_pos y]; exact e)
    | some u =>
      have z := sub a u y
      rw [e] at z
      cases z
      exact r.sub a _ (s a _ y)
  have newR : ∀ {F' H' : Hp} {L' : List Addr}, Same F F' → (∀ a ∈ L', F' a = none ∧ Fr a = none) → ∀ a o, a ∉ L → H a = some o → a ∉ L' := by
    intro F' H' L' s hL a o ha e z
    have ⟨z1, z2⟩ := hL a z
    have y : F a = none := by
      cases y : F a with
      | none => rfl
      | some u => rw [s a u y] at z1; cases z1
    have w : Fr a = H a := by show (if a ∈ L then none else if F a = none then H a else none) = _; rw [if_neg ha, if_pos y]
    rw [w, e] at z2
    cases z2
  show tIfS tc1 _ tNext _ [some v, none, none] H
  have scal : isT "list" d = some false → isT "tuple" d = some false → tIfS tc1 (tSeq (tIfS tc2 tA tNext) (tSeq (tAsg (tLc (iList K (tVar 0)) (gName 2) tYes (tCall (spMk K n) [] E0 (tCons (tVar 2) tNil)) [2]) (gName 1)) (tSeq (tDrop (tBM K "list" rAppend (tVar 0) (tCons (tC (.str "marked")) tNil))) (tRet (tOp rr (tC (.bl false)) (tVar 1)))))) tNext
      { nx := tRet (tOrV (tNotV tis) (tOp rr (tC (.bl false)) (tLc (iTup K (tVar 0)) (gName 2) tYes (tCall (spMk K n) [] E0 (tCons (tVar 2) tNil)) [2]))) { nx := fun _ H' => Q .non H', rt := Q }, rt := Q } [some v, none, none] H := by
    intro i1 i2
    have e1 : mBorT (mT (mIsi "list" (mVar 0))) [.tree d, .emp, .emp] = .ok (false, [.tree d, .emp, .emp]) := ev_borT rfl (ev_T (ev_isi (ev_var rfl) i1))
    have e2 : mBor (mIsi "tuple" (mVar 0)) [.tree d, .emp, .emp] = .ok (.bool false, [.tree d, .emp, .emp]) := ev_bor rfl (ev_isi (ev_var rfl) i2) rfl
    refine h1 r0 e1 fun F1 H1 s1 r1 => iteF ?_
    show tis _ H1 _
    refine h4 r1 e2 fun F2 u H2 s2 r2 d2 => ?_
    cases d2
    exact ⟨false, rfl, true, rfl, iteT (q H2 (keepR (s1.trans s2) r2))⟩
  cases d with
  | none => exact scal rfl rfl
  | bool b => exact scal rfl rfl
  | int i => exact scal rfl rfl
  | str x => exact scal rfl rfl
  | dict x => cases ok
  | list ds =>
    have ok' : (endOk ds && decide (ds.length < 1000000) && ds.all (mkOk n)) = true := ok
    rw [Bool.and_eq_true, Bool.and_eq_true, decide_eq_true_eq] at ok'
    obtain ⟨⟨ok1, ok2⟩, ok3⟩ := ok'
    have e1 : mBorT (mT (mIsi "list" (mVar 0))) [.tree (.list ds), .emp, .emp] = .ok (true, [.tree (.list ds), .emp, .emp]) := ev_borT rfl (ev_T (ev_isi (ev_var rfl) rfl))
    have e2 : mAndT (mBorT (mT (mOp fNe (mVar 0) (mFrz (mLst mNil))))) (mBorT (mT (mOp fEq (mIxV 0 (mNeg (mC (.int 1)))) (mC (.str "marked"))))) [.tree (.list ds), .emp, .emp] = .ok (false, [.tree (.list ds), .emp, .emp]) := by
      unfold endOk at ok1
      have ne : ∀ b, fNe (.list ds) (.list []) = .ok (.bool b) → mBorT (mT (mOp fNe (mVar 0) (mFrz (mLst mNil)))) [.tree (.list ds), .emp, .emp] = .ok (b, [.tree (.list ds), .emp, .emp]) := fun b hb => ev_borT rfl (ev_T (ev_op (ev_var rfl) (ev_frz (ev_lst ev_nil (by simp)) rfl) hb))
      split at ok1
      · rename_i hb
        exact ev_andF (ne _ hb) rfl
      · rename_i hb
        split at ok1
        · rename_i el he
          split at ok1
          · rename_i hq
            refine ev_andT (ne _ hb) rfl ?_
            have ix : fIx (.list ds) (.int (-1)) = .ok el := by
              show (match atI ds (-1) with | some d => Res.ok d | none => .no) = _
              rw [he]
            exact ev_borT rfl (ev_T (ev_op (ev_ixv (x := .list ds) rfl (ev_neg ev_c) rfl ix) ev_c hq))
          · cases ok1
        · cases ok1
      · cases ok1
    refine h1 r0 e1 fun F1 H1 s1 r1 => iteT ?_
    show tIfS tc2 tA tNext _ [some v, none, none] H1
    refine h2 r1 e2 fun F2 H2 s2 r2 => iteF ?_
    have s12 := s1.trans s2
    obtain ⟨L0, ⟨L', B, rfl, ⟨v', ev', tp'⟩, hB⟩, nd', av'⟩ := r2.own
    cases ev'
    have k2 := keepR s12 r2
    have n2 := newR (H' := H2) (L' := L') s12 (fun a ha => av' a (List.mem_append_left _ ha))
    have nd'' := (List.nodup_append.mp nd').1
    cases tp' with
    | sc _ z => cases z
    | @lst a0 ws _ M e3 ta =>
      have na := List.nodup_cons.mp nd''
      simp only [tNext, tSeq, tAsg]
      refine kids_run (J := Itl K a0) (fun h => ⟨.ref a0, rfl, a0, rfl, ⟨_, SqL.of e3⟩, h⟩) r2.sub ta na.2 (fun a ha => (av' a (List.mem_append_left _ (List.mem_cons_of_mem _ ha))).1) ok3 ok2 (by simp) (fun H' i keep => ?_) fun H3 D k3 hD hD3 => ?_
      · have sq : SqL K H' a0 ws := SqL.of (keep a0 _ na.1 e3)
        refine ⟨fun e => ⟨ws, sq, by omega⟩, fun u e => ⟨⟨ws, u, sq, e⟩, fun x H3 y => ?_⟩⟩
        obtain ⟨rfl, y⟩ := y
        have ex := y ws sq
        rw [e] at ex
        cases ex
        exact ⟨rfl, rfl⟩
      have e4 : H3 a0 = some (.lst ws) := k3 a0 _ na.1 e3
      have hDa : D ≠ a0 := fun z => by rw [z, e3] at hD; cases hD
      show tBM _ _ _ _ _ [some (V.ref a0), some (V.ref D), none] H3 _
      refine ⟨.ref a0, rfl, .inl ⟨rfl, ws, SqL.of e4⟩, a0, ws, .str "marked", rfl, rfl, e4, by rw [tpa_len ta, sizeLine_eq]; omega, ?_⟩
      show tOp rr (tC (.bl false)) (tVar 1) [some (V.ref a0), some (V.ref D), none] _ _
      refine ⟨.ref D, rfl, ?_⟩
      refine notin_run hv (m := ds.length) (by rw [upd_ne hDa]; exact hD3) fun H5 k5 => q H5 fun a o ha e => ?_
      have y := n2 a o ha e
      refine k5 a o ?_
      rw [upd_ne (fun z => y (by rw [z]; exact List.mem_cons_self ..))]
      exact k3 a o (fun z => y (List.mem_cons_of_mem _ z)) (k2 a o ha e)
  | tuple ds =>
    have ok' : (decide (ds.length < 1000000) && ds.all (mkOk n)) = true := ok
    rw [Bool.and_eq_true, decide_eq_true_eq] at ok'
    obtain ⟨ok2, ok3⟩ := ok'
    have e1 : mBorT (mT (mIsi "list" (mVar 0))) [.tree (.tuple ds), .emp, .emp] = .ok (false, [.tree (.tuple ds), .emp, .emp]) := ev_borT rfl (ev_T (ev_isi (ev_var rfl) rfl))
    have e2 : mBor (mIsi "tuple" (mVar 0)) [.tree (.tuple ds), .emp, .emp] = .ok (.bool true, [.tree (.tuple ds), .emp, .emp]) := ev_bor rfl (ev_isi (ev_var rfl) rfl) rfl
    refine h1 r0 e1 fun F1 H1 s1 r1 => iteF ?_
    show tis _ H1 _
    refine h4 r1 e2 fun F2 u H2 s2 r2 d2 => ?_
    cases d2
    refine ⟨true, rfl, false, rfl, iteF ?_⟩
    have s12 := s1.trans s2
    obtain ⟨L0, ⟨L', B, rfl, ⟨v', ev', tp'⟩, hB⟩, nd', av'⟩ := r2.own
    cases ev'
    have k2 := keepR s12 r2
    have n2 := newR (H' := H2) (L' := L') s12 (fun a ha => av' a (List.mem_append_left _ ha))
    have nd'' := (List.nodup_append.mp nd').1
    obtain ⟨a0, ws, rfl, e3, ta⟩ := tp_tup tp'
    simp only [tOp, tC]
    refine kids_run (J := Itt K a0) (fun h => ⟨.ref a0, rfl, a0, rfl, ⟨_, sqT_mono r2.sub e3⟩, h⟩) r2.sub ta nd'' (fun a ha => (av' a (List.mem_append_left _ ha)).1) ok3 ok2 (by simp) (fun H' i keep => ?_) fun H3 D k3 hD hD3 => ?_
    · have sq : SqT K H' a0 ws := sqT_mono (fun a u e => keep a u (fun z => by have := (av' a (List.mem_append_left _ z)).1; rw [e] at this; cases this) (r2.sub a u e)) e3
      refine ⟨fun e => ⟨ws, sq, by omega⟩, fun u e => ⟨⟨ws, u, sq, e⟩, fun x H3 y => ?_⟩⟩
      obtain ⟨rfl, y⟩ := y
      have ex := y ws sq
      rw [e] at ex
      cases ex
      exact ⟨rfl, rfl⟩
    refine notin_run hv (m := ds.length) hD3 fun H5 k5 => q H5 fun a o ha e => ?_
    exact k5 a o (k3 a o (n2 a o ha e) (k2 a o ha e))
/-! the call: the nested data is used up -/
def mMark (i n : Nat) : MN := fun δ => match δ[i]? with
  | some (.tree d) => if mkOk n d = true then .ok (.val (.bool true), δ.set i .emp) else .no
  | _ => .no
theorem sn_mark (i n : Nat) : SndN K mg (tCall (spMk K n) [] E0 (tCons (tVar i) tNil)) (mMark i n) := fun {ρ Fr F δ σ H s δ'} r e {Q} q => by
  unfold mMark at e
  split at e
  · rename_i d e0
    split at e
    · rename_i hok
      cases e
      obtain ⟨L, h1, h2, h3⟩ := r.own
      obtain ⟨o', L1, Li, L2, g1, rfl, ⟨v, rfl, tp⟩, g4⟩ := slotsR_at h1 e0
      have n1 := List.nodup_append.mp h2
      have n2 := List.nodup_append.mp n1.2.1
      refine ⟨v, g1, ?_⟩
      unfold tNil
      show spMk K n ([v] ++ []) H Q _
      refine ⟨F, v, d, Li, rfl, r.sub, tp, n2.1, fun a ha => (h3 a (by simp [ha])).1, hok, fun H' k => ?_⟩
      refine q F _ H' (Same.refl _) (Rel.tval ⟨fun a u z => ?_, fun a u z => ?_, r.dis, L1 ++ ([] ++ L2), ?_, ?_, fun a ha => h3 a ?_⟩ (.bl true))
      · exact k a u (fun w => by rw [(h3 a (by simp [w])).1] at z; cases z) (r.sub a u z)
      · exact k a u (fun w => by rw [(h3 a (by simp [w])).2] at z; cases z) (r.fr a u z)
      · have z := g4 (F' := F) (H' := H') (Same.refl _) (fun a ha => by
          have hm : a ∈ L1 ++ (Li ++ L2) := by
            rcases List.mem_append.mp ha with w | w
            · simp [w]
            · simp [w]
          obtain ⟨ws, ew⟩ := slotsR_mem h1 hm
          rw [ew]
          exact k a _ (fun w => by
            rcases List.mem_append.mp ha with y | y
            · exact n1.2.2 a y a (by simp [w]) rfl
            · exact n2.2.2 a w a y rfl) ew) .emp (some v) [] rfl
        rw [set_self g1] at z
        exact z
      · have sb : (L1 ++ ([] ++ L2)).Sublist (L1 ++ (Li ++ L2)) := List.Sublist.append (List.Sublist.refl _) (by simp)
        exact h2.sublist sb
      · rcases List.mem_append.mp ha with w | w
        · simp [w]
        · have w' : a ∈ L2 := by simpa using w
          simp [w']
    · cases e
  · cases e
section
variable {k : Nat} {f : Addr} {fd : FuncData} {ps : List Str} {n : Nat} {x y : Str} {p pos py : Pos}
theorem rn_mark (i : Nat) (F : FnG X.prog X.w X.K X.mg X.base CX0 k f fd ps (spMk X.K n)) (hG : X.A.guards = some []) (hr : Room k X.A) (hg : Gl X x) (hm : X.mg x = some (.ref f)) (hk : PySem.W.keepIn X.K (.ref f) = true) (hb : Binds X.K fd ps [])
    (hN : X.N[i]? = some y := by rfl) (hv : Vis X.env.scope y := by first | exact Or.inl rfl | exact Or.inr (Or.inl rfl) | exact Or.inr (Or.inr rfl)) (hd : (y == ("__debug__" : Str)) = false := by decide) (hcd : (y == ("__classdict__" : Str)) = false := by decide)
    (hdb : (x == ("__debug__" : Str)) = false := by decide) (he : starEach [.Name y py] X.env = (false, eval (.Name y py) X.env) :: starEach [] X.env := by rfl) (hpl : (backTo pos (starEach [] X.env)).any (·.1) = false := by rfl) :
    RN X (.Call (.Name x p) [.Name y py] [] pos) (tCall (spMk X.K n) [] E0 (tCons (tVar i) tNil)) (mMark i n) := ⟨pe_callG F hG hr hg hm hk hb pass0 (pa_cons (pe_var hN hv hd hcd) pa_nil he) hdb he hpl, sn_mark i n⟩
end
theorem ev_mark {i n : Nat} {δ δ1 : Ev} {d : PyData} (h : δ[i]? = some (.tree d)) (h1 : mkOk n d = true) (h2 : δ.set i .emp = δ1) : mMark i n δ = .ok (.val (.bool true), δ1) := by
  unfold mMark
  rw [h]; simp only []
  rw [if_pos h1, h2]
end
end CW

namespace CW
open PySem PySem.Spec PyProof.Rows L2
section
variable {X : Cx} {K : PySem.W.Frag} {mg : Str → Option Value}
theorem ixN_ltT {n : Nat} {k : Int} {j : Nat} (h : ixN n k = some j) : j < n := by
  unfold ixN at h
  split at h <;> split at h
  all_goals first
    | (cases h; omega)
    | (simp at h; omega)
    | simp at h
theorem tpa_put {F H : Hp} : ∀ {ds : List PyData} {vs : List V} {L : List Addr} {j : Nat}, TpAll K F H vs ds L → j < ds.length → ∃ Lj M1 M2, L = M1 ++ (Lj ++ M2) ∧
    ∀ {H' : Hp} {d' : PyData} {v' : V} {A : List Addr}, (∀ a ∈ M1 ++ M2, H' a = H a) → Tp K F H' v' d' A → TpAll K F H' (vs.set j v') (ds.set j d') (M1 ++ (A ++ M2))
  | [], _, _, j, h, e => by simp at e
  | d0 :: ds, _, _, 0, h, e => by
    cases h with
    | @cons v vs _ _ L M h1 h2 => exact ⟨L, [], M, rfl, fun {H' d' v' A} k t => (show TpAll K F H' (v' :: vs) (d' :: ds) (A ++ M) from .cons t (tpa_mono (Same.refl _) _ _ _ (fun a ha => k a ha) h2))⟩
  | d0 :: ds, _, _, j + 1, h, e => by
    cases h with
    | @cons v vs _ _ L M h1 h2 =>
      obtain ⟨Lj, M1, M2, rfl, e4⟩ := tpa_put (j := j) h2 (by simpa using e)
      refine ⟨Lj, L ++ M1, M2, by simp, fun {H' d' v' A} k t => ?_⟩
      rw [List.append_assoc]
      exact .cons (tp_mono (Same.refl _) _ _ _ (fun a ha => k a (by simp [ha])) h1) (e4 (fun a ha => k a (by rw [List.append_assoc]; exact List.mem_append_right _ ha)) t)
theorem mk_all {n : Nat} {e1 e2 e4 e5 : Expr} {p1 p2 p3 p4 p5 : Pos} {a : List Stmt} {sk sx sr : Stmt} {tc1 tc2 : TT} {tis : TE} {tA : TS} {vs : List V} {H : Hp} {Q : VK} {E : XK}
    (h1 : RT X.nox e1 tc1 (mBorT (mT (mIsi "list" (mVar 0)))))
    (h2 : RT X.nox e2 tc2 (mAndT (mBorT (mT (mOp fNe (mVar 0) (mFrz (mLst mNil))))) (mBorT (mT (mOp fEq (mIxV 0 (mNeg (mC (.int 1)))) (mC (.str "marked")))))))
    (h4 : RE X.nox e4 tis (mBor (mIsi "tuple" (mVar 0)))) (pA : PSs X.nox a tA)
    (pK : PS X.nox sk (tAsg (tLc (iList X.K (tVar 0)) (gName 2) tYes (tCall (spMk X.K n) [] E0 (tCons (tVar 2) tNil)) [2]) (gName 1)))
    (pX : PS X.nox sx (tDrop (tBM X.K "list" rAppend (tVar 0) (tCons (tC (.str "marked")) tNil))))
    (pR : PS X.nox sr (tRet (tOp (rInA X.K true) (tC (.bl false)) (tVar 1))))
    (pE : PE X.nox e5 (tOp (rInA X.K true) (tC (.bl false)) (tLc (iTup X.K (tVar 0)) (gName 2) tYes (tCall (spMk X.K n) [] E0 (tCons (tVar 2) tNil)) [2])))
    (h : spMk X.K (n + 1) vs H Q E) : ∃ t, PSs X [.If e1 [.If e2 a [] p2, sk, sx, sr] [] p1, .Return (some (.BoolOp .Or [.UnaryOp .Not e4 p5, e5] p4)) p3] t ∧ t { nx := fun _ H' => Q .non H', rt := Q } (L2.start ["told", "kept", "item"] vs) H :=
  ⟨_, PSs.nox (pss_cons (ps_if h1.pt (pss_cons (ps_if h2.pt pA pss_nil) (pss_cons pK (pss_cons pX (pss_one pR)))) pss_nil) (pss_one (ps_ret (pe_or (pe_not h4.pe) (pe_one pE))))), mk_read h1.sn h2.sn h4.sn (opv_inA true) h⟩
/-! x[i] = new list, on nested data of its own -/
def mSetIxT (i : Nat) (m : MN) (mb : ME) : MS := fun δ => match m δ with
  | .ok (s, δ1) => (match toT s with
    | .ok d => (match δ1[i]? with
      | some (.tree (.list _)) => (match mb δ1 with
        | .ok (.int k, δ2) => (match δ2[i]? with
          | some (.tree (.list ds)) => (match ixN ds.length k with
            | some j => .ok (.nx, δ2.set i (.tree (.list (ds.set j d))))
            | none => .no)
          | _ => .no)
        | .err c d => .err c d
        | _ => .no)
      | _ => .no)
    | .err c d => .err c d
    | .no => .no)
  | .err c d => .err c d
  | .no => .no
open Classical in
theorem sn_setIxT {t tb : TE} {m : MN} {mb : ME} {i : Nat} (h : SndN K mg t m) (hb : SndE K mg tb mb) : SndS K mg (tAsg t (gSub (tVar i) tb rSetL)) (mSetIxT i m mb) := fun {ρ Fr F δ σ H c δ'} r e {D} q => by
  unfold mSetIxT at e
  split at e
  · rename_i s δ1 e1
    split at e
    · rename_i d e2
      split at e
      · rename_i ds0 e3
        split at e
        · rename_i k δ2 e4
          split at e
          · rename_i ds e3'
            split at e
            · rename_i j e5
              cases e
              refine h r e1 fun F1 v H1 s1 r1 => ?_
              obtain ⟨Fr', k1, k2⟩ := r1.hide1
              obtain ⟨L0, h1, _, _⟩ := k1.own
              obtain ⟨o', L1, Li, L2, g1, rfl, ⟨v0, rfl, tp⟩, _⟩ := slotsR_at h1 e3
              refine ⟨v0, g1, hb k1 e4 fun F2 u H2 s2 r2 d2 => ?_⟩
              cases d2
              have r3 := k2 s2 r2
              obtain ⟨L0, ⟨A, B, rfl, a1, a2⟩, h2, h3⟩ := r3.own
              obtain ⟨o', L1, Li, L2, g1', rfl, ⟨v0', rfl, tp⟩, g4⟩ := slotsR_at a2 e3'
              rw [g1] at g1'
              cases g1'
              cases tp with
              | sc _ z => cases z
              | @lst p ws _ M b1 ta =>
                have hj : j < ds.length := CW.ixN_ltT e5
                obtain ⟨Lj, M1, M2, rfl, b2⟩ := tpa_put ta hj
                have tv := slot_toT e2 a1
                have hp := h3 p (by simp)
                have hne : ∀ a ∈ (A ++ (L1 ++ (M1 ++ (Lj ++ M2)) ++ L2)), a ≠ p := by
                  intro a ha z
                  subst z
                  have nd := h2
                  have pm : (A ++ (L1 ++ (a :: (M1 ++ (Lj ++ M2)) ++ L2))).Perm (a :: (A ++ (L1 ++ (M1 ++ (Lj ++ M2)) ++ L2))) := by
                    have := @List.perm_middle _ a (A ++ L1) ((M1 ++ (Lj ++ M2)) ++ L2)
                    simpa using this
                  exact (List.nodup_cons.mp (pm.nodup_iff.mp nd)).1 ha
                refine ⟨_, _, _, j, rfl, rfl, b1, by rw [tpa_len ta]; exact e5, q F2 σ _ (s1.trans s2) ?_⟩
                refine ⟨fun a u z => ?_, fun a u z => ?_, r3.dis, L1 ++ ((p :: (M1 ++ (A ++ M2))) ++ L2), ?_, ?_, fun a ha => h3 a ?_⟩
                · rw [upd_ne (ne_of_none z hp.1)]; exact r3.sub a u z
                · rw [upd_ne (ne_of_none z hp.2)]; exact r3.fr a u z
                · have z := g4 (F' := F2) (H' := upd H2 p (.lst (ws.set j v))) (Same.refl _) (fun a ha => upd_ne (hne a (by rcases List.mem_append.mp ha with w | w <;> simp [w]))) (.tree (.list (ds.set j d))) (some (.ref p)) (p :: (M1 ++ (A ++ M2))) ⟨_, rfl, .lst upd_same (b2 (fun a ha => upd_ne (hne a (by rcases List.mem_append.mp ha with w | w <;> simp [w]))) (tp_mono (Same.refl _) _ _ _ (fun a ha => upd_ne (hne a (by simp [ha]))) tv))⟩
                  rw [set_self g1] at z
                  exact z
                · have pm : (A ++ (L1 ++ ((p :: (M1 ++ (Lj ++ M2))) ++ L2))).Perm (Lj ++ (L1 ++ ((p :: (M1 ++ (A ++ M2))) ++ L2))) := by
                    classical
                    rw [List.perm_iff_count]
                    intro x
                    simp [List.count_append, List.count_cons]
                    omega
                  exact (List.nodup_append.mp (pm.nodup_iff.mp h2)).2.1
                · simp only [List.mem_append, List.mem_cons] at ha ⊢
                  rcases ha with z | (z | z | z | z) | z <;> simp [z]
            · cases e
          · cases e
        · cases e
        · cases e
      · cases e
    · cases e
    · cases e
  · cases e
  · cases e
theorem rs_setIxT (i : Nat) {x : Str} {b e : Expr} {t tb : TE} {m : MN} {mb : ME} {p1 p pos : Pos} (h : RN X e t m) (hb : RE X b tb mb) (hN : X.N[i]? = some x := by rfl) (hv : Vis X.env.scope x := by first | exact Or.inl rfl | exact Or.inr (Or.inl rfl) | exact Or.inr (Or.inr rfl)) (hd : (x == ("__debug__" : Str)) = false := by decide)
    (hcd : (x == ("__classdict__" : Str)) = false := by decide)
    (ha : ∀ v, assign (.Subscript (.Name x p1) b p) X.env v = (do
      let ov ← holding [v] (eval (.Name x p1) X.env)
      let iv ← holding [v, ov] (eval b X.env)
      standAt p
      holding [v, ov, iv] (setItem ov iv v)
      release [v, ov, iv] []) := by intro _; rfl)
    (hs : swapsWithSole [.Subscript (.Name x p1) b p] e pos.line X.env = pure false := by rfl) (hw : swappedStores [.Subscript (.Name x p1) b p] e X.env = pure none := by rfl)
    (h1 : (assignEach [.Subscript (.Name x p1) b p] X.env).map (·.2) = [assign (.Subscript (.Name x p1) b p) X.env] := by rfl) :
    RS X (.Assign [.Subscript (.Name x p1) b p] e pos) (tAsg t (gSub (tVar i) tb rSetL)) (mSetIxT i m mb) := ⟨ps_asg h.pe (pg_sub (pe_var hN hv hd hcd) hb.pe set_list ha) hs hw h1, sn_setIxT h.sn hb.sn⟩
theorem ev_setIxT {i : Nat} {m : MN} {mb : ME} {δ δ1 δ3 : Ev} {s : Sl} {d : PyData} {ds : List PyData} {k : Int} {j : Nat} (h : m δ = .ok (s, δ1)) (h2 : toT s = .ok d) (h3 : δ1[i]? = some (.tree (.list ds))) (h4 : mb δ1 = .ok (.int k, δ1)) (h5 : ixN ds.length k = some j)
    (h6 : δ1.set i (.tree (.list (ds.set j d))) = δ3) : mSetIxT i m mb δ = .ok (.nx, δ3) := by
  unfold mSetIxT
  rw [h]; simp only []
  rw [h2]; simp only []
  rw [h3]; simp only []
  rw [h4]; simp only []
  rw [h3]; simp only []
  rw [h5]; simp only []
  rw [h6]
end
end CW

namespace CW
open PySem PySem.Spec PyProof.Rows L2
section
variable {X : Cx} {K : PySem.W.Frag} {mg : Str → Option Value}
theorem tp_list {F H : Hp} {v : V} {ds : List PyData} {L : List Addr} (h : Tp K F H v (.list ds) L) : ∃ p ws M, v = .ref p ∧ H p = some (.lst ws) ∧ L = p :: M ∧ TpAll K F H ws ds M := by
  cases h with
  | sc _ z => cases z
  | @lst p ws _ M e1 ta => exact ⟨p, ws, M, rfl, e1, rfl, ta⟩
/-! a sum of two lists with rows of their own -/
def mAddT (m1 m2 : MN) : MN := fun δ => match m1 δ with
  | .ok (s1, δ1) => (match m2 δ1 with
    | .ok (s2, δ2) => (match toT s1, toT s2 with
      | .ok (.list a), .ok (.list b) => if a.length + b.length ≤ 100000 then .ok (.tree (.list (a ++ b)), δ2) else .no
      | _, _ => .no)
    | .err c d => .err c d
    | .no => .no)
  | .err c d => .err c d
  | .no => .no
theorem sn_addT {t1 t2 : TE} {m1 m2 : MN} (h1 : SndN K mg t1 m1) (h2 : SndN K mg t2 m2) : SndN K mg (tOp (rCatS K) t1 t2) (mAddT m1 m2) := fun {ρ Fr F δ σ H s δ'} r e {Q} q => by
  unfold mAddT at e
  split at e
  · rename_i s1 δ1 e1
    split at e
    · rename_i s2 δ2 e2
      split at e
      · rename_i a b ea eb
        split at e
        · rename_i hz
          cases e
          refine h1 r e1 fun F1 v H1 t1 r1 => ?_
          obtain ⟨Fr', k1, k2⟩ := r1.hide1
          refine h2 k1 e2 fun F2 w H2 t2 r2 => ?_
          have r3 := k2 t2 r2
          obtain ⟨L, ⟨A, B0, rfl, a1, ⟨B, C, rfl, b1, c1⟩⟩, hn, hav⟩ := r3.own
          obtain ⟨p1, ws1, M1, rfl, hp1, rfl, ta1⟩ := tp_list (slot_toT ea a1)
          obtain ⟨p2, ws2, M2, rfl, hp2, rfl, ta2⟩ := tp_list (slot_toT eb b1)
          refine ⟨p1, p2, ws1, ws2, rfl, rfl, SqL.of hp1, SqL.of hp2, by rw [tpa_len ta1, tpa_len ta2, sizeLine_eq]; omega, fun p hp => ?_⟩
          have mem : ∀ x ∈ M1 ++ (M2 ++ C), x ∈ (p1 :: M1) ++ ((p2 :: M2) ++ C) := fun x hx => by
            simp only [List.mem_append, List.mem_cons] at hx ⊢
            rcases hx with z | z | z <;> simp [z]
          have hL : ∀ x ∈ M1 ++ (M2 ++ C), x ≠ p := fun x hx => by
            obtain ⟨us, e4⟩ := slotsR_mem (show SlotsR K mg ρ F2 H2 (s1 :: s2 :: δ') (some (.ref p1) :: some (.ref p2) :: _) _ from ⟨p1 :: M1, (p2 :: M2) ++ C, rfl, a1, ⟨p2 :: M2, C, rfl, b1, c1⟩⟩) (mem x hx)
            exact ne_of_none e4 hp
          have hne : ∀ x ∈ M1 ++ (M2 ++ C), upd H2 p (.lst (ws1 ++ ws2)) x = H2 x := fun x hx => upd_ne (hL x hx)
          refine q F2 _ _ (t1.trans t2) ⟨r3.sub.trans (same_upd hp), r3.fr.trans (same_upd hp), r3.dis, (p :: (M1 ++ M2)) ++ C, ⟨p :: (M1 ++ M2), C, rfl, ⟨_, rfl, .lst upd_same (tpa_app (tpa_mono (Same.refl _) _ _ _ (fun x hx => hne x (by simp [hx])) ta1) (tpa_mono (Same.refl _) _ _ _ (fun x hx => hne x (by simp [hx])) ta2))⟩, slotsR_mono (Same.refl _) (fun x hx => hne x (by simp [hx])) c1⟩, ?_, fun x hx => ?_⟩
          · rw [List.cons_append, List.append_assoc]
            have sb : (M1 ++ (M2 ++ C)).Sublist ((p1 :: M1) ++ ((p2 :: M2) ++ C)) := List.Sublist.append (List.sublist_cons_self ..) (List.Sublist.append (List.sublist_cons_self ..) (List.Sublist.refl _))
            exact List.nodup_cons.mpr ⟨fun z => hL p z rfl, hn.sublist sb⟩
          · rw [List.cons_append, List.append_assoc] at hx
            rcases List.mem_cons.mp hx with z | z
            · rw [z]; exact ⟨r3.fF hp, r3.fFr hp⟩
            · exact hav x (mem x z)
        · cases e
      · cases e
    · cases e
    · cases e
  · cases e
  · cases e
theorem rn_addT {a b : Expr} {ta tb : TE} {ma mb : MN} {pos : Pos} (ha : RN X a ta ma) (hb : RN X b tb mb) : RN X (.BinOp a .Add b pos) (tOp (rCatS X.K) ta tb) (mAddT ma mb) := ⟨pe_op op_catS ha.pe hb.pe, sn_addT ha.sn hb.sn⟩
/-! x + [e], where x is used up: its items go into the new list -/
def mAddX (i : Nat) (m : MN) : MN := fun δ => match δ[i]? with
  | some (.tree (.list _)) => (match m δ with
    | .ok (s, δ1) => (match toT s with
      | .ok d => (match δ1[i]? with
        | some (.tree (.list ds)) => if ds.length ≤ 100000 then .ok (.tree (.list (ds ++ [d])), δ1.set i .emp) else .no
        | _ => .no)
      | .err c d => .err c d
      | .no => .no)
    | .err c d => .err c d
    | .no => .no)
  | _ => .no
theorem sn_addX {t : TE} {m : MN} {i : Nat} (h : SndN K mg t m) : SndN K mg (tOp (rCatS K) (tVar i) (tLst (tCons t tNil))) (mAddX i m) := fun {ρ Fr F δ σ H s δ'} r e {Q} q => by
  unfold mAddX at e
  split at e
  · rename_i ds0 e0
    split at e
    · rename_i s1 δ1 e1
      split at e
      · rename_i d e2
        split at e
        · rename_i ds e3
          split at e
          · rename_i hz
            cases e
            obtain ⟨L0, g0, _, _⟩ := r.own
            obtain ⟨o0, _, _, _, g1, _, ⟨v0, rfl, tp0⟩, _⟩ := slotsR_at g0 e0
            refine ⟨v0, g1, ?_⟩
            unfold tLst tCons tNil
            refine h r e1 fun F1 v H1 t1 r1 => ?_
            refine ⟨by rw [sizeLine_eq]; simp, fun p hp => ?_⟩
            obtain ⟨L, ⟨A, B0, rfl, a1, a2⟩, hn, hav⟩ := r1.own
            obtain ⟨o', L1, Li, L2, g1', rfl, ⟨v0', rfl, tp⟩, g4⟩ := slotsR_at a2 e3
            rw [g1] at g1'
            cases g1'
            obtain ⟨p0, ws, M, rfl, hp0, rfl, ta⟩ := tp_list tp
            have tv := slot_toT e2 a1
            have all : ∀ x ∈ A ++ (L1 ++ ((p0 :: M) ++ L2)), x ≠ p := fun x hx => by
              obtain ⟨us, e4⟩ := slotsR_mem (show SlotsR K mg ρ F1 H1 (s1 :: δ1) (some v :: σ) _ from ⟨A, _, rfl, a1, a2⟩) hx
              exact ne_of_none e4 hp
            have h0 : upd H1 p (.lst [v]) p0 = some (.lst ws) := by rw [upd_ne (all p0 (by simp))]; exact hp0
            refine ⟨p0, p, ws, [v], rfl, rfl, SqL.of h0, SqL.of upd_same, by rw [tpa_len ta, sizeLine_eq]; simp; omega, fun D hD => ?_⟩
            have hDp : D ≠ p := fun z => by rw [z, upd_same] at hD; cases hD
            have hD1 : H1 D = none := by rw [upd_ne hDp] at hD; exact hD
            have all2 : ∀ x ∈ A ++ (L1 ++ ((p0 :: M) ++ L2)), x ≠ D := fun x hx => by
              obtain ⟨us, e4⟩ := slotsR_mem (show SlotsR K mg ρ F1 H1 (s1 :: δ1) (some v :: σ) _ from ⟨A, _, rfl, a1, a2⟩) hx
              exact ne_of_none e4 hD1
            have hne : ∀ x ∈ A ++ (L1 ++ ((p0 :: M) ++ L2)), upd (upd H1 p (.lst [v])) D (.lst (ws ++ [v])) x = H1 x := fun x hx => by
              rw [upd_ne (all2 x hx), upd_ne (all x hx)]
            have sm : Same H1 (upd (upd H1 p (.lst [v])) D (.lst (ws ++ [v]))) := (same_upd hp).trans (same_upd hD)
            have z := g4 (F' := F1) (H' := upd (upd H1 p (.lst [v])) D (.lst (ws ++ [v]))) (Same.refl _) (fun a ha => hne a (by rcases List.mem_append.mp ha with w | w <;> simp [w])) .emp (some (.ref p0)) [] rfl
            rw [set_self g1] at z
            have tn : TpAll K F1 (upd (upd H1 p (.lst [v])) D (.lst (ws ++ [v]))) (ws ++ [v]) (ds ++ [d]) (M ++ (A ++ [])) := tpa_app (tpa_mono (Same.refl _) _ _ _ (fun x hx => hne x (by simp [hx])) ta) (.cons (tp_mono (Same.refl _) _ _ _ (fun x hx => hne x (by simp [hx])) tv) .nil)
            rw [List.append_nil] at tn
            refine q F1 _ _ t1 ⟨r1.sub.trans sm, r1.fr.trans sm, r1.dis, (D :: (M ++ A)) ++ (L1 ++ ([] ++ L2)), ⟨D :: (M ++ A), _, rfl, ⟨_, rfl, .lst upd_same tn⟩, z⟩, ?_, fun x hx => ?_⟩
            · rw [List.cons_append]
              refine List.nodup_cons.mpr ⟨fun y => ?_, ?_⟩
              · refine all2 D ?_ rfl
                simp only [List.mem_append, List.mem_cons, List.nil_append] at y ⊢
                rcases y with (y | y) | y | y <;> simp [y]
              · have pm : (p0 :: ((M ++ A) ++ (L1 ++ ([] ++ L2)))).Perm (A ++ (L1 ++ ((p0 :: M) ++ L2))) := by
                  classical
                  rw [List.perm_iff_count]
                  intro x
                  simp [List.count_append, List.count_cons]
                  omega
                exact (List.nodup_cons.mp (pm.nodup_iff.mpr hn)).2
            · rw [List.cons_append] at hx
              rcases List.mem_cons.mp hx with y | y
              · rw [y]; exact ⟨r1.fF hD1, r1.fFr hD1⟩
              · refine hav x ?_
                simp only [List.mem_append, List.mem_cons, List.nil_append] at y ⊢
                rcases y with (y | y) | y | y <;> simp [y]
          · cases e
        · cases e
      · cases e
      · cases e
    · cases e
    · cases e
  · cases e
theorem rn_addX (i : Nat) {x : Str} {e : Expr} {t : TE} {m : MN} {p1 p2 pos : Pos} (h : RN X e t m) (hN : X.N[i]? = some x := by rfl) (hv : Vis X.env.scope x := by first | exact Or.inl rfl | exact Or.inr (Or.inl rfl) | exact Or.inr (Or.inr rfl)) (hd : (x == ("__debug__" : Str)) = false := by decide)
    (hcd : (x == ("__classdict__" : Str)) = false := by decide) (hs : starEach [e] X.env = (false, eval e X.env) :: starEach [] X.env := by rfl) : RN X (.BinOp (.Name x p1) .Add (.List [e] p2) pos) (tOp (rCatS X.K) (tVar i) (tLst (tCons t tNil))) (mAddX i m) :=
  ⟨pe_op op_catS (pe_var hN hv hd hcd) (pe_lst (pa_cons h.pe pa_nil hs)), sn_addX h.sn⟩
/-! a part of new nested data -/
def mPrT (k : Int) (m : MN) : MN := fun δ => match m δ with
  | .ok (s, δ1) => (match toT s with
    | .ok (.tuple ds) => (match atI ds k with
      | some d => .ok (.tree d, δ1)
      | none => .no)
    | _ => .no)
  | .err c d => .err c d
  | .no => .no
theorem sn_prT {t : TE} {m : MN} {k : Int} (h : SndN K mg t m) : SndN K mg (tOp (rIx K) t (tC (.int k))) (mPrT k m) := fun {ρ Fr F δ σ H s δ'} r e {Q} q => by
  unfold mPrT at e
  split at e
  · rename_i s1 δ1 e1
    split at e
    · rename_i ds e2
      split at e
      · rename_i d e3
        cases e
        refine h r e1 fun F1 v H1 t1 r1 => ?_
        obtain ⟨L, ⟨A, B, rfl, a1, a2⟩, hn, hav⟩ := r1.own
        obtain ⟨a, xs, rfl, sq, ta⟩ := tp_tup (slot_toT e2 a1)
        unfold atI at e3
        cases hj : ixN ds.length k with
        | none => rw [hj] at e3; cases e3
        | some j =>
          rw [hj] at e3
          obtain ⟨w, Lj, M1, M2, w1, rfl, w2, _⟩ := tpa_at ta e3
          have ix : atI xs k = some w := by
            unfold atI
            rw [tpa_len ta, hj]
            exact w1
          refine .inr (.inl ⟨_, _, _, _, rfl, rfl, sqT_mono r1.sub sq, ix, ?_⟩)
          refine q F1 _ _ t1 ⟨r1.sub, r1.fr, r1.dis, Lj ++ B, ⟨Lj, B, rfl, ⟨_, rfl, w2⟩, a2⟩, ?_, fun x hx => hav x ?_⟩
          · refine hn.sublist ?_
            refine List.Sublist.append ?_ (List.Sublist.refl _)
            exact (List.sublist_append_left Lj M2).trans (List.sublist_append_right M1 (Lj ++ M2))
          · rcases List.mem_append.mp hx with z | z <;> simp [z]
      · cases e
    · cases e
  · cases e
  · cases e
theorem rn_prT {e : Expr} {t : TE} {m : MN} {k : Int} {j cp pos} (h : RN X e t m) (hs : PlainIx (.Constant (.int k) j cp) := by exact fun _ _ => rfl) : RN X (.Subscript e (.Constant (.int k) j cp) pos) (tOp (rIx X.K) t (tC (.int k))) (mPrT k m) := ⟨pe_ix ix_seq h.pe pe_int hs, sn_prT h.sn⟩
section
variable {δ δ1 δ2 δ3 : Ev} {s s1 s2 : Sl} {m m1 m2 : MN} {d : PyData} {a b ds ds0 : List PyData} {i : Nat} {k : Int}
theorem ev_addT (h1 : m1 δ = .ok (s1, δ1)) (h2 : m2 δ1 = .ok (s2, δ2)) (h3 : toT s1 = .ok (.list a)) (h4 : toT s2 = .ok (.list b)) (h5 : a.length + b.length ≤ 100000) : mAddT m1 m2 δ = .ok (.tree (.list (a ++ b)), δ2) := by
  unfold mAddT
  rw [h1]; simp only []
  rw [h2]; simp only []
  rw [h3, h4]; simp only []
  rw [if_pos h5]
theorem ev_addX (h0 : δ[i]? = some (.tree (.list ds0))) (h : m δ = .ok (s, δ1)) (h2 : toT s = .ok d) (h3 : δ1[i]? = some (.tree (.list ds))) (h4 : ds.length ≤ 100000) (h5 : δ1.set i .emp = δ2) : mAddX i m δ = .ok (.tree (.list (ds ++ [d])), δ2) := by
  unfold mAddX
  rw [h0]; simp only []
  rw [h]; simp only []
  rw [h2]; simp only []
  rw [h3]; simp only []
  rw [if_pos h4, h5]
theorem ev_prT (h : m δ = .ok (s, δ1)) (h2 : toT s = .ok (.tuple ds)) (h3 : atI ds k = some d) : mPrT k m δ = .ok (.tree d, δ1) := by
  unfold mPrT
  rw [h]; simp only []
  rw [h2]; simp only []
  rw [h3]
end
end
end CW

namespace CW
open PySem PySem.Spec PyProof.Rows L2
section
variable {X : Cx} {K : PySem.W.Frag} {mg : Str → Option Value}
/-! a name whose data is frozen for a while and told by its address -/
def mVk (i : Nat) : ME := fun δ => match δ[i]? with
  | some (.vk _ d) => .ok (d, δ)
  | _ => .no
theorem sn_vk (i : Nat) : SndE K mg (tVar i) (mVk i) := fun {ρ Fr F δ σ H d δ'} r e {Q} q => by
  unfold mVk at e
  split at e
  · rename_i k d0 e0
    cases e
    obtain ⟨L, h1, h2, h3⟩ := r.own
    obtain ⟨o, L1, Li, L2, e1, e2, ⟨_, rfl, e3⟩, _⟩ := slotsR_at h1 e0
    exact ⟨_, e1, q F _ H (Same.refl _) r e3⟩
  · cases e
theorem re_vk (i : Nat) {x : Str} {pos : Pos} (hN : X.N[i]? = some x := by rfl) (hv : Vis X.env.scope x := by first | exact Or.inl rfl | exact Or.inr (Or.inl rfl) | exact Or.inr (Or.inr rfl)) (hd : (x == ("__debug__" : Str)) = false := by decide)
    (hcd : (x == ("__classdict__" : Str)) = false := by decide) : RE X (.Name x pos) (tVar i) (mVk i) := ⟨pe_var hN hv hd hcd, sn_vk i⟩
/-- slots that may stay behind the loan -/
def keepP : Sl → Option Sl
  | .emp => some .emp
  | .val d => if scD d = true then some (.val d) else some .emp
  | .own xs => if scA xs = true then some (.own xs) else none
  | .io k xs => if k = 1 then none else if scA xs = true then some (.io k xs) else none
  | .fn x => some (.fn x)
  | .tree _ => none
  | .vk _ _ => none
def keepPs : Ev → Option Ev
  | [] => some []
  | s :: ss => match keepP s, keepPs ss with
    | some t, some ts => some (t :: ts)
    | _, _ => none
/-- no slot is told by key 1 -/
def noKey : Ev → Bool
  | [] => true
  | .io k _ :: ss => decide (k ≠ 1) && noKey ss
  | .vk _ _ :: _ => false
  | _ :: ss => noKey ss
theorem slots_rho {ρ ρ' : Nat → Addr} (hρ : ∀ k, k ≠ 1 → ρ' k = ρ k) {F F' H : Hp} (e : Same F F') : ∀ {δ : Ev} {σ : L2.St} {L : List Addr}, noKey δ = true → SlotsR K mg ρ F H δ σ L → SlotsR K mg ρ' F' H δ σ L
  | [], [], _, _, h => h
  | [], _ :: _, _, _, h => h.elim
  | _ :: _, [], _, _, h => h.elim
  | s :: ss, o :: os, _, k, h => by
    obtain ⟨L1, L2, rfl, h1, h2⟩ := h
    have h1' := slotR_mono (H' := H) e (fun _ _ => rfl) h1
    cases s with
    | emp => exact ⟨L1, L2, rfl, h1', slots_rho hρ e k h2⟩
    | val d => exact ⟨L1, L2, rfl, h1', slots_rho hρ e k h2⟩
    | own xs => exact ⟨L1, L2, rfl, h1', slots_rho hρ e k h2⟩
    | fn x => exact ⟨L1, L2, rfl, h1', slots_rho hρ e k h2⟩
    | tree d => exact ⟨L1, L2, rfl, h1', slots_rho hρ e k h2⟩
    | vk j d => cases k
    | io j xs =>
      unfold noKey at k
      rw [Bool.and_eq_true, decide_eq_true_eq] at k
      refine ⟨L1, L2, rfl, ?_, slots_rho hρ e k.2 h2⟩
      show o = some (.ref (ρ' j)) ∧ L1 = [ρ' j] ∧ ∃ vs, H (ρ' j) = some (.lst vs) ∧ DpAll K F' vs xs
      rw [hρ j k.1]
      exact h1'
theorem slots_keep {ρ ρ' : Nat → Addr} (hρ : ∀ k, k ≠ 1 → ρ' k = ρ k) {F H : Hp} {Li : List Addr} (hL : ∀ a ∈ Li, ∃ vs, F a = some (.lst vs)) : ∀ {δ δ2 : Ev} {σ : L2.St} {L : List Addr}, keepPs δ = some δ2 → SlotsR K mg ρ' F H δ σ L → ∃ L', SlotsR K mg ρ (less F Li) H δ2 σ L' ∧ L'.Sublist L
  | [], δ2, [], L, e, h => by
    cases e
    exact ⟨L, h, List.Sublist.refl _⟩
  | [], _, _ :: _, _, _, h => h.elim
  | _ :: _, _, [], _, _, h => h.elim
  | s :: ss, δ2, o :: os, _, e, h => by
    obtain ⟨L1, L2, rfl, h1, h2⟩ := h
    unfold keepPs at e
    split at e
    · rename_i t ts e1 e2
      cases e
      obtain ⟨M2, g2, s2⟩ := slots_keep hρ hL e2 h2
      have key : ∃ M1, SlotR K mg ρ (less F Li) H t o M1 ∧ M1.Sublist L1 := by
        cases s with
        | emp => cases e1; exact ⟨L1, h1, List.Sublist.refl _⟩
        | val d =>
          unfold keepP at e1
          simp only [] at e1
          obtain ⟨rfl, v, a, b⟩ := h1
          split at e1
          · rename_i hs
            cases e1
            exact ⟨[], ⟨rfl, v, a, dp_less hL d v hs b⟩, List.Sublist.refl _⟩
          · cases e1
            exact ⟨[], rfl, List.Sublist.refl _⟩
        | own xs =>
          unfold keepP at e1
          simp only [] at e1
          split at e1
          · rename_i hs
            cases e1
            obtain ⟨p, vs, a, rfl, b, c⟩ := h1
            exact ⟨[p], ⟨p, vs, a, rfl, b, dpa_less hL xs vs hs c⟩, List.Sublist.refl _⟩
          · cases e1
        | io j xs =>
          unfold keepP at e1
          simp only [] at e1
          split at e1
          · cases e1
          · rename_i hj
            split at e1
            · rename_i hs
              cases e1
              obtain ⟨a, rfl, vs, b, c⟩ := h1
              rw [hρ j hj] at a b ⊢
              exact ⟨[ρ j], ⟨a, rfl, vs, b, dpa_less hL xs vs hs c⟩, List.Sublist.refl _⟩
            · cases e1
        | fn x => cases e1; exact ⟨L1, h1, List.Sublist.refl _⟩
        | tree d => cases e1
        | vk j d => cases e1
      obtain ⟨M1, g1, s1⟩ := key
      exact ⟨M1 ++ M2, ⟨M1, M2, rfl, g1, g2⟩, List.Sublist.append s1 s2⟩
    · cases e
/-- a statement that looks at nested data of its own, lent for a while -/
def mPin (i : Nat) (m : MS) : MS := fun δ => match δ[i]? with
  | some (.tree d) => if (kidsD d).isSome = true ∧ noKey δ = true then (match m (δ.set i (.vk 1 d)) with
    | .ok (.nx, δ') => (match δ'[i]? with
      | some (.vk 1 _) => (match keepPs (δ'.set i .emp) with
        | some δ2 => .ok (.nx, δ2.set i (.tree d))
        | none => .no)
      | _ => .no)
    | .err c d => .err c d
    | _ => .no) else .no
  | _ => .no
open Classical in
theorem sn_pin {t : TS} {m : MS} {i : Nat} (h : SndS K mg t m) : SndS K mg t (mPin i m) := fun {ρ Fr F δ σ H c δ'} r e {D} q => by
  unfold mPin at e
  split at e
  · rename_i d e0
    split at e
    · rename_i hk
      obtain ⟨hk1, hk2⟩ := hk
      split at e
      · rename_i δ1 e1
        split at e
        · rename_i d9 e2
          split at e
          · rename_i δ2 e3
            cases e
            obtain ⟨L, h1, h2, h3⟩ := r.own
            obtain ⟨o, L1, Li, L2, g1, rfl, ⟨v, rfl, tp⟩, g4⟩ := slotsR_at h1 e0
            obtain ⟨a0, rfl⟩ : ∃ a0, v = .ref a0 := by
              cases d with
              | list ds =>
                obtain ⟨p, _, _, z, _⟩ := tp_list tp
                exact ⟨p, z⟩
              | tuple ds =>
                obtain ⟨p, _, z, _⟩ := tp_tup tp
                exact ⟨p, z⟩
              | none => cases hk1
              | bool b => cases hk1
              | int j => cases hk1
              | str x => cases hk1
              | dict x => cases hk1
            have n1 := List.nodup_append.mp h2
            have n2 := List.nodup_append.mp n1.2.1
            let F1 : Hp := fun a => if a ∈ Li then H a else F a
            have F1in : ∀ a ∈ Li, F1 a = H a := fun a ha => if_pos ha
            have F1out : ∀ a, a ∉ Li → F1 a = F a := fun a ha => if_neg ha
            have hF1 : Same F F1 := fun a u e => by
              have z : a ∉ Li := fun z => by rw [(h3 a (by simp [z])).1] at e; cases e
              rw [F1out a z]; exact e
            have subF1 : Same F1 H := fun a u e => by
              by_cases z : a ∈ Li
              · rw [F1in a z] at e; exact e
              · rw [F1out a z] at e; exact r.sub a u e
            let ρ1 : Nat → Addr := fun k => if k = 1 then a0 else ρ k
            have hρ : ∀ k, k ≠ 1 → ρ1 k = ρ k := fun k hk => if_neg hk
            have ρ11 : ρ1 1 = a0 := if_pos rfl
            -- the slots with the loan
            have z0 := g4 (F' := F) (H' := H) (Same.refl _) (fun _ _ => rfl) .emp (some (.ref a0)) [] rfl
            rw [set_self g1] at z0
            have nk : ∀ {δ : Ev} {i : Nat}, noKey δ = true → noKey (δ.set i .emp) = true := by
              intro δ
              induction δ with
              | nil => intro i h; exact h
              | cons s ss ih =>
                intro i h
                cases i with
                | zero =>
                  show noKey (.emp :: ss) = true
                  cases s <;> first | exact h | (unfold noKey at h; rw [Bool.and_eq_true] at h; exact h.2) | cases h
                | succ i =>
                  show noKey (s :: ss.set i .emp) = true
                  cases s <;> first | exact ih h | (unfold noKey at h ⊢; rw [Bool.and_eq_true] at h ⊢; exact ⟨h.1, ih h.2⟩) | cases h
            have z1 := slots_rho (K := K) (mg := mg) hρ hF1 (nk hk2) z0
            have e0' : (δ.set i Sl.emp)[i]? = some .emp := by
              have hl := (List.getElem?_eq_some_iff.mp e0).1
              rw [List.getElem?_set_self hl]
            obtain ⟨o', A1, Ai, A2, q1, q2, q3, q4⟩ := slotsR_at z1 e0'
            have q3' : Ai = [] := q3
            subst q3'
            rw [g1] at q1
            cases q1
            have dpv : Dp K F1 (.ref a0) d := tp_see hF1 d _ Li F1in tp
            have z2 := q4 (F' := F1) (H' := H) (Same.refl _) (fun _ _ => rfl) (.vk 1 d) (some (.ref a0)) [] ⟨rfl, by rw [ρ11], by rw [ρ11]; exact dpv⟩
            rw [List.set_set, set_self g1] at z2
            have LL : L1 ++ ([] ++ L2) = A1 ++ ([] ++ A2) := q2
            rw [← LL] at z2
            have r1 : Rel K mg ρ1 Fr F1 (δ.set i (.vk 1 d)) σ H := by
              refine ⟨subF1, r.fr, fun a ha => ?_, L1 ++ ([] ++ L2), z2, ?_, fun a ha => ?_⟩
              · by_cases z : a ∈ Li
                · exact absurd (h3 a (by simp [z])).2 ha
                · rw [F1out a z]; exact r.dis a ha
              · exact h2.sublist (List.Sublist.append (List.Sublist.refl _) (by simp))
              · have hm : a ∈ L1 ∨ a ∈ L2 := by simpa using ha
                have z : a ∉ Li := fun z => by
                  rcases hm with w | w
                  · exact n1.2.2 a w a (by simp [z]) rfl
                  · exact n2.2.2 a z a w rfl
                rw [F1out a z]
                exact h3 a (by rcases hm with w | w <;> simp [w])
            refine h r1 e1 ?_
            show ∀ F' σ' H', Same F1 F' → Rel K mg ρ1 Fr F' δ1 σ' H' → D.nx σ' H'
            intro F' σ' H' s' r'
            obtain ⟨M, k1, k2, k3⟩ := r'.own
            obtain ⟨o2, M1, Mi, M2, u1, rfl, ⟨rfl, rfl, _⟩, u4⟩ := slotsR_at k1 e2
            rw [ρ11] at u1
            have lsF : ∀ a ∈ Li, F' a = H a ∧ ∃ vs, F' a = some (.lst vs) := fun a ha => by
              obtain ⟨vs, ev⟩ := tp_mem _ _ _ tp a ha
              have y : F' a = some (.lst vs) := s' a _ (by rw [F1in a ha]; exact ev)
              exact ⟨by rw [y, ev], vs, y⟩
            have w0 := u4 (F' := F') (H' := H') (Same.refl _) (fun _ _ => rfl) .emp (some (.ref a0)) [] rfl
            rw [set_self u1] at w0
            obtain ⟨N, w1, w2⟩ := slots_keep (ρ := ρ) hρ (fun a ha => (lsF a ha).2) e3 w0
            have kl : ∀ {δ δ2 : Ev}, keepPs δ = some δ2 → δ2.length = δ.length := by
              intro δ
              induction δ with
              | nil => intro δ2 h; cases h; rfl
              | cons s ss ih =>
                intro δ2 h
                unfold keepPs at h
                split at h
                · rename_i e5
                  cases h
                  rw [List.length_cons, List.length_cons, ih e5]
                · cases h
            have ki : ∀ {δ δ2 : Ev} {i : Nat}, keepPs δ = some δ2 → δ[i]? = some .emp → δ2[i]? = some .emp := by
              intro δ
              induction δ with
              | nil => intro δ2 i _ h; simp at h
              | cons s ss ih =>
                intro δ2 i h h5
                unfold keepPs at h
                split at h
                · rename_i e4 e5
                  cases h
                  cases i with
                  | zero =>
                    simp at h5
                    subst h5
                    cases e4
                    rfl
                  | succ i => simpa using ih e5 (by simpa using h5)
                · cases h
            have hl1 := (List.getElem?_eq_some_iff.mp e2).1
            have e4 : δ2[i]? = some .emp := ki e3 (by rw [List.getElem?_set_self hl1])
            obtain ⟨o3, N1, Ni, N2, v1, rfl, v3, v4⟩ := slotsR_at w1 e4
            have v3' : Ni = [] := v3
            subst v3'
            rw [u1] at v1
            cases v1
            have Hl : ∀ a ∈ Li, H' a = H a := fun a ha => by
              obtain ⟨vs, ev⟩ := (lsF a ha).2
              rw [r'.sub a _ ev, ← ev, (lsF a ha).1]
            have lessF : Same F (less F' Li) := fun a u e => by
              have z : a ∉ Li := fun z => by rw [(h3 a (by simp [z])).1] at e; cases e
              show (if a ∈ Li then none else F' a) = _
              rw [if_neg z]
              exact s' a u (hF1 a u e)
            have tpn : Tp K (less F' Li) H' (.ref a0) d Li := tp_mono lessF d _ Li Hl tp
            have x0 := v4 (F' := less F' Li) (H' := H') (Same.refl _) (fun _ _ => rfl) (.tree d) (some (.ref a0)) Li ⟨_, rfl, tpn⟩
            rw [set_self u1] at x0
            have inN : ∀ a ∈ N1 ++ N2, a ∈ M1 ++ ([] ++ M2) := fun a ha => w2.subset (by simpa using ha)
            have dj : ∀ a ∈ N1 ++ N2, a ∉ Li := fun a ha z => by
              obtain ⟨vs, ev⟩ := (lsF a z).2
              rw [(k3 a (inN a ha)).1] at ev
              cases ev
            have ndN := k2.sublist w2
            have nn := List.nodup_append.mp (show (N1 ++ ([] ++ N2)).Nodup from ndN)
            refine q (less F' Li) σ' H' lessF ⟨fun a u e => ?_, r'.fr, fun a ha => ?_, N1 ++ (Li ++ N2), x0, ?_, fun a ha => ?_⟩
            · have e' : (if a ∈ Li then none else F' a) = some u := e
              split at e'
              · cases e'
              · exact r'.sub a u e'
            · show (if a ∈ Li then none else F' a) = none
              split
              · rfl
              · exact r'.dis a ha
            · refine List.nodup_append.mpr ⟨nn.1, List.nodup_append.mpr ⟨n2.1, (List.nodup_append.mp nn.2.1).2.1, fun a ha b hb z => ?_⟩, fun a ha b hb z => ?_⟩
              · subst z
                exact dj a (by simp [hb]) ha
              · subst z
                rcases List.mem_append.mp hb with w | w
                · exact dj a (by simp [ha]) w
                · exact nn.2.2 a ha a (by simpa using w) rfl
            · by_cases z : a ∈ Li
              · exact ⟨if_pos z, (h3 a (by simp [z])).2⟩
              · have hm : a ∈ N1 ++ N2 := by
                  simp only [List.mem_append] at ha ⊢
                  rcases ha with w | w | w
                  · exact .inl w
                  · exact absurd w z
                  · exact .inr w
                have y := k3 a (inN a hm)
                refine ⟨?_, y.2⟩
                show (if a ∈ Li then none else F' a) = none
                rw [if_neg z]; exact y.1
          · cases e
        · cases e
      · cases e
      · cases e
    · cases e
  · cases e
theorem RS.pin {st : Stmt} {t : TS} {m : MS} (i : Nat) (h : RS X st t m) : RS X st t (mPin i m) := ⟨h.ps, sn_pin h.sn⟩
theorem ev_vkv {δ : Ev} {i k : Nat} {d : PyData} (h : δ[i]? = some (.vk k d)) : mVk i δ = .ok (d, δ) := by
  unfold mVk
  rw [h]
theorem ev_pin {δ δ1 δ2 δ3 : Ev} {i : Nat} {d d2 : PyData} {m : MS} (h0 : δ[i]? = some (.tree d)) (h1 : (kidsD d).isSome = true) (h2 : noKey δ = true) (h3 : m (δ.set i (.vk 1 d)) = .ok (.nx, δ1)) (h4 : δ1[i]? = some (.vk 1 d2)) (h5 : keepPs (δ1.set i .emp) = some δ2) (h6 : δ2.set i (.tree d) = δ3) : mPin i m δ = .ok (.nx, δ3) := by
  unfold mPin
  rw [h0]; simp only []
  rw [if_pos ⟨h1, h2⟩, h3]; simp only []
  rw [h4]; simp only []
  rw [h5]; simp only []
  rw [h6]
end
end CW

namespace CW
open PySem PySem.Spec PyProof.Rows L2 PySem.Calls
/-! exceptions whose __init__ says super().__init__(value); self.value = value -/
/-- what is known of the class at C and of its __init__ at fI -/
structure XCls (file : Str) (K : PySem.W.Frag) (C fI : Addr) : Prop where
  ox : OexC K C
  xf : XfC K C
  ini : PySem.W.findIn K (.ref C) "__init__" = some (some (.ref fI))
  tyI : PySem.W.typeIn K (.ref fI) = some (.type "function")
  noV : PySem.W.findIn K (.ref C) "value" = some none
  sup : PySem.W.ks_superIn K C C "__init__" = some (some (.builtin "ValueError.__init__"))
  sub : PySem.W.subIn K (.ref C) (.type "ValueError") = some true
  mro : PySem.W.mroIn K C (.ref C) = some true
  opq : PySem.W.nsIn K cStatics "thirdparty.any" = some none
  fn : ∃ (fd : FuncData) (oc : Value) (od : Option Addr) (osl : Array (Option Value)) (cda cc dfa : Addr) (dn : Nat) (dl : Value) (dd : Option Addr) (dsl : Array (Option Value)) (p0 p1 ap vp cp ep sp avp v2p asp : Pos) (a0 a1 : Arg) (dfs : List Expr) (vs : Array Value) (tf : Tok) (kl cl : Value) (kd cd : Option Addr) (ks cs : Array (Option Value)),
    K.lookup fI = some ⟨oc, od, .func fd, osl⟩ ∧ fd.params = ⟨[], [a0, a1], none, [], [], none, dfs⟩ ∧ a0.arg = "self" ∧ a1.arg = "value" ∧
    fd.body = .stmts [.Expr (.Call (.Attribute (.Call (.Name "super" p0) [] [] p1) "__init__" ap) [.Name "value" vp] [] cp) ep, .Assign [.Attribute (.Name "self" sp) "value" avp] (.Name "value" v2p) asp] ∧
    fd.scope = ⟨.function, [("self", .local), ("value", .local), ("__class__", .free), ("super", .globalImplicit)], false, false, []⟩ ∧ fd.globals = mainGlobals ∧ fd.builtins = builtinsNs ∧ fd.closure = [(("__class__" : Str), cc)] ∧
    fd.code = .ref cda ∧ PySem.W.codeIn K fd.code fd.qualname = true ∧ K.lookup cda = some ⟨kl, kd, .fields vs, ks⟩ ∧ vs[2]? = some (.str file tf) ∧ K.lookup cc = some ⟨cl, cd, .cell (some (.ref C)), cs⟩ ∧ fd.defaults = .ref dfa ∧ K.lookup dfa = some ⟨dl, dd, .seq #[.none] dn, dsl⟩ ∧ (ap.endLine == cp.line) = true

theorem meth_line {o : Expr} {name : Str} {apos pos : Pos} {env : Env} {ov : Value} {n : Nat} {args : List (Bool × Sem Value)} {kws : List (Option Str × Sem Value)} (hline : (apos.endLine == pos.line) = true) (hf : methodCallForm n args kws = true) :
    methodCall o name apos pos env ov n args kws = (do
      let (f, first) ← holding [ov] (getMethod ov name (do return (← importBound o env).getD true))
      callWith pos f first args kws) := by
  have hp : methodCallPos true o env apos pos = pure pos := by unfold methodCallPos; simp [hline]
  unfold methodCall calleeOf
  rw [hf, if_pos rfl, hp]
  rfl
section
variable {prog : Program} {w : World} {A : Around} {R : Result → Shared → Prop} {h : Heap} {g : Array GenState} {d : Drawn} {t : Nat} {os : OsState} {K : PySem.W.Frag} {C fI e t0 : Addr} {v : Value} {mg mb : Str → Option Value}
theorem init_run {file : Str} (hfile : prog.main.file = file) (T : XCls file K C fI) (kin : K.In h) (lim : h.NoLimit) (hmg : h.Ns mainGlobals mg) (hsup : mg "super" = none) (hmb : h.Ns builtinsNs mb) (hsb : mb "super" = some (.type "super")) (htop : (prog.main.scope.names.lookup ("super" : Str)).isSome = false)
    (hKe : K.lookup e = none) (room : A.depth < recursionLimit) (he : h.get? e = some (PySem.HandSPX.excO C t0))
    (hq : ∀ h' tk' dx t1, (∀ b o, b ≠ e → h.get? b = some o → h'.get? b = some o) → h.objs.size ≤ dx → dx ≠ e → h'.get? e = some { cls := .ref C, dict := some dx, data := .fields #[.ref t1, .none, .none, .none, .bool false, .none] } →
      h'.Ns1 dx (fun y => if y = "value" then some v else none) → R (.ok (.ret .none)) ⟨h', g, d, tk', os⟩) :
    codeAny (model prog w) A (.call (.ref fI) ⟨[.ref e, v], []⟩) R ⟨h, g, d, t, os⟩ := by
  obtain ⟨fd, oc, od, osl, cda, cc, dfa, dn, dl, ddd, dsl, p0, p1, ap, vp, cp, ep, sp, avp, v2p, asp, a0, a1, dfs, vs, tf, kl, cl, kd, cd, ks, cs, l1, hpar, ha0, ha1, hbody, hsc, hgl, hbl, hclo, hcode, hcin, l2, hvs, l3, hdf, l4, hline⟩ := T.fn
  obtain ⟨nm, q, N, bs, bm, sn, sub, ab, col, dd, k0, k1, k2, k3, k5, hC, hbm⟩ := T.ox.cls
  obtain ⟨n1, n2, n3, n4, n5, n6, n7, n8, n9, n10, n11, n12, n13, n14, n15⟩ := fd
  dsimp only at hpar hbody hsc hgl hbl hclo hcode hcin hdf
  subst hpar hbody hsc hgl hbl hclo hcode hdf
  obtain ⟨x0, y0, z0⟩ := a0
  obtain ⟨x1, y1, z1⟩ := a1
  dsimp only at ha0 ha1
  subst ha0 ha1
  refine ks_codeAny_call_defAt (binds := [("self", .ref e), ("value", v)]) room (kin _ _ l1) rfl lim (PySem.W.codeRec_of kin hcin) rfl (BindsTo.of_defaults (T := dfa) rfl (kin _ _ l4) rfl rfl rfl) (fun x hx => ?_) (fun x hx => ?_) (fun h1 hns k1 => ?_) rfl rfl rfl
  · have hx2 : x ∈ ([("self", NameKind.local), ("value", NameKind.local), ("__class__", NameKind.free), ("super", NameKind.globalImplicit)] : List (Str × NameKind)) := hx
    clear hx
    revert x hx2
    decide
  · rcases List.mem_cons.mp hx with rfl | hx
    · rfl
    rcases List.mem_cons.mp hx with rfl | hx
    · rfl
    · cases hx
  have X1 : K.In h1 := kin.keeps k1
  have hsz : h.objs.size ≠ e := Nat.ne_of_gt (Heap.lt_size he)
  have he1 := k1 _ _ he
  have hmg1 : h1.Ns mainGlobals mg := hmg.at fun o z => k1 _ _ z
  have hmb1 : h1.Ns builtinsNs mb := hmb.at fun o z => k1 _ _ z
  have hC1 := X1 _ _ hC
  refine ks_wpAt_execs_cons (ks_wpAt_Expr_any (ks_wpAt_MethodCall (he := by
    rw [arm_eval_Call]
    refine congrArg _ (funext fun ov => congrArg _ (funext fun _ => ?_))
    exact meth_line hline rfl) (ks_wpAt_super_base (f := fI) (cc := cda) (ar := ⟨"self", y0, z0⟩) rfl rfl (by decide) rfl (X1 _ _ l1) rfl rfl rfl (X1 _ _ l2) rfl hvs (by simp [hfile]) htop ?_)))
  refine PySem.W.ks_loadName_global rfl rfl (loadGlobal_builtin hmg1 hsup hmb1 hsb ⟨rfl, ?_⟩)
  refine wpAny_loadName_free rfl rfl rfl ⟨_, X1 _ _ l3, rfl⟩ ?_
  refine wpAny_loadName_local rfl rfl hns rfl ?_
  refine ks_wpAny_isType_cls hC1 rfl ⟨rfl, ?_⟩
  refine ks_wpAny_call_super hC1 rfl he1 rfl (fun c z => by cases z) (PySem.W.looks_mroIn X1 T.mro) (fun h2 hso k2 => ?_)
  have X2 : K.In h2 := X1.keeps k2
  have he2 := k2 _ _ he1
  have IA : PySem.W.InstAt h2 e (PySem.HandSPX.excO C t0) C none := ⟨he2, rfl, rfl, trivial⟩
  have hI : PySem.W.Looks (model prog w) h2 (isInstance (.ref e) (.type "ValueError")) true := IA.type.andThen (PySem.W.looks_subIn X2 T.sub)
  have hcl : PySem.W.clsIn K C = some { name := nm, bases := bs, mro := .ref C :: bm, ns := N, qualname := q, hasDict := true, slotNames := sn, subclasses := sub, abstract := ab, collection := col, hasDel := false } := by unfold PySem.W.clsIn; rw [hC] <;> rfl
  have hal := T.sup
  unfold PySem.W.ks_superIn at hal
  rw [hcl] at hal
  refine PySem.W.kxs_getMethod PySem.W.kxs_ValueError hso (PySem.W.looks_opaque X2 T.opq) (l₀ := .ref C :: bm) (fun A Q E s k q => wpAny_bind ((PySem.W.looks_clsIn X2 hcl) A _ E s k (wpAny_pure q))) rfl X2 hal hI (PySem.W.ks_ne X2 IA hcl) (by decide) ?_
  refine PySem.W.kxs_callWith (i := "ValueError.__init__") (u := h2.objs.size) (x := e) rfl ?_
  refine evalArgs_plain (spliced_cons (wpAny_Name (wpAny_loadName_local rfl rfl (hns.at fun o z => ?_) rfl (spliced_nil ?_)) (by decide)))
  · exact Heap.get?_push_of_some _ (k2 _ _ z)
  refine ⟨Heap.get?_push_size h2 rfl, ?_⟩
  have he3 : (h2.push (PySem.W.kxs_mw "ValueError.__init__" e)).get? e = some (PySem.HandSPX.excO C t0) := Heap.get?_push_of_some _ he2
  have hu3 : (h2.push (PySem.W.kxs_mw "ValueError.__init__" e)).get? h2.objs.size = some (PySem.W.kxs_mw "ValueError.__init__" e) := Heap.get?_push_size h2 rfl
  have hC3 : (h2.push (PySem.W.kxs_mw "ValueError.__init__" e)).get? C = _ := Heap.get?_push_of_some _ (X2 _ _ hC)
  refine wpAny_call (codeAny_of_tree ?_)
  show wpAny _ _ (callAny (.ref h2.objs.size) ⟨[v], []⟩) _ _ _
  simp only [callAny]
  refine wpAny_bind (wpAny_load hu3 ?_)
  simp only [PySem.W.kxs_mw, show (Value.type "method-wrapper" == Value.type "method" || Value.type "method-wrapper" == Value.type "builtin_function_or_method" || Value.type "method-wrapper" == Value.type "method-wrapper") = true by decide, if_true]
  refine PySem.W.KFB.if_so (by decide) ?_
  refine wpAny_bind (PySem.W.check_bound_init F.excBase_ValueError.toExcCallFacts hC3 he3 rfl ?_)
  refine wpAny_bind (wpAny_pure (wpAny_pure ?_))
  refine ⟨plainId_quiet F.excBase_ValueError.init.plain _, codeAny_builtin F.excBase_ValueError.initEntry ?_⟩
  refine PySem.W.exc_init_tree (cls := .ref C) (t0 := t0) (dv := none) (c2 := .none) (c3 := .none) (b4 := .bool false) he3 (by show 1 ≤ sizeLine; rw [sizeLine_eq]; omega) (fun h4 k4 he4 _ => ?_)
  have keep : ∀ b o, b ≠ e → h1.get? b = some o → h4.get? b = some o := fun b o hb z => k4 b o hb (Heap.get?_push_of_some _ (k2 _ _ z))
  have X4 : K.In h4 := fun b o z => by
    have hb : b ≠ e := fun y => by rw [y, hKe] at z; cases z
    exact keep b o hb (X1 _ _ z)
  have hL : h.objs.size ≠ e := hsz
  have hns4 : h4.Ns h.objs.size (fun x => List.lookup x ([("self", Value.ref e), ("value", v)] : List (Str × Value)).reverse) := by
    obtain ⟨oL, es, ep, y, r⟩ := hns
    exact ⟨oL, es, ep, keep _ _ hL y, r⟩
  have up4 : ∀ b o, b ≠ e → h.get? b = some o → h4.get? b = some o := fun b o hb z => keep b o hb (k1 _ _ z)
  refine ks_wpAt_execs_cons (wpAt_of_wpAny (plainObj_wpAny_Assign_Attribute (wpAny_Name (wpAny_loadName_local rfl rfl hns4 rfl (wpAny_Name (wpAny_loadName_local rfl rfl hns4 rfl ?_) (by decide))) (by decide))))
  refine PySem.W.set_plain (od := none) X4 ⟨he4, rfl, rfl, trivial⟩ T.ox.sa ?_
  refine PySem.HandSPX.exc_osa X4 he4 hcl hbm rfl T.noV (fun h5 tk5 dx k5' dn dne hx hn => ?_)
  refine wpAt_of_wpAny (wpAny_execs_nil ?_)
  refine hq h5 _ dx _ (fun b o hb z => k5' b o hb (up4 b o hb z)) ?_ dne hx hn
  have y := Heap.lt_size (show h4.get? h.objs.size = some _ from hns4.choose_spec.choose_spec.choose_spec.1)
  exact Nat.le_of_lt (Nat.lt_of_lt_of_le y dn)
end

/-- C(e): the exception's dict is laid, its object not told yet -/
def tMkX (C : Addr) (te : TE) : L2.St → Hp → XK → Prop := fun σ H Q => tCons te tNil σ H fun vs H1 => ∃ v, vs = [v] ∧ ∀ dx, H1 dx = none → Q (.ref C) (some dx) (upd H1 dx (.xd [(("value" : Str), v)]))
theorem pmk_x {X : Cx} {x : Str} {e : Expr} {te : TE} {p pos : Pos} {C fI : Addr} {k : Nat} {file : Str} (hfile : X.prog.main.file = file) (T : XCls file X.K C fI) (hr : Room (k + 1) X.A) (hg : Gl X x) (hm : X.mg x = some (.ref C)) (hsup : X.mg "super" = none)
    (htop : (X.prog.main.scope.names.lookup ("super" : Str)).isSome = false) (ha : PE X e te) (hdb : (x == ("__debug__" : Str)) = false := by decide) (he : starEach [e] X.env = (false, eval e X.env) :: starEach [] X.env := by rfl) (hpl : (backTo pos (starEach [] X.env)).any (·.1) = false := by rfl) :
    PMk X (.Call (.Name x p) [e] [] pos) (tMkX C te) := by
  intro pins s σ H Q I h
  obtain ⟨nm, q, N, bs, bm, sn, sub, ab, col, dd, k0, k1, k2, k3, k5, hC, hbm⟩ := T.ox.cls
  refine wpAny_Call_Name_kw (ld_glob I hg hm ?_ hdb)
  refine PySem.W.callWith_K (h₀ := X.base) I.ok.mod.kin T.ox.kC (thn ((pa_cons ha pa_nil he).run pos pins s σ H _ I h) fun us s1 ⟨vs, H1, I1, r1, v, ev, q1⟩ => ⟨I1.kIn, ?_⟩) he hpl
  subst ev
  obtain ⟨u, rfl, ru⟩ := vals1 r1
  show wpAny _ _ (call (.ref C) [u]) _ _ _
  obtain ⟨hp, g, dr, tk, os⟩ := s1
  have kk : ∀ b o, hp.get? b = some o → ((hp.push (PySem.W.kdv_tup [u])).push (PySem.HandSPX.excO C hp.objs.size)).get? b = some o := fun b o e => Heap.get?_push_of_some _ (Heap.get?_push_of_some _ e)
  have hget : ((hp.push (PySem.W.kdv_tup [u])).push (PySem.HandSPX.excO C hp.objs.size)).get? (hp.objs.size + 1) = some (PySem.HandSPX.excO C hp.objs.size) := by heap_get
  have hKe : X.K.lookup (hp.objs.size + 1) = none := by
    cases z : X.K.lookup (hp.objs.size + 1) with
    | none => rfl
    | some o =>
      have y := Heap.lt_size (I1.kIn _ _ z)
      have y2 : hp.objs.size + 1 < hp.objs.size := y
      omega
  obtain ⟨mb, hmb, hmb2⟩ := I1.mod.blt
  refine wpAny_call (PySem.HandSPX.call_own F.excBase_ValueError (fun Y => PySem.HandSPX.refsVE_contains Y bm hbm) (I1.kIn _ _ hC) (PySem.W.looks_findIn I1.kIn T.ini) (fun self => PySem.W.bind_fn I1.kIn self T.tyI) (by show 1 ≤ sizeLine; rw [sizeLine_eq]; omega) ?_)
  refine init_run hfile T (fun b o z => kk b o (I1.kIn b o z)) (I1.nolimit.keeps kk) ((I1.mod.glob.keeps I1.bk).keeps kk) hsup ((hmb.keeps I1.bk).keeps kk) ((hmb2 _ (by decide)).trans (by first | boot_by_name | rfl | kernel_rfl)) htop hKe (hr.make C [u] []).depth hget (fun h5 tk5 dx t1 k5 dn dne hx hn => ?_)
  obtain ⟨G, g1, g2⟩ := restrict h5 fun b => decide (b ≠ hp.objs.size + 1)
  have gk : ∀ b, b ≠ hp.objs.size + 1 → G.get? b = h5.get? b := fun b hb => g1 b (decide_eq_true hb)
  have ge : G.get? (hp.objs.size + 1) = none := g2 _ (by simp)
  have nb : ∀ {b : Addr} {o : Obj}, hp.get? b = some o → b ≠ hp.objs.size + 1 := fun {b o} z y => by
    have w1 := Heap.lt_size z
    rw [y] at w1
    exact Nat.lt_irrefl _ (Nat.lt_of_succ_lt w1)
  have sz : hp.objs.size ≤ dx := by
    have y := Heap.lt_size hget
    have y2 : ((hp.push (PySem.W.kdv_tup [u])).push (PySem.HandSPX.excO C hp.objs.size)).objs.size ≤ dx := dn
    exact Nat.le_trans (Nat.le_of_lt (Nat.lt_of_succ_lt y)) y2
  have hn0 : H1 dx = none := I1.hok.fresh sz
  have J : Inv X pins σ (upd H1 dx (.xd [(("value" : Str), v)])) ⟨G, g, dr, tk5, os⟩ := I1.laid (t' := tk5) (fun b o z => (gk b (nb z)).trans (k5 b o (nb z) (kk b o z))) sz ⟨_, hn.at fun o y => (gk dx dne).trans y, relO_put (fs := []) ru fun _ => True.intro⟩
  refine ⟨rfl, hp.objs.size + 1, _, _, ⟨G, g, dr, tk5, os⟩, _, .ref C, some dx, rfl, J, fun b o z => ?_, ge, hx, ⟨rfl, rfl⟩, rfl, rfl, ?_, rfl, I1.bare, raises_own T.ox.exC T.ox.tyC, q1 dx hn0⟩
  · by_cases hb : b = hp.objs.size + 1
    · rw [hb, ge] at z
      cases z
    · exact (gk b hb).symm.trans z
  · rw [upd_ne (Ne.symm dne)]
    exact I1.hok.fresh (Nat.le_succ _)
end CW

namespace CW
open PySem PySem.Spec PyProof.Rows L2 PySem.Calls
/-! a caught exception stays tracked -/
theorem exv_ok {P : Program} {w : World} {H : Hp} {h : Heap} {a C dx : Addr} {o : Obj} {vs : Array Value} (e : h.get? a = some o) (hc : o.cls = .ref C) (hd : o.dict = some dx) (hf : o.data = .fields vs) : ObjOk P w H h a (exv a C dx) :=
  ⟨⟨o, vs, e, hc, hd, hf⟩, ⟨o, e⟩, fun _ _ ⟨o, v, q, r⟩ k => ⟨o, v, k o q, r⟩⟩
theorem exv_at {P : Program} {w : World} {H : Hp} {h : Heap} {a C dx : Addr} (hok : HOk P w H h) (e : H a = some (exv a C dx)) : ∃ (o : Obj) (vs : Array Value), h.get? a = some o ∧ o.cls = .ref C ∧ o.dict = some dx ∧ o.data = .fields vs := by
  have x : ObjOk P w H h a (.ext fun h => ∃ (o : Obj) (vs : Array Value), h.get? a = some o ∧ o.cls = .ref C ∧ o.dict = some dx ∧ o.data = .fields vs) := hok a _ e
  exact x.1
section
variable {X : Cx} {pins : List (Addr × Obj)} {σ : L2.St} {H : Hp} {sI s s' : Shared} {B : Heap}
theorem landedX {a C dx : Addr} {oe : Obj} {vs : Array Value} (I : Inv X pins σ H sI) (nb : ∀ b o, sI.heap.get? b = some o → b ∉ frs X.stack → B.get? b = some o) (st : B.StaysIn s'.heap) (up : sI.heap.UpToSlots s'.heap) (os : s'.os = sI.os) (ag : AllBare s'.gens)
    (ns : sI.heap.get? a = none) (nH : H a = none) (ho : s'.heap.get? a = some oe) (hc : oe.cls = .ref C) (hd : oe.dict = some dx) (hf : oe.data = .fields vs) : Inv X pins σ (upd H a (exv a C dx)) s' := by
  have nf : ∀ b ∈ frs X.stack, ∀ o, sI.heap.get? b = some o → ∃ sl, s'.heap.get? b = some { o with slots := sl } := fun b hb o e => by
    obtain ⟨_, o', e', hd⟩ := I.stack.mem hb
    cases e.symm.trans e'
    exact up b o e hd
  have ne : ∀ {b : Addr} {o : Obj}, sI.heap.get? b = some o → b ≠ a := fun {b o} z q => by subst q; cases ns.symm.trans z
  have hk : HOk X.prog X.w (upd H a (exv a C dx)) s'.heap := fun b o q => by
    by_cases hb : b = a
    · subst hb
      rw [upd_same] at q
      cases q
      exact exv_ok ho hc hd hf
    · rw [upd_ne hb] at q
      exact (((I.inGround nb).kept st) b o q).stay (fun _ _ _ z => z) (fun c z => by rw [upd_ne (ne_of_none z nH)]; exact z) fun c xs z => by rw [upd_ne (ne_of_none z nH)]; exact z
  have J := I.call (ch := []) (h' := s'.heap) (g' := s'.gens) (t' := s'.toks) (d' := s'.drawn) (H' := upd H a (exv a C dx))
    { keep := fun b o e _ hb _ => st b o (nb b o e hb)
      slot := fun b o e _ hb _ => nf b hb o e
      free := fun b o e n _ => by rw [upd_ne (ne e)]; exact n
      there := fun b o e _ => by
        by_cases hb : b ∈ frs X.stack
        · obtain ⟨sl, q⟩ := nf b hb o e
          exact ⟨_, q⟩
        · exact ⟨o, st b o (nb b o e hb)⟩
      tups := fun b xs e => by rw [upd_ne (ne_of_none e nH)]; exact e
      frzs := fun b o v e => by rw [upd_ne (ne_of_none e nH)]; exact e
      tbls := fun b ps e => ⟨#[], by rw [upd_ne (ne_of_none e nH), e]; simp⟩ }
    hk ag (fun _ z => nomatch z)
  obtain ⟨a1, a2, a3, a4, a5⟩ := s'
  cases (show a5 = sI.os from os)
  exact J
/-- into the suite and out of it, with no pin -/
theorem inSuite (I : Inv X pins σ H s) (a : Addr) : Inv (X.suite a (X.pn ++ pins)) [] σ H s :=
  ⟨I.ok.suite _ _, I.os, I.bare, I.base, I.loc, I.cell, I.free, I.freeC, fun p hp => I.pin p (by rw [List.append_nil] at hp; exact hp), I.hok, I.len⟩
theorem outSuite {a : Addr} {pn' : List (Addr × Obj)} (I : Inv (X.suite a (X.pn ++ pins)) pn' σ H s) (ok : X.Ok) : Inv X pins σ H s :=
  ⟨ok, I.os, I.bare, I.base, I.loc, I.cell, I.free, I.freeC, fun p hp => I.pin p (List.mem_append_left _ hp), I.hok, I.len⟩
end
/-- what the clause wishes of an exception of the body -/
def wKeep (K : PySem.W.Frag) (c : Value) (i : Nat) (ts : TS) (D : Ends) : WX := fun cls d σ H => PySem.W.exmOne K cls c = some true ∧ ∃ C dx, cls = .ref C ∧ d = some dx ∧
  ∀ a, H a = none → ts { nx := fun σ' H' => D.nx (σ'.set i none) H', rt := D.rt, bk := fun σ' H' => D.bk (σ'.set i none) H', ct := fun σ' H' => D.ct (σ'.set i none) H' } (σ.set i (some (.ref a))) (upd H a (exv a C dx))
section
variable {X : Cx} {x n : Str} {c : Value} {i : Nat} {body suite : List Stmt} {b₀ : Stmt} {np pos pos' : Pos} {tb : WX → TS} {ts : TS}
theorem ps_try_keep (hs : X.stack = X.env :: X.outer) (hf : X.env.frame = some X.env.locals) (hN : X.N.Nodup) (hi : X.N[i]? = some n) (hln : X.env.kindOf n = some .local) (hc : Names X x c)
    (hb : ∀ (W : WX) (pn : List (Addr × Obj)) (xe : Value → Shared → Prop), Takes (X.tr pn xe) W → PassesOwn (model X.prog X.w) X.A X.env xe → PSs (X.tr pn xe) body (tb W))
    (hsu : ∀ (a : Addr) (pn : List (Addr × Obj)), PSs (X.suite a pn) (b₀ :: suite) ts) :
    PS X (.Try body [.ExceptHandler (some (.Name x np)) (some n) (b₀ :: suite) pos'] [] [] pos) (fun D σ H => tb (wKeep X.K c i ts D) D σ H) := by
  refine ⟨fun pins s σ H D I h => ?_⟩
  have ok := I.ok
  have hfr : X.A.frames = some (X.env :: X.outer) := by rw [ok.frames, hs]
  refine wpAny_Try_except (wpAny_mono ((hb (wKeep X.K c i ts D) (X.pn ++ pins) (fun e s₁ => wpAny (model X.prog X.w) X.A (noteFrame e X.env) (fun _ s₂ => wpAny (model X.prog X.w) X.A (setFlight e none) (fun _ s₃ =>
    wpAny (model X.prog X.w) X.A (handleBy e X.env [.ExceptHandler (some (.Name x np)) (some n) (b₀ :: suite) pos']) (SP X pins D) X.xe s₃) X.xe s₂) X.xe s₁) (fun u s' xx => ?_) PassesOwn.looking).run [] s σ H D (I.toTry _) h) (fun f s1 hsp => ?_) (fun e s1 he => he))
  · obtain ⟨a, B, sI, pins', σ', H', cls, d, rfl, J', nb, up, sky, na, os, ag, hb1, C, dx, rfl, rfl, go⟩ := xx
    have J : Inv X pins σ' H' sI := J'.ofTry ok
    have sky' : Sky B (X.env :: X.outer) a (Zc (.ref C) (some dx)) X.env.locals s'.heap := by rw [← hs]; exact sky
    show wpAny (model X.prog X.w) X.A (noteFrame (.ref a) X.env) _ _ _
    refine Sky.land Zc.steady hfr hf sky' fun h3 fl3 up3 => ?_
    have J3 : Inv X pins σ' H' { s' with heap := h3 } := J.landed nb fl3.1 (up.trans up3) os ag
    obtain ⟨oe3, vs3, he3, hz3, hd3⟩ := fl3.there
    have nfr : a ∉ frs (X.env :: X.outer) := fun hm => by
      obtain ⟨_, o', e', hnf⟩ := fl3.2.2.1.mem hm
      cases he3.symm.trans e'
      exact hnf _ hd3
    have ns : sI.heap.get? a = none := by
      cases q : sI.heap.get? a with
      | none => rfl
      | some o => cases (nb a o q (by rw [hs]; exact nfr)).symm.trans fl3.2.1
    refine wpAny_handleBy_cons (codeAny_handlers_test ?_) (by intro q; cases q)
    have LT : PySem.W.Looks (model X.prog X.w) h3 (typeOf (.ref a)) (.ref C) := fun A Q E s k q => wpAny_typeOf_ref (k _ _ he3) (by rw [hz3.1]; exact q)
    have LM := PySem.W.exm_one (M := model X.prog X.w) (J3.kIn) LT hb1
    have S3 := inSuite J3 a
    have test : ∀ {Q : Value → Shared → Prop} {E : Value → Shared → Prop}, Q c { s' with heap := h3 } → wpAny (model X.prog X.w) (X.A.mark (some (.ref a))) (eval (.Name x np) X.env) Q E { s' with heap := h3 } := fun {Q E} q => by
      obtain ⟨hg, hdbg, hm | ⟨hm, hv, hnn⟩⟩ := hc
      · exact ld_glob (X := X.suite a (X.pn ++ pins)) S3 hg hm q hdbg
      · exact ld_blt (X := X.suite a (X.pn ++ pins)) S3 hg hm hv q hnn hdbg
    refine test (LM.here ?_)
    refine codeAny_handlers_suite_as (HandSPX.lands_againZ fl3 fun h4 fl4 up4 => ?_)
    obtain ⟨oe4, vs4, he4, hz4, hd4⟩ := fl4.there
    have J4 : Inv X pins σ' (upd H' a (exv a C dx)) { s' with heap := h4 } := landedX J nb fl4.1 ((up.trans up3).trans up4) os ag ns na he4 hz4.1 hz4.2 hd4
    refine store_ok (X := X.suite a (X.pn ++ pins)) (v := .ref a) (inSuite J4 a) hN hi (.inl hln) rfl (fun s5 S5 => ?_) (.inr hln)
    refine wpAny_mono ((hsu a (X.pn ++ pins)).run [] s5 _ _ _ S5 (go a na)) (fun f s6 hsp => ?_) (fun _ _ z => False.elim z)
    have fin : ∀ {σ6 : L2.St} {H6 : Hp} {Q : Shared → Prop}, Inv (X.suite a (X.pn ++ pins)) [] σ6 H6 s6 → (∀ s7, Inv X pins (σ6.set i none) H6 s7 → Q s7) →
        wpAny (model X.prog X.w) X.A (do bindName X.env n .none; unbindBehindTheSuite X.env n pos') (fun _ s7 => Q s7) X.xe s6 := fun {σ6 H6 Q} S6 hq => gone_ok (outSuite S6 ok) hN hi hln hq
    cases f with
    | next => obtain ⟨σ6, H6, S6, q6⟩ := hsp; exact fin S6 fun s7 J7 => ⟨_, _, J7, q6⟩
    | brk => obtain ⟨σ6, H6, S6, q6⟩ := hsp; exact fin S6 fun s7 J7 => ⟨_, _, J7, q6⟩
    | cont => obtain ⟨σ6, H6, S6, q6⟩ := hsp; exact fin S6 fun s7 J7 => ⟨_, _, J7, q6⟩
    | ret u => obtain ⟨v6, σ6, H6, S6, r6, q6⟩ := hsp; exact fin S6 fun s7 J7 => ⟨_, _, _, J7, r6, q6⟩
  · cases f with
    | next => obtain ⟨σ', H', J', q⟩ := hsp; exact wpAny_execs_nil ⟨σ', H', J'.ofTry ok, q⟩
    | brk => obtain ⟨σ', H', J', q⟩ := hsp; exact ⟨σ', H', J'.ofTry ok, q⟩
    | cont => obtain ⟨σ', H', J', q⟩ := hsp; exact ⟨σ', H', J'.ofTry ok, q⟩
    | ret u => obtain ⟨v, σ', H', J', r, q⟩ := hsp; exact ⟨v, σ', H', J'.ofTry ok, r, q⟩
end
end CW

namespace CW
open PySem PySem.Spec PyProof.Rows L2 PySem.Calls
/-! e.value of a caught exception -/
def tXv (K : PySem.W.Frag) (te : TE) : TE := fun σ H Q => te σ H fun x H1 => ∃ a C dx u, x = .ref a ∧ XfC K C ∧ PySem.W.findIn K (.ref C) "value" = some none ∧ H1 a = some (exv a C dx) ∧ H1 dx = some (.xd [(("value" : Str), u)]) ∧ Q u H1
theorem pe_xv {X : Cx} {e : Expr} {te : TE} {pos : Pos} (he : PE X e te) (hb : attributeBase e "value" X.env (eval e X.env) = eval e X.env := by rfl) : PE X (.Attribute e "value" pos) (tXv X.K te) := by
  refine ⟨fun pins s σ H Q I h => attr_of hb (thn (he.run pins s σ H _ I h) fun u s1 hh => ?_)⟩
  obtain ⟨x, H1, I1, rx, a, C, dx, v, rfl, T, hno, ea, ed, q⟩ := hh
  cases (show u = Value.ref a from rx)
  obtain ⟨oe, vs, ha, hc, hdi, hda⟩ := exv_at I1.hok ea
  have hx : ObjOk X.prog X.w H1 s1.heap dx (.xd [(("value" : Str), v)]) := I1.hok dx _ ed
  obtain ⟨mA, hns, hr⟩ := hx
  obtain ⟨od, ho, hl⟩ := lookIn_ns hns
  obtain ⟨u, hu, ru⟩ := RelO.some_of (v := v) (o := mA "value") (hr "value")
  exact HandSPX.exc_get I1.kIn ⟨ha, hc, by unfold PySem.W.notCls; rw [hda] <;> rfl, by rw [hdi]; exact ho⟩ T.ga T.gg T.exC (PySem.W.findObj_own T.hdC hno rfl (by rw [hl, hu])) (handed_of ru) ⟨v, H1, I1.tok _, ru, q⟩
def mFldV (cs : List Str) (m : ME) : ME := fun δ => match m δ with
  | .ok (.dict [(.str x, d)], δ1) => if x ∈ cs then .ok (d, δ1) else .no
  | .err c d => .err c d
  | _ => .no
def XfOk (K : PySem.W.Frag) (x : Str) : Prop := XfC K (He.ga K x) ∧ PySem.W.findIn K (.ref (He.ga K x)) "value" = some none
theorem sn_fldV {K : PySem.W.Frag} {mg : Str → Option Value} {cs : List Str} {t : TE} {m : ME} (hcs : ∀ x ∈ cs, XfOk K x) (h : SndE K mg t m) : SndE K mg (tXv K t) (mFldV cs m) := fun {ρ Fr F δ σ H d δ'} r e {Q} q => by
  unfold mFldV at e
  split at e
  · rename_i x d' δ1 e1
    split at e
    · rename_i hx
      cases e
      refine h r e1 fun F1 v H1 s1 r1 d1 => ?_
      cases d1 with
      | exc q1 q2 du => exact ⟨_, _, _, _, rfl, (hcs x hx).1, (hcs x hx).2, r1.sub _ _ q1, r1.sub _ _ q2, q F1 _ H1 s1 r1 du⟩
    · cases e
  · cases e
  · cases e
theorem re_fldV {X : Cx} {e : Expr} {t : TE} {m : ME} {pos : Pos} (cs : List Str) (hcs : ∀ x ∈ cs, XfOk X.K x) (h : RE X e t m) (hb : attributeBase e "value" X.env (eval e X.env) = eval e X.env := by rfl) : RE X (.Attribute e "value" pos) (tXv X.K t) (mFldV cs m) :=
  ⟨pe_xv h.pe hb, sn_fldV hcs h.sn⟩

/-! what a raising def promises -/
def XOut (K : PySem.W.Frag) (mg : Str → Option Value) (ρ : Nat → Addr) (Fr F : Hp) (δ : Ev) (σ : L2.St) (c : Str) (d : PyData) (W : WX) : Prop := ∀ F' u dx H', Same F F' → Rel K mg ρ Fr F' δ σ H' → F' dx = some (.xd [(("value" : Str), u)]) → Dp K F' u d → W (.ref (He.ga K c)) (some dx) σ H'
def spX (K : PySem.W.Frag) (mg : Str → Option Value) (n : Nat) (f : Ev → Res (Sl × Ev)) : Sp := fun vs H _ E => ∃ (ρ : Nat → Addr) (Fr F : Hp) (ds : List PyData) (c : Str) (d : PyData), vs.length = n ∧ Rel K mg ρ Fr F [] [] H ∧ DpAll K F vs ds ∧ f (ds.map .val) = .err c d ∧
  XOut K mg ρ Fr F [] [] c d fun cls d _ H => E cls d H
section
variable {K : PySem.W.Frag} {mg : Str → Option Value}
theorem spX_vals {ρ : Nat → Addr} {Fr F H : Hp} {δ : Ev} {σ : L2.St} {vs : List V} {ds : List PyData} {n : Nat} {f : FM} {c : Str} {d : PyData} {Q : VK} {W : WX} (rel : Rel K mg ρ Fr F δ σ H) (da : DpAll K F vs ds) (hn : ds.length = n) (e : f (ds.map .val) = .err c d)
    (q : XOut K mg ρ Fr F δ σ c d W) : spX K mg n f vs H Q (WE W σ) := by
  obtain ⟨Fr', r1, r2, r3⟩ := Rel.hideJ (ss := []) (os := []) rfl rel
  exact ⟨ρ, Fr', F, ds, c, d, (dpa_len da).trans hn, r1, da, e, fun F' u dx H' s1 r4 hx du => q F' u dx H' s1 (r2 s1 r4) hx du⟩
theorem Rel.nil {ρ : Nat → Addr} {Fr F H : Hp} {δ : Ev} {σ : L2.St} (r : Rel K mg ρ Fr F δ σ H) : Rel K mg ρ Fr F [] [] H := ⟨r.sub, r.fr, r.dis, [], rfl, List.nodup_nil, fun _ h => nomatch h⟩
/-- soundness of what raises -/
def SndX (K : PySem.W.Frag) (mg : Str → Option Value) (W : WX) (t : TS) (m : MS) : Prop := ∀ {ρ : Nat → Addr} {Fr F : Hp} {δ : Ev} {σ : L2.St} {H : Hp} {c : Str} {d : PyData} {D : Ends}, Rel K mg ρ Fr F δ σ H → m δ = .err c d →
  (∀ F' u dx σ' H', Same F F' → Rel K mg ρ Fr F' [] [] H' → F' dx = some (.xd [(("value" : Str), u)]) → Dp K F' u d → W (.ref (He.ga K c)) (some dx) σ' H') → t D σ H
end
structure RXs (X : Cx) (W : WX) (st : Stmt) (t : TS) (m : MS) : Prop where
  ps : PS X st t
  sn : SndX X.K X.mg W t m
structure RX (X : Cx) (W : WX) (ss : List Stmt) (t : TS) (m : MS) : Prop where
  pss : PSs X ss t
  sn : SndX X.K X.mg W t m
section
variable {X : Cx} {W : WX}
/-! raise C(e) -/
def xRaise (c : Str) (me : ME) : MS := fun δ => match me δ with
  | .ok (d, _) => .err c d
  | _ => .no
theorem xs_raise {c : Str} {fI : Addr} {k : Nat} {e : Expr} {te : TE} {me : ME} {p pos pos' : Pos} (tk : Takes X W) (hc : X.calm = true) {file : Str} (hfile : X.prog.main.file = file) (T : XCls file X.K (He.ga X.K c) fI) (hr : Room (k + 1) X.A) (hg : Gl X c) (hm : X.mg c = some (.ref (He.ga X.K c))) (hsup : X.mg "super" = none)
    (htop : (X.prog.main.scope.names.lookup ("super" : Str)).isSome = false) (he : RE X e te me) (hdb : (c == ("__debug__" : Str)) = false := by decide) (hst : starEach [e] X.env = (false, eval e X.env) :: starEach [] X.env := by rfl) (hpl : (backTo pos (starEach [] X.env)).any (·.1) = false := by rfl) :
    RXs X W (.Raise (some (.Call (.Name c p) [e] [] pos)) none pos') (fun _ σ H => tMkX (He.ga X.K c) te σ H fun cls d H' => W cls d σ H') (xRaise c me) :=
  ⟨ps_raise hc tk (pmk_x hfile T hr hg hm hsup htop he.pe hdb hst hpl), fun {ρ Fr F δ σ H c' d D} r h q => by
    unfold xRaise at h
    split at h
    · rename_i d' δ1 e1
      cases h
      refine he.sn r e1 fun F1 v H1 s1 r1 d1 => ⟨v, rfl, fun dx hn => ?_⟩
      exact q _ v dx σ _ (s1.trans (same_upd (r1.fF hn))) (Rel.nil (r1.frz hn)) upd_same (d1.up (same_upd (r1.fF hn)))
    · cases h⟩
/-! a call that raises -/
theorem run_fnGS {CX : CXT} {k : Nat} {f : Addr} {fd : FuncData} {ps : List Str} {sp : Sp} {E : L2.St → XK} {pins : List (Addr × Obj)} {σ : L2.St} {H : Hp} {s : Shared} {Q : VK} {us : List Value} {vs : List V} (F : FnG X.prog X.w X.K X.mg X.base CX k f fd ps sp) (hG : X.A.guards = some []) (hr : Room k X.A) (hb : Binds X.K fd ps [])
    (hx : PassesAt CX X σ (E σ)) (I : Inv X pins σ H s) (r : Vals vs us) (h : sp vs H Q (E σ)) : wpAny (model X.prog X.w) X.A (call (.ref f) us) (EP X pins σ Q) X.xe s := by
  have hl : us.length = ps.length := r.length.symm.trans (F.len _ _ _ _ h)
  have b := hb s us I.kIn (by rw [List.append_nil]; exact hl)
  rw [List.append_nil] at b
  refine wpAny_call (codeAny_mono (F.run X.A X.stack s H ⟨us, []⟩ us vs Q (E σ) hG hr I.env0 b r h) fun r s' hq => ?_)
  rcases r with e | _ | _ | _ | u
  · exact hx pins H s e s' I hq
  all_goals first | exact I.after hq | exact False.elim hq
theorem pe_callGS {CX : CXT} {k : Nat} {f : Addr} {fd : FuncData} {ps : List Str} {sp : Sp} {E : L2.St → XK} {x : Str} {p pos : Pos} {e : Expr} {es : List Expr} {t : TA} (F : FnG X.prog X.w X.K X.mg X.base CX k f fd ps sp) (hG : X.A.guards = some []) (hr : Room k X.A) (hg : Gl X x) (hm : X.mg x = some (.ref f))
    (hk : PySem.W.keepIn X.K (.ref f) = true) (hb : Binds X.K fd ps []) (hx : ∀ σ, PassesAt CX X σ (E σ)) (ha : PA X (e :: es) t) (hdb : (x == ("__debug__" : Str)) = false := by decide) (he : starEach (e :: es) X.env = (false, eval e X.env) :: starEach es X.env := by rfl)
    (hpl : (backTo pos (starEach es X.env)).any (·.1) = false := by rfl) : PE X (.Call (.Name x p) (e :: es) [] pos) (tCallS sp E t) := by
  refine ⟨fun pins s σ H Q I h => wpAny_Call_Name_kw (ld_glob I hg hm ?_ hdb)⟩
  exact PySem.W.callWith_K (h₀ := X.base) I.ok.mod.kin hk (thn (ha.run pos pins s σ H _ I h) fun us s1 ⟨vs, H1, I1, r, q⟩ => ⟨I1.kIn, run_fnGS F hG hr hb (hx σ) I1 r q⟩) he hpl
/-- what raises in the call: arguments told, the def raises -/
def xCall (n : Nat) (f : FM) (as : MA) : MS := fun δ => match as δ with
  | .ok (ds, _) => if ds.length = n then (match f (ds.map .val) with
    | .err c d => .err c d
    | _ => .no) else .no
  | _ => .no
theorem snx_call {K : PySem.W.Frag} {mg : Str → Option Value} {n : Nat} {f : FM} {ta : TA} {as : MA} (ha : SndA K mg ta as) {ρ : Nat → Addr} {Fr F : Hp} {δ : Ev} {σ : L2.St} {H : Hp} {c : Str} {d : PyData} (r : Rel K mg ρ Fr F δ σ H) (h : xCall n f as δ = .err c d)
    (q : ∀ F' u dx σ' H', Same F F' → Rel K mg ρ Fr F' [] [] H' → F' dx = some (.xd [(("value" : Str), u)]) → Dp K F' u d → W (.ref (He.ga K c)) (some dx) σ' H') (Q : VK) : tCallS (spX K mg n f) (WE W) ta σ H Q := by
  unfold xCall at h
  split at h
  · rename_i ds δ1 e1
    split at h
    · rename_i hn
      split at h
      · rename_i c' d' e2
        cases h
        exact ha r e1 fun F1 vs H1 s1 r1 d1 => spX_vals r1 d1 hn e2 fun F' u dx H' s2 r2 hx du => q F' u dx σ H' (s1.trans s2) (Rel.nil r2) hx du
      · cases h
    · cases h
  · cases h
section
variable {k n : Nat} {f : Addr} {fd : FuncData} {ps : List Str} {fm : FM} {x : Str} {p pos : Pos} {e : Expr} {es : List Expr} {t : TA} {as : MA}
theorem pe_callX (F : FnG X.prog X.w X.K X.mg X.base (L2.CX X.prog X.w) k f fd ps (spX X.K X.mg n fm)) (tk : Takes X W) (hG : X.A.guards = some []) (hr : Room k X.A) (hg : Gl X x) (hm : X.mg x = some (.ref f)) (hk : PySem.W.keepIn X.K (.ref f) = true) (hb : Binds X.K fd ps [])
    (ha : RA X (e :: es) t as) (hdb : (x == ("__debug__" : Str)) = false := by decide) (he : starEach (e :: es) X.env = (false, eval e X.env) :: starEach es X.env := by rfl) (hpl : (backTo pos (starEach es X.env)).any (·.1) = false := by rfl) :
    PE X (.Call (.Name x p) (e :: es) [] pos) (tCallS (spX X.K X.mg n fm) (WE W) t) := pe_callGS F hG hr hg hm hk hb (passAt tk) ha.pa hdb he hpl
/-- f(..) as a statement, return f(..), x = f(..): st and its rule -/
theorem xs_call {st : Stmt} {wr : TE → TS} (hst : ∀ t', PE X (.Call (.Name x p) (e :: es) [] pos) t' → PS X st (wr t')) (hwr : ∀ t' D σ H, (∀ Q, t' σ H Q) → wr t' D σ H)
    (F : FnG X.prog X.w X.K X.mg X.base (L2.CX X.prog X.w) k f fd ps (spX X.K X.mg n fm)) (tk : Takes X W) (hG : X.A.guards = some []) (hr : Room k X.A) (hg : Gl X x) (hm : X.mg x = some (.ref f)) (hk : PySem.W.keepIn X.K (.ref f) = true) (hb : Binds X.K fd ps [])
    (ha : RA X (e :: es) t as) (hdb : (x == ("__debug__" : Str)) = false := by decide) (he : starEach (e :: es) X.env = (false, eval e X.env) :: starEach es X.env := by rfl) (hpl : (backTo pos (starEach es X.env)).any (·.1) = false := by rfl) :
    RXs X W st (wr (tCallS (spX X.K X.mg n fm) (WE W) t)) (xCall n fm as) :=
  ⟨hst _ (pe_callX F tk hG hr hg hm hk hb ha hdb he hpl), fun {ρ Fr F δ σ H c d D} r h q => hwr _ D σ H (snx_call ha.sn r h q)⟩
end
theorem wr_drop (t' : TE) (D : Ends) (σ : L2.St) (H : Hp) (h : ∀ Q, t' σ H Q) : tDrop t' D σ H := h _
theorem wr_ret (t' : TE) (D : Ends) (σ : L2.St) (H : Hp) (h : ∀ Q, t' σ H Q) : tRet t' D σ H := h _
theorem wr_asg {g : TG} (t' : TE) (D : Ends) (σ : L2.St) (H : Hp) (h : ∀ Q, t' σ H Q) : tAsg t' g D σ H := h _
/-! if, sequences -/
def xNo : MS := fun _ => .no
theorem rx_no {ss : List Stmt} : RX X W ss tNever xNo := ⟨pss_never, fun {ρ Fr F δ σ H c d D} r h q => by cases h⟩
def xIf (c : MT) (a b : MS) : MS := fun δ => match c δ with
  | .ok (true, δ1) => a δ1
  | .ok (false, δ1) => b δ1
  | _ => .no
theorem xs_if {c : Expr} {a b : List Stmt} {tc : TT} {t u : TS} {mc : MT} {ma mb : MS} {pos : Pos} (hc : RT X c tc mc) (ha : RX X W a t ma) (hb : RX X W b u mb) : RXs X W (.If c a b pos) (tIfS tc t u) (xIf mc ma mb) :=
  ⟨ps_if hc.pt ha.pss hb.pss, fun {ρ Fr F δ σ H c d D} r h q => by
    unfold xIf at h
    split at h
    · rename_i δ1 e1
      exact hc.sn r e1 fun F1 H1 s1 r1 => iteT (ha.sn r1 h fun F' u dx σ' H' s2 r2 hx du => q F' u dx σ' H' (s1.trans s2) r2 hx du)
    · rename_i δ1 e1
      exact hc.sn r e1 fun F1 H1 s1 r1 => iteF (hb.sn r1 h fun F' u dx σ' H' s2 r2 hx du => q F' u dx σ' H' (s1.trans s2) r2 hx du)
    · cases h⟩
theorem rx_first {st : Stmt} {rest : List Stmt} {t : TS} {m : MS} (h : RXs X W st t m) : RX X W (st :: rest) (tSeq t tNever) m := ⟨pss_cons h.ps pss_never, fun {ρ Fr F δ σ H c d D} r e q => h.sn r e q⟩
def xSeq (a b : MS) : MS := fun δ => match a δ with
  | .ok (.nx, δ1) => b δ1
  | _ => .no
theorem rx_then {st : Stmt} {rest : List Stmt} {t u : TS} {a b : MS} (ha : RS X st t a) (hb : RX X W rest u b) : RX X W (st :: rest) (tSeq t u) (xSeq a b) := ⟨pss_cons ha.ps hb.pss, fun {ρ Fr F δ σ H c d D} r h q => by
    unfold xSeq at h
    split at h
    · rename_i δ1 e1
      exact ha.sn r e1 fun F1 σ1 H1 s1 r1 => hb.sn r1 h fun F' u dx σ' H' s2 r2 hx du => q F' u dx σ' H' (s1.trans s2) r2 hx du
    · cases h⟩
/-- the first part raises, or runs through and a later part raises -/
def xBoth (x a : MS) : MS := fun δ => match x δ with
  | .err c d => .err c d
  | _ => a δ
theorem rx_both {ss : List Stmt} {t u : TS} {a b : MS} (ha : RX X W ss t a) (hb : RX X W ss u b) : RX X W ss (fun D σ H => t D σ H ∨ u D σ H) (xBoth a b) := ⟨⟨fun pins s σ H D I h => h.elim (ha.pss.run pins s σ H D I) (hb.pss.run pins s σ H D I)⟩, fun {ρ Fr F δ σ H c d D} r h q => by
    unfold xBoth at h
    split at h
    · rename_i c' d' e1
      cases h
      exact .inl (ha.sn r e1 q)
    · exact .inr (hb.sn r h q)⟩
end
theorem psNox {X : Cx} {b : Stmt} {t : TS} (h : PS X.nox b t) : PS X b t := by
  refine ⟨fun pins s σ H D I q => ?_⟩
  refine wpAny_mono (h.run pins s σ H D (I.wish _) q) (fun f s1 z => ?_) fun e s1 z => z.elim
  exact SP.unwish z
theorem RS.nox {X : Cx} {b : Stmt} {t : TS} {m : MS} (h : RS X.nox b t m) : RS X b t m := ⟨psNox h.ps, h.sn⟩
/-! the def -/
def fnX (nl : Nat) (m : MS) (as : Ev) : Res (Sl × Ev) := match m (as ++ List.replicate nl .emp) with
  | .err c d => .err c d
  | _ => .no
section
variable {P : Program} {w : World} {K : PySem.W.Frag} {mg : Str → Option Value} {base : Heap} {x qual : Str} {params : Arguments} {body : List Stmt} {scope : Scope} {dvs : List V} {kws : List (Str × V)} {f : Addr} {fd : FuncData}
theorem bodyX_of {N : List Str} {n nl : Nat} {t : TS} {m : MS} {D : Ends} (hN : N.length = n + nl) {vs : List V} {H : Hp} {Q : VK} {E : XK} (hs : SndX K mg (fun cls d _ H => E cls d H) t m) (h : spX K mg n (fnX nl m) vs H Q E) : t D (L2.start N vs) H := by
  obtain ⟨ρ, Fr, F, ds, c, d, hl, rel, da, e, q⟩ := h
  have hst : L2.start N vs = vs.map some ++ List.replicate nl none := by
    unfold L2.start
    rw [hN, hl, Nat.add_sub_cancel_left]
  rw [hst]
  have r1 : Rel K mg ρ Fr F (ds.map .val) (vs.map some) H := by simpa using rel.vals da
  obtain ⟨L, h1, h2, h3⟩ := r1.own
  have r0 : Rel K mg ρ Fr F (ds.map .val ++ List.replicate nl .emp) (vs.map some ++ List.replicate nl none) H :=
    ⟨rel.sub, rel.fr, rel.dis, L, by have z := slotsR_join h1 (empties (K := K) (mg := mg) (ρ := ρ) (F := F) (H := H) nl); simpa using z, h2, h3⟩
  unfold fnX at e
  split at e
  · rename_i c' d' e1
    cases e
    exact hs r0 e1 fun F' u dx σ' H' s1 r2 hx du => q F' u dx H' s1 r2 hx du
  · cases e
theorem fnX_D {N ps : List Str} {k n nl : Nat} {m : MS} (D : FunD K x qual params body scope dvs kws f fd) (S : FnScope N ps scope) (hn : ps.length = n) (hN : N.length = n + nl)
    (bd : ∀ (cdv : Value) (A : Around) (outer : List Env) (s : Shared) (H : Hp) (E : XK), A.guards = some [] → Room k (A.deeper (envOfC qual scope s.heap.objs.size f cdv)) → Takes (cxOf (L2.CX P w) P w K mg base N qual scope f cdv A outer s H E) (fun cls d _ H => E cls d H) →
      ∃ t, RX (cxOf (L2.CX P w) P w K mg base N qual scope f cdv A outer s H E) (fun cls d _ H => E cls d H) body t m) : FnG P w K mg base (L2.CX P w) (k + 1) f fd ps (spX K mg n (fnX nl m)) := by
  refine fnG_of D S (fun vs H Q E h => ?_) fun cdv A outer s H vs Q E hG hR h => ?_
  · obtain ⟨_, _, _, _, _, _, hl, _⟩ := h
    rw [hl, hn]
  · obtain ⟨t, b⟩ := bd cdv A outer s H E hG hR (takes_of rfl rfl rfl rfl)
    exact ⟨t, b.pss, bodyX_of hN b.sn h⟩
end
/-! try: one statement with a call, except C as e: .. -/
/-- the reading of a mirror by itself -/
def cS (K : PySem.W.Frag) (mg : Str → Option Value) (m : MS) : TS := fun D σ H => ∃ (ρ : Nat → Addr) (Fr F : Hp) (δ : Ev) (c : Ctl) (δ' : Ev), Rel K mg ρ Fr F δ σ H ∧ m δ = .ok (c, δ') ∧ EndS K mg ρ Fr F D δ' c
def cXt (K : PySem.W.Frag) (mg : Str → Option Value) (n : Nat) (f : FM) (as : MA) (W : WX) : TS := fun _ σ H => ∃ (ρ : Nat → Addr) (Fr F : Hp) (δ : Ev) (ds : List PyData) (δ1 : Ev) (c : Str) (d : PyData), Rel K mg ρ Fr F δ σ H ∧ as δ = .ok (ds, δ1) ∧ ds.length = n ∧ f (ds.map .val) = .err c d ∧ XOut K mg ρ Fr F δ1 σ c d W
theorem pss_canon {X : Cx} {ss : List Stmt} {t : TS} {m : MS} (h : RB X ss t m) : PSs X ss (cS X.K X.mg m) := ⟨fun pins s σ H D I q => by
  obtain ⟨ρ, Fr, F, δ, c, δ', r, e, en⟩ := q
  exact h.pss.run pins s σ H D I (h.sn r e en)⟩
def mTry (c : Str) (i n : Nat) (f : FM) (as : MA) (mok ms : MS) : MS := fun δ => match as δ with
  | .ok (ds, δ1) => if ds.length = n then (match f (ds.map .val) with
    | .err c' d => if c' = c ∧ i < δ1.length then (match ms (δ1.set i (.val (.dict [(.str c, d)]))) with
      | .ok (.nx, δ2) => .ok (.nx, δ2.set i .emp)
      | .ok (.rt s, δ2) => .ok (.rt s, δ2)
      | _ => .no) else .no
    | _ => mok δ) else mok δ
  | _ => mok δ
section
variable {X : Cx} {k n i : Nat} {f : Addr} {fd : FuncData} {ps : List Str} {fm : FM} {x nm c : Str} {p cpos np pos pos' : Pos} {e : Expr} {es : List Expr} {as : MA} {st b₀ : Stmt} {suite : List Stmt} {mok ms : MS}
theorem sn_try {K : PySem.W.Frag} {mg : Str → Option Value} (hcc : PySem.W.exmOne K (.ref (He.ga K c)) (.ref (He.ga K c)) = some true) :
    SndS K mg (fun D σ H => cS K mg mok D σ H ∨ cXt K mg n fm as (wKeep K (.ref (He.ga K c)) i (cS K mg ms) D) D σ H) (mTry c i n fm as mok ms) := fun {ρ Fr F δ σ H cc δ'} r h {D} q => by
  unfold mTry at h
  have okc : mok δ = .ok (cc, δ') → cS K mg mok D σ H := fun z => ⟨ρ, Fr, F, δ, cc, δ', r, z, q⟩
  split at h
  · rename_i ds δ1 e1
    split at h
    · rename_i hn
      split at h
      · rename_i c' d e2
        split at h
        · rename_i hh
          obtain ⟨rfl, hi⟩ := hh
          refine .inr ⟨ρ, Fr, F, δ, ds, δ1, c', d, r, e1, hn, e2, fun F' u dx H' s1 r1 hx du => ⟨hcc, _, dx, rfl, rfl, fun a ha => ?_⟩⟩
          have sa := same_upd (o := exv a (He.ga K c') dx) (r1.fF ha)
          have r2 : Rel K mg ρ Fr (upd F' a (exv a (He.ga K c') dx)) (δ1.set i (.val (.dict [(.str c', d)]))) (σ.set i (some (.ref a))) (upd H' a (exv a (He.ga K c') dx)) :=
            ((r1.frz ha).tval (.exc upd_same (sa _ _ hx) (du.up sa))).set hi
          split at h
          · rename_i δ2 e3
            cases h
            exact ⟨ρ, Fr, _, _, .nx, δ2, r2, e3, fun F2 σ2 H2 s2 r3 => q F2 _ H2 ((s1.trans sa).trans s2) (r3.drop (i := i) (s := .emp) (o := none) rfl)⟩
          · rename_i s δ2 e3
            cases h
            exact ⟨ρ, Fr, _, _, .rt _, _, r2, e3, fun F2 v σ2 H2 s2 r3 => q F2 v σ2 H2 ((s1.trans sa).trans s2) r3⟩
          · cases h
        · cases h
      · exact .inl (okc h)
    · exact .inl (okc h)
  · exact .inl (okc h)
theorem rs_try (wr : TE → TS) (hs : X.stack = X.env :: X.outer) (hf : X.env.frame = some X.env.locals) (hN : X.N.Nodup) (hcc : PySem.W.exmOne X.K (.ref (He.ga X.K c)) (.ref (He.ga X.K c)) = some true) (hgc : Gl X c) (hmc : X.mg c = some (.ref (He.ga X.K c)))
    (F : FnG X.prog X.w X.K X.mg X.base (L2.CX X.prog X.w) k f fd ps (spX X.K X.mg n fm)) (hG : X.A.guards = some []) (hr : Room k X.A) (hg : Gl X x) (hm : X.mg x = some (.ref f)) (hk : PySem.W.keepIn X.K (.ref f) = true) (hb : Binds X.K fd ps [])
    (hst : ∀ pn xe t', PE (X.tr pn xe) (.Call (.Name x p) (e :: es) [] cpos) t' → PS (X.tr pn xe) st (wr t')) (hwr : ∀ t' D σ H, (∀ Q, t' σ H Q) → wr t' D σ H)
    (ha : ∀ pn xe, ∃ t, RA (X.tr pn xe) (e :: es) t as) (hok : ∀ pn xe, ∃ t, RB (X.tr pn xe).nox [st] t mok) (hsu : ∀ a pn, ∃ t, RB (X.suite a pn) (b₀ :: suite) t ms)
    (hi : X.N[i]? = some nm := by rfl) (hln : X.env.kindOf nm = some .local := by rfl) (hdc : (c == ("__debug__" : Str)) = false := by decide)
    (hdb : (x == ("__debug__" : Str)) = false := by decide) (he : starEach (e :: es) X.env = (false, eval e X.env) :: starEach es X.env := by rfl) (hpl : (backTo cpos (starEach es X.env)).any (·.1) = false := by rfl) :
    RS X (.Try [st] [.ExceptHandler (some (.Name c np)) (some nm) (b₀ :: suite) pos'] [] [] pos) (fun D σ H => cS X.K X.mg mok D σ H ∨ cXt X.K X.mg n fm as (wKeep X.K (.ref (He.ga X.K c)) i (cS X.K X.mg ms) D) D σ H) (mTry c i n fm as mok ms) := by
  refine ⟨ps_try_keep (tb := fun W D σ H => cS X.K X.mg mok D σ H ∨ cXt X.K X.mg n fm as W D σ H) hs hf hN hi hln ⟨hgc, hdc, .inl hmc⟩ (fun W pn xe tk _ => ?_) fun a pn => ?_, sn_try hcc⟩
  · refine ⟨fun pins s σ H D I h => h.elim (fun h => ?_) fun h => ?_⟩
    · obtain ⟨t, b⟩ := hok pn xe
      exact (PSs.nox (pss_canon b)).run pins s σ H D I h
    · obtain ⟨t, b⟩ := ha pn xe
      have pe := pe_callX (X := X.tr pn xe) (W := W) (p := p) F tk hG hr hg hm hk hb b hdb he hpl
      refine (pss_one (hst pn xe _ pe)).run pins s σ H D I (hwr _ D σ H fun Q => ?_)
      obtain ⟨ρ, Fr, Fz, δ, ds, δ1, c', d, r, e1, hn, e2, q⟩ := h
      exact b.sn r e1 fun F1 vs H1 s1 r1 d1 => spX_vals r1 d1 hn e2 fun F' u dx H' s2 r2 hx du => q F' u dx H' (s1.trans s2) r2 hx du
  · obtain ⟨t, b⟩ := hsu a pn
    exact pss_canon b
end
end CW

namespace CW
open PySem PySem.Spec PyProof.Rows L2
/-! what the head reads of a class -/
def iniBody : FuncBody → Bool
  | .stmts [.Expr (.Call (.Attribute (.Call (.Name s _) [] [] _) i ap) [.Name v _] [] cp) _, .Assign [.Attribute (.Name sf _) vl _] (.Name v2 _) _] =>
    decide (s = "super") && (decide (i = "__init__") && (decide (v = "value") && (decide (sf = "self") && (decide (vl = "value") && (decide (v2 = "value") && (ap.endLine == cp.line))))))
  | _ => false
theorem iniBody_ok {b : FuncBody} (h : iniBody b = true) : ∃ p0 p1 ap vp cp ep sp avp v2p asp : Pos, b = .stmts [.Expr (.Call (.Attribute (.Call (.Name "super" p0) [] [] p1) "__init__" ap) [.Name "value" vp] [] cp) ep, .Assign [.Attribute (.Name "self" sp) "value" avp] (.Name "value" v2p) asp] ∧ (ap.endLine == cp.line) = true := by
  unfold iniBody at h
  split at h
  · obtain ⟨h1, h⟩ := Bool.and_eq_true_iff.mp h
    obtain ⟨h2, h⟩ := Bool.and_eq_true_iff.mp h
    obtain ⟨h3, h⟩ := Bool.and_eq_true_iff.mp h
    obtain ⟨h4, h⟩ := Bool.and_eq_true_iff.mp h
    obtain ⟨h5, h⟩ := Bool.and_eq_true_iff.mp h
    obtain ⟨h6, h7⟩ := Bool.and_eq_true_iff.mp h
    cases of_decide_eq_true h1
    cases of_decide_eq_true h2
    cases of_decide_eq_true h3
    cases of_decide_eq_true h4
    cases of_decide_eq_true h5
    cases of_decide_eq_true h6
    exact ⟨_, _, _, _, _, _, _, _, _, _, rfl, h7⟩
  · cases h
def iniPar : Arguments → Bool
  | ⟨[], [a0, a1], none, [], [], none, _⟩ => decide (a0.arg = "self") && decide (a1.arg = "value")
  | _ => false
theorem iniPar_ok {p : Arguments} (h : iniPar p = true) : ∃ (a0 a1 : Arg) (dfs : List Expr), p = ⟨[], [a0, a1], none, [], [], none, dfs⟩ ∧ a0.arg = "self" ∧ a1.arg = "value" := by
  unfold iniPar at h
  split at h
  · obtain ⟨h1, h2⟩ := Bool.and_eq_true_iff.mp h
    exact ⟨_, _, _, rfl, of_decide_eq_true h1, of_decide_eq_true h2⟩
  · cases h
def iniScope : Scope := ⟨.function, [("self", .local), ("value", .local), ("__class__", .free), ("super", .globalImplicit)], false, false, []⟩
def iniCell (K : PySem.W.Frag) (C : Addr) : List (Str × Addr) → Bool
  | [(n, cc)] => decide (n = "__class__") && (match K.lookup cc with
    | some ⟨_, _, .cell (some (.ref D)), _⟩ => decide (D = C)
    | _ => false)
  | _ => false
theorem iniCell_ok {K : PySem.W.Frag} {C : Addr} {l : List (Str × Addr)} (h : iniCell K C l = true) : ∃ (cc : Addr) (cl : Value) (cd : Option Addr) (cs : Array (Option Value)), l = [(("__class__" : Str), cc)] ∧ K.lookup cc = some ⟨cl, cd, .cell (some (.ref C)), cs⟩ := by
  unfold iniCell at h
  split at h
  · obtain ⟨h1, h2⟩ := Bool.and_eq_true_iff.mp h
    cases of_decide_eq_true h1
    split at h2
    · rename_i q
      cases of_decide_eq_true h2
      exact ⟨_, _, _, _, rfl, q⟩
    · cases h2
  · cases h
def atStr (o : Option Value) (file : Str) : Bool := match o with
  | some (.str f _) => decide (f = file)
  | _ => false
def iniCode (K : PySem.W.Frag) (file : Str) : Value → Bool
  | .ref cda => (match K.lookup cda with
    | some ⟨_, _, .fields vs, _⟩ => atStr (vs[2]?) file
    | _ => false)
  | _ => false
theorem iniCode_ok {K : PySem.W.Frag} {file : Str} {v : Value} (h : iniCode K file v = true) : ∃ (cda : Addr) (kl : Value) (kd : Option Addr) (vs : Array Value) (ks : Array (Option Value)) (tf : Tok), v = .ref cda ∧ K.lookup cda = some ⟨kl, kd, .fields vs, ks⟩ ∧ vs[2]? = some (.str file tf) := by
  unfold iniCode at h
  split at h
  · split at h
    · rename_i q
      unfold atStr at h
      split at h
      · rename_i q2
        cases of_decide_eq_true h
        exact ⟨_, _, _, _, _, _, rfl, q, q2⟩
      · cases h
    · cases h
  · cases h
def iniDfl (K : PySem.W.Frag) : Value → Bool
  | .ref d => (match K.lookup d with
    | some ⟨_, _, .seq its _, _⟩ => (match its with
      | ⟨[.none]⟩ => true
      | _ => false)
    | _ => false)
  | _ => false
theorem iniDfl_ok {K : PySem.W.Frag} {v : Value} (h : iniDfl K v = true) : ∃ (d : Addr) (n : Nat) (dl : Value) (dd : Option Addr) (ds : Array (Option Value)), v = .ref d ∧ K.lookup d = some ⟨dl, dd, .seq #[.none] n, ds⟩ := by
  unfold iniDfl at h
  split at h
  · split at h
    · rename_i q
      split at h
      · exact ⟨_, _, _, _, _, rfl, q⟩
      · cases h
    · cases h
  · cases h
def iniB (K : PySem.W.Frag) (file : Str) (C fI : Addr) : Bool := match K.lookup fI with
  | some ⟨_, _, .func fd, _⟩ => iniPar fd.params && (iniBody fd.body && (decide (fd.scope = iniScope) && (decide (fd.globals = mainGlobals) && (decide (fd.builtins = builtinsNs) && (iniCell K C fd.closure && (PySem.W.codeIn K fd.code fd.qualname && (iniCode K file fd.code && iniDfl K fd.defaults)))))))
  | _ => false
def clsB (K : PySem.W.Frag) (C : Addr) : Bool := match K.lookup C with
  | some ⟨.type t, _, .cls cd, ⟨[_, _, _, _, some (.builtin n), _]⟩⟩ => decide (t = "type") && (decide (n = "ValueError.__new__") && (cd.hasDict && (!cd.hasDel && (match cd.mro with
    | .ref D :: bm => decide (D = C) && PySem.HandSPX.refsVE bm
    | _ => false))))
  | _ => false
theorem clsB_ok {K : PySem.W.Frag} {C : Addr} (h : clsB K C = true) : ∃ nm q N bs bm sn sub ab col dd k0 k1 k2 k3 k5, K.lookup C = some (excClassObj nm q C N bs bm true sn sub ab col dd k0 k1 k2 k3 k5 "ValueError.__new__") ∧ PySem.HandSPX.refsVE bm = true := by
  unfold clsB at h
  split at h
  · rename_i t dd cd k0 k1 k2 k3 n k5 q
    obtain ⟨h1, h⟩ := Bool.and_eq_true_iff.mp h
    obtain ⟨h2, h⟩ := Bool.and_eq_true_iff.mp h
    obtain ⟨h3, h⟩ := Bool.and_eq_true_iff.mp h
    obtain ⟨h4, h⟩ := Bool.and_eq_true_iff.mp h
    obtain ⟨c1, c2, c3, c4, c5, c6, c7, c8, c9, c10, c11⟩ := cd
    dsimp only at h h3 h4
    split at h
    · obtain ⟨h5, h6⟩ := Bool.and_eq_true_iff.mp h
      cases of_decide_eq_true h1
      cases of_decide_eq_true h2
      cases of_decide_eq_true h5
      cases h3
      cases c11 with
      | true => cases h4
      | false => exact ⟨_, _, _, _, _, _, _, _, _, _, _, _, _, _, _, q, h6⟩
    · cases h
  · cases h
def oO (a b : Option (Option Value)) : Bool := decide (a = b)
/-- all that is asked of the class that the module's name x tells -/
def excB (K : PySem.W.Frag) (file x : Str) : Bool :=
  clsB K (He.ga K x) && (oO (PySem.W.findIn K (.ref (He.ga K x)) "__setattr__") (some (some (.builtin "object.__setattr__"))) && (decide (PySem.W.subIn K (.ref (He.ga K x)) (.type "BaseException") = some true) && (decide (PySem.W.typeIn K (.ref (He.ga K x)) = some (.type "type")) && (PySem.W.keepIn K (.ref (He.ga K x)) &&
  (xfB K (He.ga K x) && (oO (PySem.W.findIn K (.ref (He.ga K x)) "__init__") (some (some (.ref (He.ma K (He.ga K x) "__init__")))) && (decide (PySem.W.typeIn K (.ref (He.ma K (He.ga K x) "__init__")) = some (.type "function")) && (oO (PySem.W.findIn K (.ref (He.ga K x)) "value") (some none) &&
  (oO (PySem.W.ks_superIn K (He.ga K x) (He.ga K x) "__init__") (some (some (.builtin "ValueError.__init__"))) && (decide (PySem.W.subIn K (.ref (He.ga K x)) (.type "ValueError") = some true) && (decide (PySem.W.mroIn K (He.ga K x) (.ref (He.ga K x)) = some true) && (oO (PySem.W.nsIn K cStatics "thirdparty.any") (some none) &&
  (decide (PySem.W.exmOne K (.ref (He.ga K x)) (.ref (He.ga K x)) = some true) && iniB K file (He.ga K x) (He.ma K (He.ga K x) "__init__"))))))))))))))
structure XAll (file : Str) (K : PySem.W.Frag) (x : Str) : Prop where
  cls : XCls file K (He.ga K x) (He.ma K (He.ga K x) "__init__")
  xf : XfOk K x
  exm : PySem.W.exmOne K (.ref (He.ga K x)) (.ref (He.ga K x)) = some true
theorem excB_ok {K : PySem.W.Frag} {file x : Str} (h : excB K file x = true) : XAll file K x := by
  unfold excB at h
  obtain ⟨a1, h⟩ := Bool.and_eq_true_iff.mp h
  obtain ⟨a2, h⟩ := Bool.and_eq_true_iff.mp h
  obtain ⟨a3, h⟩ := Bool.and_eq_true_iff.mp h
  obtain ⟨a4, h⟩ := Bool.and_eq_true_iff.mp h
  obtain ⟨a5, h⟩ := Bool.and_eq_true_iff.mp h
  obtain ⟨a6, h⟩ := Bool.and_eq_true_iff.mp h
  obtain ⟨a7, h⟩ := Bool.and_eq_true_iff.mp h
  obtain ⟨a8, h⟩ := Bool.and_eq_true_iff.mp h
  obtain ⟨a9, h⟩ := Bool.and_eq_true_iff.mp h
  obtain ⟨a10, h⟩ := Bool.and_eq_true_iff.mp h
  obtain ⟨a11, h⟩ := Bool.and_eq_true_iff.mp h
  obtain ⟨a12, h⟩ := Bool.and_eq_true_iff.mp h
  obtain ⟨a13, h⟩ := Bool.and_eq_true_iff.mp h
  obtain ⟨a14, h⟩ := Bool.and_eq_true_iff.mp h
  refine ⟨⟨⟨clsB_ok a1, of_decide_eq_true a2, of_decide_eq_true a3, of_decide_eq_true a4, a5⟩, xfB_ok a6, of_decide_eq_true a7, of_decide_eq_true a8, of_decide_eq_true a9, of_decide_eq_true a10, of_decide_eq_true a11, of_decide_eq_true a12, of_decide_eq_true a13, ?_⟩, ⟨xfB_ok a6, of_decide_eq_true a9⟩, of_decide_eq_true a14⟩
  unfold iniB at h
  split at h
  · rename_i oc od fd osl q
    obtain ⟨b1, h⟩ := Bool.and_eq_true_iff.mp h
    obtain ⟨b2, h⟩ := Bool.and_eq_true_iff.mp h
    obtain ⟨b3, h⟩ := Bool.and_eq_true_iff.mp h
    obtain ⟨b4, h⟩ := Bool.and_eq_true_iff.mp h
    obtain ⟨b5, h⟩ := Bool.and_eq_true_iff.mp h
    obtain ⟨b6, h⟩ := Bool.and_eq_true_iff.mp h
    obtain ⟨b7, h⟩ := Bool.and_eq_true_iff.mp h
    obtain ⟨b8, b9⟩ := Bool.and_eq_true_iff.mp h
    obtain ⟨a0, a1, dfs, e1, e2, e3⟩ := iniPar_ok b1
    obtain ⟨p0, p1, ap, vp, cp, ep, sp, avp, v2p, asp, e4, e5⟩ := iniBody_ok b2
    obtain ⟨cc, cl, cd, cs, e6, e7⟩ := iniCell_ok b6
    obtain ⟨cda, kl, kd, vs, ks, tf, e8, e9, e10⟩ := iniCode_ok b8
    obtain ⟨dfa, dn, dl, dd, dsl, e11, e12⟩ := iniDfl_ok b9
    exact ⟨fd, oc, od, osl, cda, cc, dfa, dn, dl, dd, dsl, p0, p1, ap, vp, cp, ep, sp, avp, v2p, asp, a0, a1, dfs, vs, tf, kl, cl, kd, cd, ks, cs, q, e1, e2, e3, e4, of_decide_eq_true b3, of_decide_eq_true b4, of_decide_eq_true b5, e6, e8, b7, e9, e10, e7, e11, e12, e5⟩
  · cases h
end CW

namespace CW
open PySem PySem.Spec PyProof.Rows L2
/-! x.append(new value), on nested data of its own -/
def mAppT (i : Nat) (m : MN) : MS := fun δ => match δ[i]? with
  | some (.tree (.list _)) => (match m δ with
    | .ok (s, δ1) => (match toT s with
      | .ok d => (match δ1[i]? with
        | some (.tree (.list ds)) => if ds.length < sizeLine then .ok (.nx, δ1.set i (.tree (.list (ds ++ [d])))) else .no
        | _ => .no)
      | .err c d => .err c d
      | .no => .no)
    | .err c d => .err c d
    | .no => .no)
  | _ => .no
section
variable {X : Cx} {K : PySem.W.Frag} {mg : Str → Option Value}
open Classical in
theorem sn_appT {t : TE} {m : MN} {i : Nat} (h : SndN K mg t m) : SndS K mg (tDrop (tBM K "list" rAppend (tVar i) (tCons t tNil))) (mAppT i m) := fun {ρ Fr F δ σ H c δ'} r e {D} q => by
  unfold mAppT at e
  split at e
  · rename_i ds0 e0
    split at e
    · rename_i s δ1 e1
      split at e
      · rename_i d e2
        split at e
        · rename_i ds e3
          split at e
          · rename_i hz
            cases e
            obtain ⟨L0, h1, _, _⟩ := r.own
            obtain ⟨o', L1, Li, L2, g1, rfl, ⟨v0, rfl, tp0⟩, _⟩ := slotsR_at h1 e0
            cases tp0 with
            | sc _ z => cases z
            | @lst p ws0 _ M0 b0 ta0 =>
              refine ⟨.ref p, g1, Or.inl ⟨rfl, _, SqL.of b0⟩, h r e1 fun F1 v H1 s1 r1 => ?_⟩
              obtain ⟨L0, ⟨A, B, rfl, a1, a2⟩, h2, h3⟩ := r1.own
              obtain ⟨o', L1, Li, L2, g1', rfl, ⟨v0', rfl, tp⟩, g4⟩ := slotsR_at a2 e3
              rw [g1] at g1'
              cases g1'
              cases tp with
              | sc _ z => cases z
              | @lst _ ws _ M b1 ta =>
                have tv := slot_toT e2 a1
                have hp := h3 p (by simp)
                have hne : ∀ a ∈ (A ++ (L1 ++ M ++ L2)), a ≠ p := by
                  intro a ha z
                  subst z
                  have pm : (A ++ (L1 ++ (a :: M ++ L2))).Perm (a :: (A ++ (L1 ++ M ++ L2))) := by
                    have := @List.perm_middle _ a (A ++ L1) (M ++ L2)
                    simpa using this
                  exact (List.nodup_cons.mp (pm.nodup_iff.mp h2)).1 ha
                refine ⟨p, ws, v, rfl, rfl, b1, by rw [tpa_len ta]; exact hz, q F1 σ _ s1 ?_⟩
                refine ⟨fun a u z => ?_, fun a u z => ?_, r1.dis, L1 ++ ((p :: (M ++ (A ++ []))) ++ L2), ?_, ?_, fun a ha => h3 a ?_⟩
                · rw [upd_ne (ne_of_none z hp.1)]; exact r1.sub a u z
                · rw [upd_ne (ne_of_none z hp.2)]; exact r1.fr a u z
                · have z := g4 (F' := F1) (H' := upd H1 p (.lst (ws ++ [v]))) (Same.refl _) (fun a ha => upd_ne (hne a (by rcases List.mem_append.mp ha with w | w <;> simp [w]))) (.tree (.list (ds ++ [d]))) (some (.ref p)) (p :: (M ++ (A ++ [])))
                    ⟨_, rfl, .lst upd_same (tpa_app (tpa_mono (Same.refl _) _ _ _ (fun a ha => upd_ne (hne a (by simp [ha]))) ta) (.cons (tp_mono (Same.refl _) _ _ _ (fun a ha => upd_ne (hne a (by simp [ha]))) tv) .nil))⟩
                  rw [set_self g1] at z
                  exact z
                · have pm : (A ++ (L1 ++ ((p :: M) ++ L2))).Perm (L1 ++ ((p :: (M ++ (A ++ []))) ++ L2)) := by
                    rw [List.perm_iff_count]
                    intro x
                    simp [List.count_append, List.count_cons]
                    omega
                  exact pm.nodup_iff.mp h2
                · simp only [List.mem_append, List.mem_cons, List.not_mem_nil, or_false] at ha ⊢
                  rcases ha with z | (z | z | z) | z <;> simp [z]
          · cases e
        · cases e
      · cases e
      · cases e
    · cases e
    · cases e
  · cases e
theorem rs_appT (i : Nat) {x : Str} {a : Expr} {t : TE} {m : MN} {p1 apos cpos pos : Pos} (ha : RN X a t m) (hN : X.N[i]? = some x := by rfl) (hv : Vis X.env.scope x := by first | exact Or.inl rfl | exact Or.inr (Or.inl rfl) | exact Or.inr (Or.inr rfl)) (hd : (x == ("__debug__" : Str)) = false := by decide)
    (hcd : (x == ("__classdict__" : Str)) = false := by decide)
    (hfew : ((backTo cpos (starEach [a] X.env)).all (fun x => !x.1) && (backToKw cpos (keywordEach [] X.env)).all (fun x => x.1.isSome)
      && decide (([a] : List Expr).length + ([] : List Keyword).length + (if ([] : List Keyword).isEmpty then 0 else 1) < 30)) = true := by rfl)
    (hline : (apos.endLine == cpos.line) = true := by rfl) (hs : starEach [a] X.env = (false, eval a X.env) :: starEach [] X.env := by rfl) (hplain : (backTo cpos (starEach [] X.env)).any (·.1) = false := by rfl)
    (hsw : swapsWith (.Call (.Attribute (.Name x p1) "append" apos) [a] [] cpos) none pos.line X.env = pure false := by rfl) :
    RS X (.Expr (.Call (.Attribute (.Name x p1) "append" apos) [a] [] cpos) pos) (tDrop (tBM X.K "list" rAppend (tVar i) (tCons t tNil))) (mAppT i m) :=
  ⟨ps_expr (pe_bm PySem.F.plainAttrs_list PySem.F.slot_list_append PySem.F.type_list_append mt_append (pe_var hN hv hd hcd) (pa_cons ha.pe pa_nil hs) rfl hfew hline hs hplain) hsw, sn_appT ha.sn⟩
theorem ev_appT {i : Nat} {m : MN} {δ δ1 δ3 : Ev} {s : Sl} {d : PyData} {ds0 ds : List PyData} (h0 : δ[i]? = some (.tree (.list ds0))) (h : m δ = .ok (s, δ1)) (h2 : toT s = .ok d) (h3 : δ1[i]? = some (.tree (.list ds))) (hz : ds.length < sizeLine) (h6 : δ1.set i (.tree (.list (ds ++ [d]))) = δ3) : mAppT i m δ = .ok (.nx, δ3) := by
  unfold mAppT
  rw [h0]; simp only []
  rw [h]; simp only []
  rw [h2]; simp only []
  rw [h3]; simp only []
  rw [if_pos hz, h6]
/-! what is evaluated of try, raise -/
theorem ev_try_err {c : Str} {i n : Nat} {f : FM} {as : MA} {mok ms : MS} {δ δ1 δ2 : Ev} {ds : List PyData} {d : PyData} (h : as δ = .ok (ds, δ1)) (hn : ds.length = n) (he : f (ds.map .val) = .err c d) (hi : i < δ1.length) (hs : ms (δ1.set i (.val (.dict [(.str c, d)]))) = .ok (.nx, δ2)) :
    mTry c i n f as mok ms δ = .ok (.nx, δ2.set i .emp) := by
  unfold mTry
  rw [h]; simp only []
  rw [if_pos hn, he]; simp only []
  rw [if_pos ⟨trivial, hi⟩, hs]
theorem ev_try_ret {c : Str} {i n : Nat} {f : FM} {as : MA} {mok ms : MS} {δ δ1 δ2 : Ev} {ds : List PyData} {d : PyData} {s : Sl} (h : as δ = .ok (ds, δ1)) (hn : ds.length = n) (he : f (ds.map .val) = .err c d) (hi : i < δ1.length) (hs : ms (δ1.set i (.val (.dict [(.str c, d)]))) = .ok (.rt s, δ2)) :
    mTry c i n f as mok ms δ = .ok (.rt s, δ2) := by
  unfold mTry
  rw [h]; simp only []
  rw [if_pos hn, he]; simp only []
  rw [if_pos ⟨trivial, hi⟩, hs]
theorem ev_try_ok {c : Str} {i n : Nat} {f : FM} {as : MA} {mok ms : MS} {δ δ1 : Ev} {ds : List PyData} {r : Res (Ctl × Ev)} (h : as δ = .ok (ds, δ1)) (he : ∀ c d, f (ds.map .val) ≠ .err c d) (hs : mok δ = r) : mTry c i n f as mok ms δ = r := by
  unfold mTry
  rw [h]; simp only []
  by_cases hn : ds.length = n
  · rw [if_pos hn]
    cases q : f (ds.map .val) with
    | err c d => exact absurd q (he c d)
    | ok x => exact hs
    | no => exact hs
  · rw [if_neg hn]
    exact hs
theorem ev_fldV {cs : List Str} {m : ME} {δ δ1 : Ev} {x : Str} {d : PyData} (h : m δ = .ok (.dict [(.str x, d)], δ1)) (hx : x ∈ cs) : mFldV cs m δ = .ok (d, δ1) := by
  unfold mFldV
  rw [h]; simp only []
  rw [if_pos hx]
theorem ex_fn {nl : Nat} {m : MS} {as : Ev} {c : Str} {d : PyData} (h : m (as ++ List.replicate nl .emp) = .err c d) : fnX nl m as = .err c d := by
  unfold fnX
  rw [h]
theorem ex_raise {c : Str} {me : ME} {δ δ1 : Ev} {d : PyData} (h : me δ = .ok (d, δ1)) : xRaise c me δ = .err c d := by
  unfold xRaise
  rw [h]
theorem ex_call {n : Nat} {f : FM} {as : MA} {δ δ1 : Ev} {ds : List PyData} {c : Str} {d : PyData} (h : as δ = .ok (ds, δ1)) (hn : ds.length = n) (he : f (ds.map .val) = .err c d) : xCall n f as δ = .err c d := by
  unfold xCall
  rw [h]; simp only []
  rw [if_pos hn, he]
theorem ex_ifT {c : MT} {a b : MS} {δ δ1 : Ev} {p : Bool} {r : Res (Ctl × Ev)} (h : c δ = .ok (p, δ1)) (hp : p = true) (h2 : a δ1 = r) : xIf c a b δ = r := by
  subst hp
  unfold xIf
  rw [h]
  exact h2
theorem ex_ifF {c : MT} {a b : MS} {δ δ1 : Ev} {p : Bool} {r : Res (Ctl × Ev)} (h : c δ = .ok (p, δ1)) (hp : p = false) (h2 : b δ1 = r) : xIf c a b δ = r := by
  subst hp
  unfold xIf
  rw [h]
  exact h2
theorem ex_seq {a b : MS} {δ δ1 : Ev} {r : Res (Ctl × Ev)} (h : a δ = .ok (.nx, δ1)) (h2 : b δ1 = r) : xSeq a b δ = r := by
  unfold xSeq
  rw [h]
  exact h2
theorem ex_fst {x a : MS} {δ : Ev} {c : Str} {d : PyData} (h : x δ = .err c d) : xBoth x a δ = .err c d := by
  unfold xBoth
  rw [h]
theorem ex_snd {x a : MS} {δ : Ev} {r : Res (Ctl × Ev)} (h : ∀ c d, x δ ≠ .err c d) (h2 : a δ = r) : xBoth x a δ = r := by
  unfold xBoth
  split
  · rename_i q
    exact absurd q (h _ _)
  · exact h2
end
end CW

namespace CW
open PySem PySem.Spec PyProof.Rows L2
section
variable {X : Cx} {K : PySem.W.Frag} {mg : Str → Option Value}
/-! a name that is read while it may be held by its address -/
def mVw (i : Nat) : ME := fun δ => match δ[i]? with
  | some (.vk _ d) => .ok (d, δ)
  | some (.val d) => .ok (d, δ)
  | _ => .no
theorem sn_vw (i : Nat) : SndE K mg (tVar i) (mVw i) := fun {ρ Fr F δ σ H d δ'} r e {Q} q => by
  unfold mVw at e
  split at e
  · rename_i k d0 e0
    cases e
    obtain ⟨L, h1, h2, h3⟩ := r.own
    obtain ⟨o, L1, Li, L2, e1, e2, ⟨_, rfl, e3⟩, _⟩ := slotsR_at h1 e0
    exact ⟨_, e1, q F _ H (Same.refl _) r e3⟩
  · rename_i d0 e0
    cases e
    obtain ⟨L, h1, h2, h3⟩ := r.own
    obtain ⟨o, L1, Li, L2, e1, e2, ⟨_, v, rfl, e3⟩, _⟩ := slotsR_at h1 e0
    exact ⟨_, e1, q F _ H (Same.refl _) r e3⟩
  · cases e
theorem re_vw (i : Nat) {x : Str} {pos : Pos} (hN : X.N[i]? = some x := by rfl) (hv : Vis X.env.scope x := by first | exact Or.inl rfl | exact Or.inr (Or.inl rfl) | exact Or.inr (Or.inr rfl)) (hd : (x == ("__debug__" : Str)) = false := by decide)
    (hcd : (x == ("__classdict__" : Str)) = false := by decide) : RE X (.Name x pos) (tVar i) (mVw i) := ⟨pe_var hN hv hd hcd, sn_vw i⟩
/-- no slot is told by key j -/
def keyFree (j : Nat) : Ev → Bool
  | [] => true
  | .io k _ :: ss => decide (k ≠ j) && keyFree j ss
  | .vk k _ :: ss => decide (k ≠ j) && keyFree j ss
  | _ :: ss => keyFree j ss
abbrev noKey1 (δ : Ev) : Bool := keyFree 1 δ
theorem slots_rhoK {j : Nat} {ρ ρ' : Nat → Addr} (hρ : ∀ k, k ≠ j → ρ' k = ρ k) {F F' H : Hp} (e : Same F F') : ∀ {δ : Ev} {σ : L2.St} {L : List Addr}, keyFree j δ = true → SlotsR K mg ρ F H δ σ L → SlotsR K mg ρ' F' H δ σ L
  | [], [], _, _, h => h
  | [], _ :: _, _, _, h => h.elim
  | _ :: _, [], _, _, h => h.elim
  | s :: ss, o :: os, _, k, h => by
    obtain ⟨L1, L2, rfl, h1, h2⟩ := h
    have h1' := slotR_mono (H' := H) e (fun _ _ => rfl) h1
    cases s with
    | emp => exact ⟨L1, L2, rfl, h1', slots_rhoK hρ e k h2⟩
    | val d => exact ⟨L1, L2, rfl, h1', slots_rhoK hρ e k h2⟩
    | own xs => exact ⟨L1, L2, rfl, h1', slots_rhoK hρ e k h2⟩
    | fn x => exact ⟨L1, L2, rfl, h1', slots_rhoK hρ e k h2⟩
    | tree d => exact ⟨L1, L2, rfl, h1', slots_rhoK hρ e k h2⟩
    | vk i d =>
      unfold keyFree at k
      rw [Bool.and_eq_true, decide_eq_true_eq] at k
      refine ⟨L1, L2, rfl, ?_, slots_rhoK hρ e k.2 h2⟩
      show L1 = [] ∧ o = some (.ref (ρ' i)) ∧ Dp K F' (.ref (ρ' i)) d
      rw [hρ i k.1]
      exact h1'
    | io i xs =>
      unfold keyFree at k
      rw [Bool.and_eq_true, decide_eq_true_eq] at k
      refine ⟨L1, L2, rfl, ?_, slots_rhoK hρ e k.2 h2⟩
      show o = some (.ref (ρ' i)) ∧ L1 = [ρ' i] ∧ ∃ vs, H (ρ' i) = some (.lst vs) ∧ DpAll K F' vs xs
      rw [hρ i k.1]
      exact h1'
theorem slots_rho1 {ρ ρ' : Nat → Addr} (hρ : ∀ k, k ≠ 1 → ρ' k = ρ k) {F F' H : Hp} (e : Same F F') : ∀ {δ : Ev} {σ : L2.St} {L : List Addr}, noKey1 δ = true → SlotsR K mg ρ F H δ σ L → SlotsR K mg ρ' F' H δ σ L := slots_rhoK hρ e
theorem slots_vk {ρ : Nat → Addr} {F H : Hp} {k : Nat} {d : PyData} : ∀ {δ : Ev} {σ : L2.St} {L : List Addr}, SlotsR K mg ρ F H δ σ L → Sl.vk k d ∈ δ → Dp K F (.ref (ρ k)) d
  | [], _, _, _, h => (nomatch h)
  | _ :: _, [], _, h, _ => h.elim
  | s :: ss, o :: os, _, h, hm => by
    obtain ⟨L1, L2, rfl, h1, h2⟩ := h
    rcases List.mem_cons.mp hm with rfl | q
    · exact h1.2.2
    · exact slots_vk h2 q
def keepQ : Sl → Sl → Option Sl
  | .vk k d, .vk j _ => if k = j ∧ k ≠ 1 then some (.vk k d) else none
  | _, s => keepP s
def keepK : Ev → Ev → Option Ev
  | [], [] => some []
  | s0 :: ss0, s :: ss => match keepQ s0 s, keepK ss0 ss with
    | some t, some ts => some (t :: ts)
    | _, _ => none
  | _, _ => none
theorem slots_keepK {ρ ρ' : Nat → Addr} (hρ : ∀ k, k ≠ 1 → ρ' k = ρ k) {F H : Hp} {Li : List Addr} (hL : ∀ a ∈ Li, ∃ vs, F a = some (.lst vs)) : ∀ {δ0 δ δ2 : Ev} {σ : L2.St} {L : List Addr}, (∀ k d, Sl.vk k d ∈ δ0 → Dp K (less F Li) (.ref (ρ k)) d) → keepK δ0 δ = some δ2 → SlotsR K mg ρ' F H δ σ L → ∃ L', SlotsR K mg ρ (less F Li) H δ2 σ L' ∧ L'.Sublist L
  | [], [], δ2, [], L, _, e, h => by
    cases e
    exact ⟨L, h, List.Sublist.refl _⟩
  | [], [], _, _ :: _, _, _, _, h => h.elim
  | [], _ :: _, _, _, _, _, e, _ => by unfold keepK at e; cases e
  | _ :: _, [], _, _, _, _, e, _ => by unfold keepK at e; cases e
  | _ :: _, _ :: _, _, [], _, _, _, h => h.elim
  | s0 :: ss0, s :: ss, δ2, o :: os, _, hd, e, h => by
    obtain ⟨L1, L2, rfl, h1, h2⟩ := h
    unfold keepK at e
    split at e
    · rename_i t ts e1 e2
      cases e
      obtain ⟨M2, g2, s2⟩ := slots_keepK hρ hL (fun k d hm => hd k d (List.mem_cons_of_mem _ hm)) e2 h2
      have one : ∀ {s : Sl}, keepP s = some t → SlotR K mg ρ' F H s o L1 → ∃ M1, SlotR K mg ρ (less F Li) H t o M1 ∧ M1.Sublist L1 := by
        intro s e1 h1
        have z := slots_keep (ρ := ρ) hρ hL (δ := [s]) (δ2 := [t]) (σ := [o]) (L := L1) (by unfold keepPs; rw [e1]; rfl) ⟨L1, [], by simp, h1, rfl⟩
        obtain ⟨L', ⟨N1, N2, rfl, z1, z2⟩, z3⟩ := z
        have z2' : N2 = [] := z2
        subst z2'
        exact ⟨N1, z1, by simpa using z3⟩
      have key : ∃ M1, SlotR K mg ρ (less F Li) H t o M1 ∧ M1.Sublist L1 := by
        unfold keepQ at e1
        split at e1
        · rename_i k d j d1
          split at e1
          · rename_i hk
            obtain ⟨rfl, hk⟩ := hk
            cases e1
            obtain ⟨rfl, ho, _⟩ := h1
            refine ⟨[], ⟨rfl, ?_, hd k d (List.mem_cons_self ..)⟩, List.Sublist.refl _⟩
            rw [ho, hρ k hk]
          · cases e1
        · exact one e1 h1
      obtain ⟨M1, g1, s1⟩ := key
      exact ⟨M1 ++ M2, ⟨M1, M2, rfl, g1, g2⟩, List.Sublist.append s1 s2⟩
    · cases e
/-- nested data of its own that is lent for a while; held names stay -/
def mPinK (i : Nat) (m : MS) : MS := fun δ => match δ[i]? with
  | some (.tree d) => if (kidsD d).isSome = true ∧ noKey1 δ = true then (match m (δ.set i (.vk 1 d)) with
    | .ok (.nx, δ') => (match δ'[i]? with
      | some (.vk 1 _) => (match keepK (δ.set i .emp) (δ'.set i .emp) with
        | some δ2 => .ok (.nx, δ2.set i (.tree d))
        | none => .no)
      | _ => .no)
    | .err c d => .err c d
    | _ => .no) else .no
  | _ => .no
open Classical in
theorem sn_pinK {t : TS} {m : MS} {i : Nat} (h : SndS K mg t m) : SndS K mg t (mPinK i m) := fun {ρ Fr F δ σ H c δ'} r e {D} q => by
  unfold mPinK at e
  split at e
  · rename_i d e0
    split at e
    · rename_i hk
      obtain ⟨hk1, hk2⟩ := hk
      split at e
      · rename_i δ1 e1
        split at e
        · rename_i d9 e2
          split at e
          · rename_i δ2 e3
            cases e
            obtain ⟨L, h1, h2, h3⟩ := r.own
            obtain ⟨o, L1, Li, L2, g1, rfl, ⟨v, rfl, tp⟩, g4⟩ := slotsR_at h1 e0
            obtain ⟨a0, rfl⟩ : ∃ a0, v = .ref a0 := by
              cases d with
              | list ds =>
                obtain ⟨p, _, _, z, _⟩ := tp_list tp
                exact ⟨p, z⟩
              | tuple ds =>
                obtain ⟨p, _, z, _⟩ := tp_tup tp
                exact ⟨p, z⟩
              | none => cases hk1
              | bool b => cases hk1
              | int j => cases hk1
              | str x => cases hk1
              | dict x => cases hk1
            have n1 := List.nodup_append.mp h2
            have n2 := List.nodup_append.mp n1.2.1
            let F1 : Hp := fun a => if a ∈ Li then H a else F a
            have F1in : ∀ a ∈ Li, F1 a = H a := fun a ha => if_pos ha
            have F1out : ∀ a, a ∉ Li → F1 a = F a := fun a ha => if_neg ha
            have hF1 : Same F F1 := fun a u e => by
              have z : a ∉ Li := fun z => by rw [(h3 a (by simp [z])).1] at e; cases e
              rw [F1out a z]; exact e
            have subF1 : Same F1 H := fun a u e => by
              by_cases z : a ∈ Li
              · rw [F1in a z] at e; exact e
              · rw [F1out a z] at e; exact r.sub a u e
            let ρ1 : Nat → Addr := fun k => if k = 1 then a0 else ρ k
            have hρ : ∀ k, k ≠ 1 → ρ1 k = ρ k := fun k hk => if_neg hk
            have ρ11 : ρ1 1 = a0 := if_pos rfl
            -- the slots with the loan
            have z0 := g4 (F' := F) (H' := H) (Same.refl _) (fun _ _ => rfl) .emp (some (.ref a0)) [] rfl
            rw [set_self g1] at z0
            have nk : ∀ {δ : Ev} {i : Nat}, noKey1 δ = true → noKey1 (δ.set i .emp) = true := by
              intro δ
              induction δ with
              | nil => intro i h; exact h
              | cons s ss ih =>
                intro i h
                cases i with
                | zero =>
                  show noKey1 (.emp :: ss) = true
                  cases s <;> first | exact h | (unfold noKey1 keyFree at h; rw [Bool.and_eq_true] at h; exact h.2)
                | succ i =>
                  show noKey1 (s :: ss.set i .emp) = true
                  cases s <;> first | exact ih h | (unfold noKey1 keyFree at h ⊢; rw [Bool.and_eq_true] at h ⊢; exact ⟨h.1, ih h.2⟩)
            have z1 := slots_rho1 (K := K) (mg := mg) hρ hF1 (nk hk2) z0
            have e0' : (δ.set i Sl.emp)[i]? = some .emp := by
              have hl := (List.getElem?_eq_some_iff.mp e0).1
              rw [List.getElem?_set_self hl]
            obtain ⟨o', A1, Ai, A2, q1, q2, q3, q4⟩ := slotsR_at z1 e0'
            have q3' : Ai = [] := q3
            subst q3'
            rw [g1] at q1
            cases q1
            have dpv : Dp K F1 (.ref a0) d := tp_see hF1 d _ Li F1in tp
            have z2 := q4 (F' := F1) (H' := H) (Same.refl _) (fun _ _ => rfl) (.vk 1 d) (some (.ref a0)) [] ⟨rfl, by rw [ρ11], by rw [ρ11]; exact dpv⟩
            rw [List.set_set, set_self g1] at z2
            have LL : L1 ++ ([] ++ L2) = A1 ++ ([] ++ A2) := q2
            rw [← LL] at z2
            have r1 : Rel K mg ρ1 Fr F1 (δ.set i (.vk 1 d)) σ H := by
              refine ⟨subF1, r.fr, fun a ha => ?_, L1 ++ ([] ++ L2), z2, ?_, fun a ha => ?_⟩
              · by_cases z : a ∈ Li
                · exact absurd (h3 a (by simp [z])).2 ha
                · rw [F1out a z]; exact r.dis a ha
              · exact h2.sublist (List.Sublist.append (List.Sublist.refl _) (by simp))
              · have hm : a ∈ L1 ∨ a ∈ L2 := by simpa using ha
                have z : a ∉ Li := fun z => by
                  rcases hm with w | w
                  · exact n1.2.2 a w a (by simp [z]) rfl
                  · exact n2.2.2 a z a w rfl
                rw [F1out a z]
                exact h3 a (by rcases hm with w | w <;> simp [w])
            refine h r1 e1 ?_
            show ∀ F' σ' H', Same F1 F' → Rel K mg ρ1 Fr F' δ1 σ' H' → D.nx σ' H'
            intro F' σ' H' s' r'
            obtain ⟨M, k1, k2, k3⟩ := r'.own
            obtain ⟨o2, M1, Mi, M2, u1, rfl, ⟨rfl, rfl, _⟩, u4⟩ := slotsR_at k1 e2
            rw [ρ11] at u1
            have lsF : ∀ a ∈ Li, F' a = H a ∧ ∃ vs, F' a = some (.lst vs) := fun a ha => by
              obtain ⟨vs, ev⟩ := tp_mem _ _ _ tp a ha
              have y : F' a = some (.lst vs) := s' a _ (by rw [F1in a ha]; exact ev)
              exact ⟨by rw [y, ev], vs, y⟩
            have w0 := u4 (F' := F') (H' := H') (Same.refl _) (fun _ _ => rfl) .emp (some (.ref a0)) [] rfl
            rw [set_self u1] at w0
            have lessF : Same F (less F' Li) := fun a u e => by
              have z : a ∉ Li := fun z => by rw [(h3 a (by simp [z])).1] at e; cases e
              show (if a ∈ Li then none else F' a) = _
              rw [if_neg z]
              exact s' a u (hF1 a u e)
            obtain ⟨N, w1, w2⟩ := slots_keepK (ρ := ρ) hρ (fun a ha => (lsF a ha).2) (δ0 := δ.set i .emp) (fun k d hm => dp_mono lessF (slots_vk z0 hm)) e3 w0
            have ki : ∀ {δ0 δ δ2 : Ev} {i : Nat}, keepK δ0 δ = some δ2 → δ[i]? = some .emp → δ2[i]? = some .emp := by
              intro δ0 δ
              induction δ generalizing δ0 with
              | nil => intro δ2 i _ h; simp at h
              | cons s ss ih =>
                intro δ2 i h h5
                cases δ0 with
                | nil => unfold keepK at h; cases h
                | cons s0 ss0 =>
                  unfold keepK at h
                  split at h
                  · rename_i e4 e5
                    cases h
                    cases i with
                    | zero =>
                      simp at h5
                      subst h5
                      have e5' : keepQ s0 .emp = some .emp := by cases s0 <;> rfl
                      rw [e5'] at e4
                      cases e4
                      rfl
                    | succ i => simpa using ih e5 (by simpa using h5)
                  · cases h
            have hl1 := (List.getElem?_eq_some_iff.mp e2).1
            have e4 : δ2[i]? = some .emp := ki e3 (by rw [List.getElem?_set_self hl1])
            obtain ⟨o3, N1, Ni, N2, v1, rfl, v3, v4⟩ := slotsR_at w1 e4
            have v3' : Ni = [] := v3
            subst v3'
            rw [u1] at v1
            cases v1
            have Hl : ∀ a ∈ Li, H' a = H a := fun a ha => by
              obtain ⟨vs, ev⟩ := (lsF a ha).2
              rw [r'.sub a _ ev, ← ev, (lsF a ha).1]
            have tpn : Tp K (less F' Li) H' (.ref a0) d Li := tp_mono lessF d _ Li Hl tp
            have x0 := v4 (F' := less F' Li) (H' := H') (Same.refl _) (fun _ _ => rfl) (.tree d) (some (.ref a0)) Li ⟨_, rfl, tpn⟩
            rw [set_self u1] at x0
            have inN : ∀ a ∈ N1 ++ N2, a ∈ M1 ++ ([] ++ M2) := fun a ha => w2.subset (by simpa using ha)
            have dj : ∀ a ∈ N1 ++ N2, a ∉ Li := fun a ha z => by
              obtain ⟨vs, ev⟩ := (lsF a z).2
              rw [(k3 a (inN a ha)).1] at ev
              cases ev
            have ndN := k2.sublist w2
            have nn := List.nodup_append.mp (show (N1 ++ ([] ++ N2)).Nodup from ndN)
            refine q (less F' Li) σ' H' lessF ⟨fun a u e => ?_, r'.fr, fun a ha => ?_, N1 ++ (Li ++ N2), x0, ?_, fun a ha => ?_⟩
            · have e' : (if a ∈ Li then none else F' a) = some u := e
              split at e'
              · cases e'
              · exact r'.sub a u e'
            · show (if a ∈ Li then none else F' a) = none
              split
              · rfl
              · exact r'.dis a ha
            · refine List.nodup_append.mpr ⟨nn.1, List.nodup_append.mpr ⟨n2.1, (List.nodup_append.mp nn.2.1).2.1, fun a ha b hb z => ?_⟩, fun a ha b hb z => ?_⟩
              · subst z
                exact dj a (by simp [hb]) ha
              · subst z
                rcases List.mem_append.mp hb with w | w
                · exact dj a (by simp [ha]) w
                · exact nn.2.2 a ha a (by simpa using w) rfl
            · by_cases z : a ∈ Li
              · exact ⟨if_pos z, (h3 a (by simp [z])).2⟩
              · have hm : a ∈ N1 ++ N2 := by
                  simp only [List.mem_append] at ha ⊢
                  rcases ha with w | w | w
                  · exact .inl w
                  · exact absurd w z
                  · exact .inr w
                have y := k3 a (inN a hm)
                refine ⟨?_, y.2⟩
                show (if a ∈ Li then none else F' a) = none
                rw [if_neg z]; exact y.1
          · cases e
        · cases e
      · cases e
      · cases e
    · cases e
  · cases e
theorem RS.pinK {st : Stmt} {t : TS} {m : MS} (i : Nat) (h : RS X st t m) : RS X st t (mPinK i m) := ⟨h.ps, sn_pinK h.sn⟩
/-- a name whose nested data is held by its address for a while -/
def mHold (k i : Nat) (m : MS) : MS := fun δ => match δ[i]? with
  | some (.val d) => if (kidsD d).isSome = true ∧ keyFree k δ = true then (match m (δ.set i (.vk k d)) with
    | .ok (.nx, δ') => (match δ'[i]? with
      | some (.vk j _) => if j = k ∧ keyFree k (δ'.set i .emp) = true then .ok (.nx, δ'.set i (.val d)) else .no
      | _ => .no)
    | .err c d => .err c d
    | _ => .no) else m δ
  | _ => m δ
open Classical in
theorem sn_hold {t : TS} {m : MS} {k i : Nat} (h : SndS K mg t m) : SndS K mg t (mHold k i m) := fun {ρ Fr F δ σ H c δ'} r e {D} q => by
  unfold mHold at e
  split at e
  · rename_i d e0
    split at e
    · rename_i hk
      obtain ⟨hk1, hk2⟩ := hk
      split at e
      · rename_i δ1 e1
        split at e
        · rename_i j d9 e2
          split at e
          · rename_i hj
            obtain ⟨rfl, hj⟩ := hj
            cases e
            obtain ⟨L, h1, h2, h3⟩ := r.own
            obtain ⟨o, L1, Li, L2, g1, rfl, ⟨hLi, v, rfl, dp⟩, g4⟩ := slotsR_at h1 e0
            subst hLi
            obtain ⟨a0, rfl⟩ : ∃ a0, v = .ref a0 := by
              cases d with
              | list ds => cases dp; exact ⟨_, rfl⟩
              | tuple ds => cases dp; exact ⟨_, rfl⟩
              | none => cases hk1
              | bool b => cases hk1
              | int j => cases hk1
              | str x => cases hk1
              | dict x => cases hk1
            let ρ1 : Nat → Addr := fun x => if x = j then a0 else ρ x
            have hρ : ∀ x, x ≠ j → ρ1 x = ρ x := fun x hx => if_neg hx
            have hρ' : ∀ x, x ≠ j → ρ x = ρ1 x := fun x hx => (hρ x hx).symm
            have ρ11 : ρ1 j = a0 := if_pos rfl
            have nk : ∀ {δ : Ev} {i : Nat}, keyFree j δ = true → keyFree j (δ.set i .emp) = true := by
              intro δ
              induction δ with
              | nil => intro i h; exact h
              | cons s ss ih =>
                intro i h
                cases i with
                | zero =>
                  show keyFree j (.emp :: ss) = true
                  cases s <;> first | exact h | (unfold keyFree at h; rw [Bool.and_eq_true] at h; exact h.2)
                | succ i =>
                  show keyFree j (s :: ss.set i .emp) = true
                  cases s <;> first | exact ih h | (unfold keyFree at h ⊢; rw [Bool.and_eq_true] at h ⊢; exact ⟨h.1, ih h.2⟩)
            have z0 := g4 (F' := F) (H' := H) (Same.refl _) (fun _ _ => rfl) .emp (some (.ref a0)) [] rfl
            rw [set_self g1] at z0
            have z1 := slots_rhoK (K := K) (mg := mg) hρ (Same.refl F) (nk hk2) z0
            have e0' : (δ.set i Sl.emp)[i]? = some .emp := by
              have hl := (List.getElem?_eq_some_iff.mp e0).1
              rw [List.getElem?_set_self hl]
            obtain ⟨o', A1, Ai, A2, q1, q2, q3, q4⟩ := slotsR_at z1 e0'
            have q3' : Ai = [] := q3
            subst q3'
            rw [g1] at q1
            cases q1
            have z2 := q4 (F' := F) (H' := H) (Same.refl _) (fun _ _ => rfl) (.vk j d) (some (.ref a0)) [] ⟨rfl, by rw [ρ11], by rw [ρ11]; exact dp⟩
            rw [List.set_set, set_self g1] at z2
            have LL : L1 ++ ([] ++ L2) = A1 ++ ([] ++ A2) := q2
            rw [← LL] at z2
            refine h (ρ := ρ1) ⟨r.sub, r.fr, r.dis, _, z2, h2, h3⟩ e1 ?_
            show ∀ F' σ' H', Same F F' → Rel K mg ρ1 Fr F' δ1 σ' H' → D.nx σ' H'
            intro F' σ' H' s' r'
            obtain ⟨M, k1, k2, k3⟩ := r'.own
            obtain ⟨o2, M1, Mi, M2, u1, rfl, ⟨hMi, rfl, _⟩, u4⟩ := slotsR_at k1 e2
            subst hMi
            rw [ρ11] at u1
            have w0 := u4 (F' := F') (H' := H') (Same.refl _) (fun _ _ => rfl) .emp (some (.ref a0)) [] rfl
            rw [set_self u1] at w0
            have w1 := slots_rhoK (K := K) (mg := mg) hρ' (Same.refl F') hj w0
            have hl1 := (List.getElem?_eq_some_iff.mp e2).1
            obtain ⟨o3, N1, Ni, N2, v1, v2, v3, v4⟩ := slotsR_at w1 (show (δ1.set i .emp)[i]? = some .emp by rw [List.getElem?_set_self hl1])
            have v3' : Ni = [] := v3
            subst v3'
            rw [u1] at v1
            cases v1
            have x0 := v4 (F' := F') (H' := H') (Same.refl _) (fun _ _ => rfl) (.val d) (some (.ref a0)) [] ⟨rfl, _, rfl, dp_mono s' dp⟩
            rw [List.set_set, set_self u1, ← v2] at x0
            exact q F' σ' H' s' ⟨r'.sub, r'.fr, r'.dis, _, x0, k2, k3⟩
          · cases e
        · cases e
      · cases e
      · cases e
    · exact h r e q
  · exact h r e q
theorem RS.hold {st : Stmt} {t : TS} {m : MS} (k i : Nat) (h : RS X st t m) : RS X st t (mHold k i m) := ⟨h.ps, sn_hold h.sn⟩
theorem ev_vwk {δ : Ev} {i k : Nat} {d : PyData} (h : δ[i]? = some (.vk k d)) : mVw i δ = .ok (d, δ) := by
  unfold mVw
  rw [h]
theorem ev_vwv {δ : Ev} {i : Nat} {d : PyData} (h : δ[i]? = some (.val d)) : mVw i δ = .ok (d, δ) := by
  unfold mVw
  rw [h]
theorem ev_pinK {δ δ1 δ2 δ3 : Ev} {i : Nat} {d d2 : PyData} {m : MS} (h0 : δ[i]? = some (.tree d)) (h1 : (kidsD d).isSome = true) (h2 : noKey1 δ = true) (h3 : m (δ.set i (.vk 1 d)) = .ok (.nx, δ1)) (h4 : δ1[i]? = some (.vk 1 d2)) (h5 : keepK (δ.set i .emp) (δ1.set i .emp) = some δ2) (h6 : δ2.set i (.tree d) = δ3) : mPinK i m δ = .ok (.nx, δ3) := by
  unfold mPinK
  rw [h0]; simp only []
  rw [if_pos ⟨h1, h2⟩, h3]; simp only []
  rw [h4]; simp only []
  rw [h5]; simp only []
  rw [h6]
theorem ev_hold {δ δ1 δ3 : Ev} {k i : Nat} {d d2 : PyData} {m : MS} (h0 : δ[i]? = some (.val d)) (h1 : (kidsD d).isSome = true) (h2 : keyFree k δ = true) (h3 : m (δ.set i (.vk k d)) = .ok (.nx, δ1)) (h4 : δ1[i]? = some (.vk k d2)) (h5 : keyFree k (δ1.set i .emp) = true) (h6 : δ1.set i (.val d) = δ3) : mHold k i m δ = .ok (.nx, δ3) := by
  unfold mHold
  rw [h0]; simp only []
  rw [if_pos ⟨h1, h2⟩, h3]; simp only []
  rw [h4]; simp only []
  rw [if_pos (by exact ⟨trivial, h5⟩), h6]
theorem ev_hold0 {δ : Ev} {r : Res (Ctl × Ev)} {k i : Nat} {d : PyData} {m : MS} (h0 : δ[i]? = some (.val d)) (h1 : (kidsD d).isSome = false) (h3 : m δ = r) : mHold k i m δ = r := by
  unfold mHold
  rw [h0]; simp only []
  rw [if_neg (by rw [h1]; simp), h3]
theorem ev_holdE {δ : Ev} {r : Res (Ctl × Ev)} {k i : Nat} {m : MS} (h0 : ∀ d, δ[i]? ≠ some (.val d)) (h3 : m δ = r) : mHold k i m δ = r := by
  unfold mHold
  split
  · rename_i d e
    exact absurd e (h0 d)
  · exact h3
/-! a part of a new list of new data -/
def mPrL (k : Int) (m : MN) : MN := fun δ => match m δ with
  | .ok (s, δ1) => (match toT s with
    | .ok (.list ds) => (match atI ds k with
      | some d => .ok (.tree d, δ1)
      | none => .no)
    | _ => .no)
  | .err c d => .err c d
  | .no => .no
theorem sn_prL {t : TE} {m : MN} {k : Int} (h : SndN K mg t m) : SndN K mg (tOp (rIx K) t (tC (.int k))) (mPrL k m) := fun {ρ Fr F δ σ H s δ'} r e {Q} q => by
  unfold mPrL at e
  split at e
  · rename_i s1 δ1 e1
    split at e
    · rename_i ds e2
      split at e
      · rename_i d e3
        cases e
        refine h r e1 fun F1 v H1 t1 r1 => ?_
        obtain ⟨L, ⟨A, B, rfl, a1, a2⟩, hn, hav⟩ := r1.own
        obtain ⟨a, xs, M0, rfl, ha, rfl, ta⟩ := tp_list (slot_toT e2 a1)
        unfold atI at e3
        cases hj : ixN ds.length k with
        | none => rw [hj] at e3; cases e3
        | some j =>
          rw [hj] at e3
          obtain ⟨w, Lj, M1, M2, w1, rfl, w2, _⟩ := tpa_at ta e3
          have ix : atI xs k = some w := by
            unfold atI
            rw [tpa_len ta, hj]
            exact w1
          refine .inl ⟨_, _, _, _, rfl, rfl, SqL.of ha, ix, ?_⟩
          refine q F1 _ _ t1 ⟨r1.sub, r1.fr, r1.dis, Lj ++ B, ⟨Lj, B, rfl, ⟨_, rfl, w2⟩, a2⟩, ?_, fun x hx => hav x ?_⟩
          · refine hn.sublist ?_
            refine List.Sublist.append ?_ (List.Sublist.refl _)
            exact (List.sublist_append_left Lj M2).trans ((List.sublist_append_right M1 (Lj ++ M2)).trans (List.sublist_cons_self ..))
          · rcases List.mem_append.mp hx with z | z <;> simp [z]
      · cases e
    · cases e
  · cases e
  · cases e
theorem rn_prL {e : Expr} {t : TE} {m : MN} {k : Int} {j cp pos} (h : RN X e t m) (hs : PlainIx (.Constant (.int k) j cp) := by exact fun _ _ => rfl) : RN X (.Subscript e (.Constant (.int k) j cp) pos) (tOp (rIx X.K) t (tC (.int k))) (mPrL k m) := ⟨pe_ix ix_seq h.pe pe_int hs, sn_prL h.sn⟩
theorem ev_prL {δ δ1 : Ev} {s : Sl} {m : MN} {d : PyData} {ds : List PyData} {k : Int} (h : m δ = .ok (s, δ1)) (h2 : toT s = .ok (.list ds)) (h3 : atI ds k = some d) : mPrL k m δ = .ok (.tree d, δ1) := by
  unfold mPrL
  rw [h]; simp only []
  rw [h2]; simp only []
  rw [h3]
end
end CW

namespace CW
open PySem PySem.Spec PyProof.Rows L2
section
variable {X : Cx} {K : PySem.W.Frag} {mg : Str → Option Value}
section
variable {ρ : Nat → Addr} {Fr F F' H H' : Hp} {δ δ' : Ev} {σ σ' : L2.St} {s : Sl} {o : Option V}
/-- the slot on top waits in the frame: its lists stay as they are -/
theorem Rel.hideL (r : Rel K mg ρ Fr F (s :: δ) (o :: σ) H) : ∃ Fr' L1, SlotR K mg ρ F H s o L1 ∧ L1.Nodup ∧ (∀ a ∈ L1, F a = none ∧ Fr a = none) ∧ Rel K mg ρ Fr' F δ σ H ∧
    ∀ {F' H' : Hp} {ts : Ev} {us : L2.St}, Rel K mg ρ Fr' F' ts us H' → (∀ a ∈ L1, H' a = H a) ∧ (∀ a ∈ L1, F' a = none) ∧ Same Fr H' ∧ (∀ a, Fr a ≠ none → F' a = none) ∧
      ∃ L', SlotsR K mg ρ F' H' ts us L' ∧ L'.Nodup ∧ (∀ a ∈ L', F' a = none ∧ Fr a = none) ∧ ∀ a ∈ L', a ∉ L1 := by
  obtain ⟨L, ⟨L1, L2, rfl, h1, h2⟩, h3, h4⟩ := r.own
  have nd := List.nodup_append.mp h3
  have hm : ∀ a ∈ L1, ∃ vs, H a = some (.lst vs) := fun a ha => slotR_mem h1 ha
  have up : ∀ a u, Fr a = some u → (if a ∈ L1 then H a else Fr a) = some u := fun a u q => by
    by_cases z : a ∈ L1
    · rw [(h4 a (List.mem_append_left _ z)).2] at q; cases q
    · rw [if_neg z]; exact q
  refine ⟨fun a => if a ∈ L1 then H a else Fr a, L1, h1, nd.1, fun a ha => h4 a (List.mem_append_left _ ha), ⟨r.sub, fun a u q => ?_, fun a ha => ?_, L2, h2, nd.2.1, fun a ha => ⟨(h4 a (List.mem_append_right _ ha)).1, ?_⟩⟩, fun {F' H' ts us} r' => ?_⟩
  · by_cases z : a ∈ L1
    · simp only [z, if_true] at q; exact q
    · simp only [z, if_false] at q; exact r.fr a u q
  · by_cases z : a ∈ L1
    · exact (h4 a (List.mem_append_left _ z)).1
    · simp only [z, if_false] at ha; exact r.dis a ha
  · have z : a ∉ L1 := fun z => nd.2.2 a z a ha rfl
    simp only [z, if_false]; exact (h4 a (List.mem_append_right _ ha)).2
  · obtain ⟨L', g1, g2, g3⟩ := r'.own
    have k1 : ∀ a ∈ L1, H' a = H a := fun a ha => by
      obtain ⟨vs, e⟩ := hm a ha
      rw [e]
      exact r'.fr a _ (by simp only [ha, if_true]; exact e)
    have k2 : ∀ a ∈ L1, F' a = none := fun a ha => r'.dis a (by
      obtain ⟨vs, e⟩ := hm a ha
      simp only [ha, if_true, e]; simp)
    have k3 : ∀ a ∈ L', a ∉ L1 := fun a ha z => by
      have q := (g3 a ha).2
      obtain ⟨vs, e⟩ := hm a z
      simp only [z, if_true, e] at q
      cases q
    refine ⟨k1, k2, fun a u q => r'.fr a u (up a u q), fun a ha => ?_, L', g1, g2, fun a ha => ⟨(g3 a ha).1, ?_⟩, k3⟩
    · obtain ⟨u, q⟩ := Option.ne_none_iff_exists'.mp ha
      exact r'.dis a (fun z => by
        have q2 := up a u q
        rw [show (if a ∈ L1 then H a else Fr a) = none from z] at q2
        cases q2)
    · have q := (g3 a ha).2
      have z := k3 a ha
      simp only [z, if_false] at q
      exact q
/-- a tree is taken out of its slot -/
theorem Rel.takeN {i : Nat} {d : PyData} (r : Rel K mg ρ Fr F δ σ H) (e : δ[i]? = some (.tree d)) : ∃ v0, σ[i]? = some (some v0) ∧ Rel K mg ρ Fr F (.tree d :: δ.set i .emp) (some v0 :: σ) H := by
  obtain ⟨L, h1, h2, h3⟩ := r.own
  obtain ⟨o', L1, Li, L2, g1, rfl, ⟨v0, rfl, tp⟩, g4⟩ := slotsR_at h1 e
  have z := g4 (F' := F) (H' := H) (Same.refl _) (fun _ _ => rfl) .emp (some v0) [] rfl
  rw [set_self g1] at z
  have pm : (L1 ++ (Li ++ L2)).Perm (Li ++ (L1 ++ ([] ++ L2))) := by
    classical
    rw [List.perm_iff_count]
    intro x
    simp [List.count_append]
    omega
  exact ⟨v0, g1, r.sub, r.fr, r.dis, Li ++ (L1 ++ ([] ++ L2)), ⟨Li, _, rfl, ⟨v0, rfl, tp⟩, z⟩, pm.nodup_iff.mp h2, fun a ha => h3 a (pm.mem_iff.mpr ha)⟩
end
theorem tpa_upd {F H : Hp} : ∀ {ds : List PyData} {vs : List V} {L : List Addr} {j : Nat} {d : PyData}, TpAll K F H vs ds L → ds[j]? = some d → ∃ v Lj M1 M2, vs[j]? = some v ∧ L = M1 ++ (Lj ++ M2) ∧ Tp K F H v d Lj ∧
    ∀ {F' H' : Hp} {d' : PyData} {A : List Addr}, Same F F' → (∀ a ∈ M1 ++ M2, H' a = H a) → Tp K F' H' v d' A → TpAll K F' H' vs (ds.set j d') (M1 ++ (A ++ M2))
  | [], _, _, j, d, h, e => by simp at e
  | d0 :: ds, _, _, 0, d, h, e => by
    cases h with
    | @cons v vs _ _ L M h1 h2 =>
      simp at e
      subst e
      exact ⟨v, L, [], M, rfl, rfl, h1, fun {F' H' d' A} s k t => (show TpAll K F' H' (v :: vs) (d' :: ds) (A ++ M) from .cons t (tpa_mono s _ _ _ (fun a ha => k a ha) h2))⟩
  | d0 :: ds, _, _, j + 1, d, h, e => by
    cases h with
    | @cons v vs _ _ L M h1 h2 =>
      obtain ⟨w, Lj, M1, M2, e1, rfl, e3, e4⟩ := tpa_upd (j := j) h2 (by simpa using e)
      refine ⟨w, Lj, L ++ M1, M2, by simpa using e1, by simp, e3, fun {F' H' d' A} s k t => ?_⟩
      rw [List.append_assoc]
      exact .cons (tp_mono s _ _ _ (fun a ha => k a (by simp [ha])) h1) (e4 s (fun a ha => k a (by rw [List.append_assoc]; exact List.mem_append_right _ ha)) t)
/-! x[a][b] = v on nested data of its own -/
def mSetIx2T (i : Nat) (m ma mb : ME) : MS := fun δ => match m δ with
  | .ok (d, δ1) => if scD d = true then (match δ1[i]? with
    | some (.tree (.list rows)) => (match ma (δ1.set i .emp) with
      | .ok (.int k, δ2) => (match ixN rows.length k with
        | some a => (match rows[a]? with
          | some (.list ds) => (match mb δ2 with
            | .ok (.int l, δ3) => (match δ3[i]? with
              | some .emp => (match ixN ds.length l with
                | some b => .ok (.nx, δ3.set i (.tree (.list (rows.set a (.list (ds.set b d))))))
                | none => .no)
              | _ => .no)
            | .err c d => .err c d
            | _ => .no)
          | _ => .no)
        | none => .no)
      | .err c d => .err c d
      | _ => .no)
    | _ => .no) else .no
  | .err c d => .err c d
  | .no => .no
open Classical in
theorem sn_setIx2T {t ta tb : TE} {m ma mb : ME} {i : Nat} (h : SndE K mg t m) (ha : SndE K mg ta ma) (hb : SndE K mg tb mb) : SndS K mg (tAsg t (gSub (tOp (rIx K) (tVar i) ta) tb rSetL)) (mSetIx2T i m ma mb) := fun {ρ Fr F δ σ H c δ'} r e {D} q => by
  unfold mSetIx2T at e
  split at e
  · rename_i d δ1 e1
    split at e
    · rename_i hd
      split at e
      · rename_i rows e2
        split at e
        · rename_i k δ2 e3
          split at e
          · rename_i a e4
            split at e
            · rename_i ds e5
              split at e
              · rename_i l δ3 e6
                split at e
                · rename_i e7
                  split at e
                  · rename_i b e8
                    cases e
                    refine h r e1 fun F1 v H1 s1 r1 dv => ?_
                    obtain ⟨v0, g1, r2⟩ := r1.takeN e2
                    obtain ⟨Fr', L1, sl, nd, hn, r3, back⟩ := r2.hideL
                    obtain ⟨v0', z0, tp⟩ := sl
                    cases z0
                    refine ⟨v0, g1, ha r3 e3 fun F2 u H2 s2 r4 d2 => ?_⟩
                    cases d2
                    have b2 := back r4
                    cases tp with
                    | sc _ z => cases z
                    | @lst p ws _ M t1 ta1 =>
                      have hl := tpa_len ta1
                      obtain ⟨w, La, M1, M2, w1, rfl, w3, put1⟩ := tpa_upd ta1 e5
                      have hp2 : H2 p = some (.lst ws) := by rw [b2.1 p (by simp)]; exact t1
                      refine .inl ⟨p, ws, k, w, rfl, rfl, SqL.of hp2, ?_, ?_⟩
                      · unfold atI
                        rw [hl, e4]
                        exact w1
                      refine hb r4 e6 fun F3 u3 H3 s3 r5 d3 => ?_
                      cases d3
                      obtain ⟨k1, k2, k3, k4, L', g2, g3, g4, g5⟩ := back r5
                      cases w3 with
                      | sc _ z => cases z
                      | @lst p2 us _ N t2 ta2 =>
                        have hj : b < ds.length := CW.ixN_ltT e8
                        have ha' : a < rows.length := CW.ixN_ltT e4
                        have h32 : H3 p2 = some (.lst us) := by rw [k1 p2 (by simp)]; exact t2
                        have dv3 := dv.up (s2.trans s3)
                        refine ⟨p2, us, l, b, rfl, rfl, h32, by rw [tpa_len ta2]; exact e8, q F3 σ _ ((s1.trans s2).trans s3) ?_⟩
                        -- the new heap
                        have s13 := s2.trans s3
                        have ndp := List.nodup_cons.mp nd
                        have nd2 := List.nodup_append.mp ndp.2
                        have nd3 := List.nodup_append.mp nd2.2.1
                        have nd4 := List.nodup_cons.mp nd3.1
                        have pp2 : p ≠ p2 := fun z => ndp.1 (by rw [z]; simp)
                        have keep : ∀ x ∈ p :: (M1 ++ ((p2 :: N) ++ M2)), x ≠ p2 → upd H3 p2 (.lst (us.set b v)) x = H1 x := fun x hx hne => by rw [upd_ne hne]; exact k1 x hx
                        have t3 : Tp K F3 (upd H3 p2 (.lst (us.set b v))) v d [] := .sc dv3 hd
                        have ta2' : TpAll K F3 (upd H3 p2 (.lst (us.set b v))) us ds N := tpa_mono s13 _ _ _ (fun x hx => keep x (by simp [hx]) (fun z => nd4.1 (z ▸ hx))) ta2
                        obtain ⟨Lj, N1, N2, hN, put2⟩ := tpa_put ta2' hj
                        have row : Tp K F3 (upd H3 p2 (.lst (us.set b v))) (.ref p2) (.list (ds.set b d)) (p2 :: (N1 ++ ([] ++ N2))) := .lst upd_same (put2 (fun _ _ => rfl) t3)
                        have nM1 : p2 ∉ M1 := fun z => nd2.2.2 p2 z p2 (by simp) rfl
                        have nM2 : p2 ∉ M2 := fun z => nd3.2.2 p2 (by simp) p2 z rfl
                        have outer := put1 s13 (fun x hx => by
                          rcases List.mem_append.mp hx with hx | hx
                          · exact keep x (by simp [hx]) (fun z => nM1 (z ▸ hx))
                          · exact keep x (by simp [hx]) (fun z => nM2 (z ▸ hx))) row
                        have hp3 : upd H3 p2 (.lst (us.set b v)) p = some (.lst ws) := by rw [keep p (by simp) pp2]; exact t1
                        obtain ⟨o', P1, Pi, P2, g1', rfl, hPi, put⟩ := slotsR_at g2 e7
                        have hPi' : Pi = [] := hPi
                        subst hPi'
                        have inL : p2 ∈ p :: (M1 ++ ((p2 :: N) ++ M2)) := by simp
                        have z := put (F' := F3) (H' := upd H3 p2 (.lst (us.set b v))) (Same.refl _) (fun x hx => upd_ne (fun z => g5 x (by simpa using hx) (by rw [z]; exact inL))) (.tree (.list (rows.set a (.list (ds.set b d))))) (some (.ref p)) _ ⟨_, rfl, .lst hp3 outer⟩
                        rw [set_self g1] at z
                        have fp2 := k2 p2 inL
                        have fr2 := (hn p2 inL).2
                        refine ⟨fun x u z => ?_, fun x u z => ?_, k4, _, z, ?_, fun x hx => ?_⟩
                        · rw [upd_ne (ne_of_none z fp2)]; exact r5.sub x u z
                        · rw [upd_ne (ne_of_none z fr2)]; exact k3 x u z
                        · have big : ((P1 ++ ([] ++ P2)) ++ (p :: (M1 ++ ((p2 :: N) ++ M2)))).Nodup := List.nodup_append.mpr ⟨g3, nd, fun x hx y hy e => g5 x hx (e ▸ hy)⟩
                          have pm : ((P1 ++ ([] ++ P2)) ++ (p :: (M1 ++ ((p2 :: N) ++ M2)))).Perm (Lj ++ (P1 ++ (p :: (M1 ++ (p2 :: (N1 ++ ([] ++ N2)) ++ M2)) ++ P2))) := by
                            rw [List.perm_iff_count]
                            intro x
                            rw [hN]
                            simp [List.count_append, List.count_cons]
                            omega
                          exact (List.nodup_append.mp (pm.nodup_iff.mp big)).2.1
                        · have key : x ∈ P1 ++ ([] ++ P2) ∨ x ∈ p :: (M1 ++ ((p2 :: N) ++ M2)) := by
                            rw [hN]
                            simp only [List.mem_append, List.mem_cons, List.not_mem_nil, false_or] at hx ⊢
                            rcases hx with hx | (hx | hx | (hx | hx | hx) | hx) | hx <;> simp [hx]
                          rcases key with hx | hx
                          · exact g4 x hx
                          · exact ⟨k2 x hx, (hn x hx).2⟩
                  · cases e
                · cases e
              · cases e
              · cases e
            · cases e
          · cases e
        · cases e
        · cases e
      · cases e
    · cases e
  · cases e
  · cases e
theorem rs_setIx2T (i : Nat) {x : Str} {a b e : Expr} {t ta tb : TE} {m ma mb : ME} {p1 p2 p pos : Pos} (h : RE X e t m) (h1 : RE X a ta ma) (hb : RE X b tb mb) (hN : X.N[i]? = some x := by rfl) (hv : Vis X.env.scope x := by first | exact Or.inl rfl | exact Or.inr (Or.inl rfl) | exact Or.inr (Or.inr rfl)) (hd : (x == ("__debug__" : Str)) = false := by decide)
    (hcd : (x == ("__classdict__" : Str)) = false := by decide) (hs1 : PlainIx a := by exact fun _ _ => rfl)
    (ha : ∀ v, assign (.Subscript (.Subscript (.Name x p1) a p2) b p) X.env v = (do
      let ov ← holding [v] (eval (.Subscript (.Name x p1) a p2) X.env)
      let iv ← holding [v, ov] (eval b X.env)
      standAt p
      holding [v, ov, iv] (setItem ov iv v)
      release [v, ov, iv] []) := by intro _; rfl)
    (hs : swapsWithSole [.Subscript (.Subscript (.Name x p1) a p2) b p] e pos.line X.env = pure false := by rfl) (hw : swappedStores [.Subscript (.Subscript (.Name x p1) a p2) b p] e X.env = pure none := by rfl)
    (h2 : (assignEach [.Subscript (.Subscript (.Name x p1) a p2) b p] X.env).map (·.2) = [assign (.Subscript (.Subscript (.Name x p1) a p2) b p) X.env] := by rfl) :
    RS X (.Assign [.Subscript (.Subscript (.Name x p1) a p2) b p] e pos) (tAsg t (gSub (tOp (rIx X.K) (tVar i) ta) tb rSetL)) (mSetIx2T i m ma mb) := ⟨ps_asg h.pe (pg_sub (pe_ix ix_seq (pe_var hN hv hd hcd) h1.pe hs1) hb.pe set_list ha) hs hw h2, sn_setIx2T h.sn h1.sn hb.sn⟩
theorem ev_setIx2T {i : Nat} {m ma mb : ME} {δ δ1 δ2 δ3 δ4 : Ev} {d : PyData} {rows ds : List PyData} {k l : Int} {a b : Nat} (h : m δ = .ok (d, δ1)) (h2 : scD d = true) (h3 : δ1[i]? = some (.tree (.list rows))) (h0 : δ1.set i .emp = δ2) (h4 : ma δ2 = .ok (.int k, δ3)) (h5 : ixN rows.length k = some a) (h6 : rows[a]? = some (.list ds)) (h7 : mb δ3 = .ok (.int l, δ4)) (h8 : δ4[i]? = some .emp) (h9 : ixN ds.length l = some b) : mSetIx2T i m ma mb δ = .ok (.nx, δ4.set i (.tree (.list (rows.set a (.list (ds.set b d)))))) := by
  subst h0
  unfold mSetIx2T
  rw [h]; simp only []
  rw [if_pos h2, h3]; simp only []
  rw [h4]; simp only []
  rw [h5]; simp only []
  rw [h6]; simp only []
  rw [h7]; simp only []
  rw [h8]; simp only []
  rw [h9]
end
end CW

namespace CW
open PySem PySem.Spec PyProof.Rows L2
section
variable {X : Cx} {K : PySem.W.Frag} {mg : Str → Option Value}
/-! x.remove(k) on a list of numbers of its own -/
def fRemove : List PyData → List PyData → Res (PyData × List PyData) := fun xs ds => match intsOf xs, ds with
  | some ns, [.int k] => if k ∈ ns then .ok (.none, (ns.erase k).map .int) else .no
  | _, _ => .no
theorem own_remove : OwnR K rRemI fRemove := fun {F H p vs as xs ds d ys} h1 h2 h3 e {Q} q => by
  unfold fRemove at e
  split at e
  · rename_i ns k e1
    split at e
    · rename_i hk
      cases e
      have ex := intsOf_map e1
      subst ex
      have ev := dpa_ints h2
      subst ev
      obtain ⟨j, j1, j2, j3, j4⟩ := first_at hk
      cases h3 with
      | cons a b =>
        cases a; cases b
        refine ⟨_, ns, k, j, rfl, rfl, h1, j2, j3, ?_⟩
        rw [j4]
        exact q _ _ .non (dpa_of_ints _)
    · cases e
  · cases e
theorem re_remove (i : Nat) {x : Str} {a : Expr} {t : TA} {as : MA} {p1 apos cpos : Pos} (ha : RA X [a] t as) (hN : X.N[i]? = some x := by rfl) (hv : Vis X.env.scope x := by first | exact Or.inl rfl | exact Or.inr (Or.inl rfl) | exact Or.inr (Or.inr rfl)) (hd : (x == ("__debug__" : Str)) = false := by decide)
    (hcd : (x == ("__classdict__" : Str)) = false := by decide)
    (hfew : ((backTo cpos (starEach [a] X.env)).all (fun x => !x.1) && (backToKw cpos (keywordEach [] X.env)).all (fun x => x.1.isSome)
      && decide (([a] : List Expr).length + ([] : List Keyword).length + (if ([] : List Keyword).isEmpty then 0 else 1) < 30)) = true := by rfl)
    (hline : (apos.endLine == cpos.line) = true := by rfl) (hs : starEach [a] X.env = (false, eval a X.env) :: starEach [] X.env := by rfl) (hplain : (backTo cpos (starEach [] X.env)).any (·.1) = false := by rfl) :
    RE X (.Call (.Attribute (.Name x p1) "remove" apos) [a] [] cpos) (tBMv X.K i rRemI t) (mOwnM i fRemove as) :=
  ⟨pe_bm PySem.F.plainAttrs_list PySem.F.slot_list_remove PySem.F.type_list_remove mt_remove (pe_var hN hv hd hcd) ha.pa rfl hfew hline hs hplain, sn_ownM own_remove ha.sn⟩
theorem fRemove_i {ns : List Int} {k : Int} (h : k ∈ ns) : fRemove (ns.map .int) [.int k] = .ok (.none, (ns.erase k).map .int) := by
  unfold fRemove
  rw [intsOf_ints]
  exact if_pos h
/-! marks of a part x[c] of nested data: all of x is used up -/
def mMarkIx (i : Nat) (c : Int) (n : Nat) : MN := fun δ => match δ[i]? with
  | some (.tree (.list ds)) => (match atI ds c with
    | some d => if mkOk n d = true then .ok (.val (.bool true), δ.set i .emp) else .no
    | none => .no)
  | _ => .no
theorem sn_markIx (i : Nat) (c : Int) (n : Nat) : SndN K mg (tCall (spMk K n) [] E0 (tCons (tOp (rIx K) (tVar i) (tC (.int c))) tNil)) (mMarkIx i c n) := fun {ρ Fr F δ σ H s δ'} r e {Q} q => by
  unfold mMarkIx at e
  split at e
  · rename_i ds e0
    split at e
    · rename_i d ed
      split at e
      · rename_i hok
        cases e
        obtain ⟨L, h1, h2, h3⟩ := r.own
        obtain ⟨o', L1, Li, L2, g1, rfl, ⟨v, rfl, tp⟩, g4⟩ := slotsR_at h1 e0
        cases tp with
        | sc _ z => cases z
        | @lst p ws _ M b1 ta =>
          have n1 := List.nodup_append.mp h2
          have n2 := List.nodup_append.mp n1.2.1
          have n3 := List.nodup_cons.mp n2.1
          have hl := tpa_len ta
          have ix : ∃ j, ixN ds.length c = some j ∧ ds[j]? = some d := by
            unfold atI at ed
            cases q : ixN ds.length c with
            | none => rw [q] at ed; cases ed
            | some j => rw [q] at ed; exact ⟨j, rfl, ed⟩
          obtain ⟨j, j1, j2⟩ := ix
          obtain ⟨w, Lj, M1, M2, w1, rfl, w3, _⟩ := tpa_at ta j2
          have n4 := List.nodup_append.mp n3.2
          have n5 := List.nodup_append.mp n4.2.1
          have hsub : ∀ a ∈ Lj, a ∈ p :: (M1 ++ (Lj ++ M2)) := fun a ha => by simp [ha]
          show (fun σ H Q => tOp (rIx K) (tVar i) (tC (.int c)) σ H Q) σ H _
          refine ⟨.ref p, g1, ?_⟩
          refine .inl ⟨p, ws, c, w, rfl, rfl, SqL.of b1, ?_, ?_⟩
          · unfold atI
            rw [hl, j1]
            exact w1
          unfold tNil
          show spMk K n ([w] ++ []) H Q _
          refine ⟨F, w, d, Lj, rfl, r.sub, w3, n5.1, fun a ha => (h3 a (by have := hsub a ha; simp only [List.mem_append]; exact .inr (.inl this))).1, hok, fun H' k => ?_⟩
          refine q F _ H' (Same.refl _) (Rel.tval ⟨fun a u z => ?_, fun a u z => ?_, r.dis, L1 ++ ([] ++ L2), ?_, ?_, fun a ha => h3 a ?_⟩ (.bl true))
          · exact k a u (fun w => by
              have := (h3 a (by have := hsub a w; simp only [List.mem_append]; exact .inr (.inl this))).1
              rw [this] at z; cases z) (r.sub a u z)
          · exact k a u (fun w => by
              have := (h3 a (by have := hsub a w; simp only [List.mem_append]; exact .inr (.inl this))).2
              rw [this] at z; cases z) (r.fr a u z)
          · have z := g4 (F' := F) (H' := H') (Same.refl _) (fun a ha => by
              have hm : a ∈ L1 ++ ((p :: (M1 ++ (Lj ++ M2))) ++ L2) := by
                rcases List.mem_append.mp ha with w | w
                · simp [w]
                · simp [w]
              obtain ⟨vs, ew⟩ := slotsR_mem h1 hm
              rw [ew]
              exact k a _ (fun w => by
                rcases List.mem_append.mp ha with y | y
                · exact n1.2.2 a y a (List.mem_append_left _ (hsub a w)) rfl
                · exact n2.2.2 a (hsub a w) a y rfl) ew) .emp (some (.ref p)) [] rfl
            rw [set_self g1] at z
            exact z
          · have sb : (L1 ++ ([] ++ L2)).Sublist (L1 ++ ((p :: (M1 ++ (Lj ++ M2))) ++ L2)) := List.Sublist.append (List.Sublist.refl _) (by rw [List.nil_append]; exact List.sublist_append_right _ _)
            exact h2.sublist sb
          · rcases List.mem_append.mp ha with w | w
            · exact List.mem_append_left _ w
            · have w' : a ∈ L2 := by simpa using w
              exact List.mem_append_right _ (List.mem_append_right _ w')
      · cases e
    · cases e
  · cases e
section
variable {k : Nat} {f : Addr} {fd : FuncData} {ps : List Str} {n : Nat} {x y : Str} {p pos py ps2 cp : Pos} {c : Int} {jj : Nat}
theorem rn_markIx (i : Nat) (F : FnG X.prog X.w X.K X.mg X.base CX0 k f fd ps (spMk X.K n)) (hG : X.A.guards = some []) (hr : Room k X.A) (hg : Gl X x) (hm : X.mg x = some (.ref f)) (hk : PySem.W.keepIn X.K (.ref f) = true) (hb : Binds X.K fd ps [])
    (hN : X.N[i]? = some y := by rfl) (hv : Vis X.env.scope y := by first | exact Or.inl rfl | exact Or.inr (Or.inl rfl) | exact Or.inr (Or.inr rfl)) (hd : (y == ("__debug__" : Str)) = false := by decide) (hcd : (y == ("__classdict__" : Str)) = false := by decide)
    (hdb : (x == ("__debug__" : Str)) = false := by decide) (hs : PlainIx (.Constant (.int c) jj cp) := by exact fun _ _ => rfl) (he : starEach [.Subscript (.Name y py) (.Constant (.int c) jj cp) ps2] X.env = (false, eval (.Subscript (.Name y py) (.Constant (.int c) jj cp) ps2) X.env) :: starEach [] X.env := by rfl) (hpl : (backTo pos (starEach [] X.env)).any (·.1) = false := by rfl) :
    RN X (.Call (.Name x p) [.Subscript (.Name y py) (.Constant (.int c) jj cp) ps2] [] pos) (tCall (spMk X.K n) [] E0 (tCons (tOp (rIx X.K) (tVar i) (tC (.int c))) tNil)) (mMarkIx i c n) := ⟨pe_callG F hG hr hg hm hk hb pass0 (pa_cons (pe_ix ix_seq (pe_var hN hv hd hcd) pe_int hs) pa_nil he) hdb he hpl, sn_markIx i c n⟩
end
theorem ev_markIx {i n : Nat} {c : Int} {δ δ1 : Ev} {ds : List PyData} {d : PyData} (h : δ[i]? = some (.tree (.list ds))) (h0 : atI ds c = some d) (h1 : mkOk n d = true) (h2 : δ.set i .emp = δ1) : mMarkIx i c n δ = .ok (.val (.bool true), δ1) := by
  unfold mMarkIx
  rw [h]; simp only []
  rw [h0]; simp only []
  rw [if_pos h1, h2]
end
end CW

namespace CW
open PySem PySem.Spec PyProof.Rows L2
/-! range(a, b, c) beyond 2^63 -/
theorem turn_longC {P : Program} {w : World} {K : PySem.W.Frag} {tg : Expr} (it : Addr) (lo c : Int) (n : Nat) : Turn P w K tg (Itc lo c n) [it] it (fun i h => IsLongIter h it (lo + (i : Nat) * c) ((n : Int) - (i : Nat)) c) where
  mem := by simp
  obj := fun i h st b hb => by
    have e : b = it := by simpa using hb
    subst e
    exact ⟨_, st, fun v z => nomatch z⟩
  keep := fun i h h' st k => k it (by simp) _ st
  item := by
    intro X hP hw hK hc i pins s σ H E I hf st hg
    subst hP hw hK
    obtain ⟨f0, f1, f2, f3, f4, f5⟩ := hf it (by simp)
    have W := Walks.longrange (prog := X.prog) (w := X.w) (I.ok.hd hc) it lo c n
    refine W.item i s _ _ hg st fun v h' tk hv st' kk => ?_
    obtain ⟨t, rfl⟩ := hv
    have I1 : Inv X pins σ H { s with heap := h', toks := tk } := I.turned (fun b o hb e => kk b o (by simpa using hb) e) f0 f1 f3 f4 f5
    exact ⟨_, rfl, go_of (s := { s with heap := h', toks := tk }) (n := "longrange_iterator") st' rfl rfl (by decide) ⟨.int (lo + (i : Nat) * c), H, I1, ⟨t, rfl⟩, ⟨rfl, rfl⟩, st', fun b hb => (hf b hb).1⟩⟩
  done := by
    intro X hP hw hK hc i pins s σ H E I hf st hg
    subst hP hw hK
    obtain ⟨f0, f1, f2, f3, f4, f5⟩ := hf it (by simp)
    exact wpAny_pyNext_long_end (I.ok.hd hc) st (by have : n ≤ i := hg; omega) fun h' eb => ⟨rfl, I.turned (t' := s.toks) (fun b o hb e => eb b o hb e) f0 f1 f3 f4 f5⟩
  self := fun A i s Q E st h => wpAny_pyIter_longiter st h
def iRngL (ta : TA) : TI := fun σ H R => ta σ H fun vs H1 => ∃ (i j c : Int) (n : Nat), vs = [.int i, .int j, .int c] ∧ (c ≠ 0 ∧ c.natAbs.log2 < 9000 ∧ Builtin.Range.rangeSize i j c = n) ∧ R (Itc i c n) H1
section
variable {X : Cx} {tg : Expr}
theorem pi_rangeL {a b c : Expr} {ta : TA} {p pos : Pos} (hg : Gl X "range") (hm : X.mg "range" = none) (ha : PA X [a, b, c] ta)
    (hs : starEach [a, b, c] X.env = (false, eval a X.env) :: starEach [b, c] X.env := by rfl) (hpl : (backTo pos (starEach [b, c] X.env)).any (·.1) = false := by rfl) :
    PI X tg (.Call (.Name "range" p) [a, b, c] [] pos) (iRngL ta) := by
  refine ⟨fun pins s σ H R I h => ?_⟩
  refine Call_ (ld_blt I hg hm boot_range (PyProof.Rows.callWith_type1 (thn (ha.run pos pins s σ H _ I h) fun us s1 ⟨vs, H1, I1, r1, q1⟩ => ?_) hs hpl))
  obtain ⟨i, j, k, n, e, ⟨c0, c1, c3⟩, q⟩ := q1
  subst e
  cases r1 with
  | cons r rr =>
    cases rr with
    | cons r' rr =>
      cases rr with
      | cons r'' rr =>
        cases rr
        obtain ⟨t, rfl⟩ := r
        obtain ⟨t', rfl⟩ := r'
        obtain ⟨t'', rfl⟩ := r''
        refine call_range_3 c0 ?_ (.inl (PyProof.noPylong_of_log2 c1))
        have I2 : Inv X pins σ H1 { s1 with heap := s1.heap.push { cls := .type "range", data := .fields #[.int i t, .int j t', .int k t''] } } := I1.kept (t' := s1.toks) fun b o e => Heap.get?_push_of_some _ e
        have e1 : i + ((0 : Nat) : Int) * k = i := by simp
        have e2 : (n : Int) - ((0 : Nat) : Int) = Builtin.Range.rangeSize i j k := by rw [c3]; simp
        by_cases c2 : Builtin.Range.small i j k = true
        · refine wpAny_pyIter_range (IsRange.new ..) c2 ?_
          refine pi_one (tk := s1.toks) I2 _ (turn_rangeC _ i k n) ?_ q
          show IsRangeIter _ _ (i + ((0 : Nat) : Int) * k) ((n : Int) - ((0 : Nat) : Int)) k
          rw [e1, e2]
          exact Heap.get?_push_size _ rfl
        · refine wpAny_pyIter_longrange (IsRange.new ..) (by simpa using c2) ?_
          refine pi_one (tk := s1.toks) I2 _ (turn_longC _ i k n) ?_ q
          show IsLongIter _ _ (i + ((0 : Nat) : Int) * k) ((n : Int) - ((0 : Nat) : Int)) k
          rw [e1, e2]
          exact Heap.get?_push_size _ rfl
end
section
variable {X : Cx} {K : PySem.W.Frag} {mg : Str → Option Value}
def mRngL (as : MA) : MA := fun δ => match as δ with
  | .ok ([.int i, .int j, .int c], δ1) => if (c ≠ 0 ∧ c.natAbs.log2 < 9000) ∧ Builtin.Range.rangeSize i j c = ((Builtin.Range.rangeSize i j c).toNat : Nat) then .ok (rngC i c (Builtin.Range.rangeSize i j c).toNat, δ1) else .no
  | .err c d => .err c d
  | _ => .no
theorem sn_rngL {t : TA} {as : MA} (h : SndA K mg t as) : SndI K mg (iRngL t) (mRngL as) := fun {ρ Fr F δ σ H ds δ'} r e {R} q => by
  unfold mRngL at e
  split at e
  · split at e
    · rename_i i j c δ1 e1 hj
      cases e
      refine h r e1 fun F1 vs H1 s1 r1 d1 => ?_
      obtain ⟨h1, h2⟩ := hj
      cases d1 with
      | cons d2 d3 =>
        cases d3 with
        | cons d4 d5 =>
          cases d5 with
          | cons d6 d7 =>
            cases d2; cases d4; cases d6; cases d7
            exact ⟨_, _, _, _, rfl, ⟨h1.1, h1.2, h2⟩, q F1 _ H1 s1 r1 itD_rngC⟩
    · cases e
  · cases e
  · cases e
theorem ri_rngL {tg a b c : Expr} {t : TA} {as : MA} {p pos : Pos} (hg : Gl X "range") (hm : X.mg "range" = none) (ha : RA X [a, b, c] t as) (hs : starEach [a, b, c] X.env = (false, eval a X.env) :: starEach [b, c] X.env := by rfl) (hpl : (backTo pos (starEach [b, c] X.env)).any (·.1) = false := by rfl) :
    RI X tg (.Call (.Name "range" p) [a, b, c] [] pos) (iRngL t) (mRngL as) := ⟨pi_rangeL hg hm ha.pa hs hpl, sn_rngL ha.sn⟩
theorem ev_rngL {as : MA} {δ δ1 : Ev} {i j c : Int} {ds : List PyData} (h : as δ = .ok ([.int i, .int j, .int c], δ1)) (h2 : (c ≠ 0 ∧ c.natAbs.log2 < 9000) ∧ Builtin.Range.rangeSize i j c = ((Builtin.Range.rangeSize i j c).toNat : Nat)) (h3 : rngC i c (Builtin.Range.rangeSize i j c).toNat = ds) : mRngL as δ = .ok (ds, δ1) := by
  unfold mRngL
  rw [h]; simp only []
  rw [if_pos h2, h3]
end
end CW

namespace N34
open PySem PySem.Spec PyProof.Rows L2 CW
def topS (i : Nat) : PySem.Stmt := PySem.Challenge.pw_checkwright_k34_whole_steps.main.body.getD i (.Pass ⟨0, 0, 0, 0⟩)
abbrev s_is_whole : PySem.Stmt := topS 7
def d_is_whole : He.DefD := ⟨("is_whole", none), "is_whole", "is_whole", defArgs s_is_whole, defBody s_is_whole, defScope s_is_whole, [], []⟩
abbrev s_is_between : PySem.Stmt := topS 8
def d_is_between : He.DefD := ⟨("is_between", none), "is_between", "is_between", defArgs s_is_between, defBody s_is_between, defScope s_is_between, [], []⟩
abbrev s_divisor_of : PySem.Stmt := topS 9
def d_divisor_of : He.DefD := ⟨("divisor_of", none), "divisor_of", "divisor_of", defArgs s_divisor_of, defBody s_divisor_of, defScope s_divisor_of, [], []⟩
abbrev s_linear_fits : PySem.Stmt := topS 13
def d_linear_fits : He.DefD := ⟨("linear_fits", none), "linear_fits", "linear_fits", defArgs s_linear_fits, defBody s_linear_fits, defScope s_linear_fits, [], []⟩
abbrev s_check_linear : PySem.Stmt := topS 14
def d_check_linear : He.DefD := ⟨("check_linear", none), "check_linear", "check_linear", defArgs s_check_linear, defBody s_check_linear, defScope s_check_linear, [], []⟩
abbrev s_check_place : PySem.Stmt := topS 15
def d_check_place : He.DefD := ⟨("check_place", none), "check_place", "check_place", defArgs s_check_place, defBody s_check_place, defScope s_check_place, [], []⟩
abbrev s_coefficient_in : PySem.Stmt := topS 16
def d_coefficient_in : He.DefD := ⟨("coefficient_in", none), "coefficient_in", "coefficient_in", defArgs s_coefficient_in, defBody s_coefficient_in, defScope s_coefficient_in, [], []⟩
abbrev s_step_in : PySem.Stmt := topS 17
def d_step_in : He.DefD := ⟨("step_in", none), "step_in", "step_in", defArgs s_step_in, defBody s_step_in, defScope s_step_in, [], []⟩
abbrev s_count_in : PySem.Stmt := topS 18
def d_count_in : He.DefD := ⟨("count_in", none), "count_in", "count_in", defArgs s_count_in, defBody s_count_in, defScope s_count_in, [], []⟩
abbrev s_coefficient : PySem.Stmt := topS 19
def d_coefficient : He.DefD := ⟨("coefficient", none), "coefficient", "coefficient", defArgs s_coefficient, defBody s_coefficient, defScope s_coefficient, [], []⟩
abbrev s_step_of : PySem.Stmt := topS 20
def d_step_of : He.DefD := ⟨("step_of", none), "step_of", "step_of", defArgs s_step_of, defBody s_step_of, defScope s_step_of, [], []⟩
abbrev s_how_many_by : PySem.Stmt := topS 21
def d_how_many_by : He.DefD := ⟨("how_many_by", none), "how_many_by", "how_many_by", defArgs s_how_many_by, defBody s_how_many_by, defScope s_how_many_by, [], []⟩
abbrev s_pairs_by : PySem.Stmt := topS 22
def d_pairs_by : He.DefD := ⟨("pairs_by", none), "pairs_by", "pairs_by", defArgs s_pairs_by, defBody s_pairs_by, defScope s_pairs_by, [], []⟩
abbrev s__law_hash : PySem.Stmt := topS 24
def d__law_hash : He.DefD := ⟨("_law_hash", none), "_law_hash", "_law_hash", defArgs s__law_hash, defBody s__law_hash, defScope s__law_hash, [], []⟩
abbrev s__law_random : PySem.Stmt := topS 25
def d__law_random : He.DefD := ⟨("_law_random", none), "_law_random", "_law_random", defArgs s__law_random, defBody s__law_random, defScope s__law_random, [], []⟩
abbrev s__law_cell : PySem.Stmt := topS 26
def d__law_cell : He.DefD := ⟨("_law_cell", none), "_law_cell", "_law_cell", defArgs s__law_cell, defBody s__law_cell, defScope s__law_cell, [], []⟩
abbrev s__law_generator : PySem.Stmt := topS 27
def d__law_generator : He.DefD := ⟨("_law_generator", none), "_law_generator", "_law_generator", defArgs s__law_generator, defBody s__law_generator, defScope s__law_generator, [], []⟩
abbrev s__law_same : PySem.Stmt := topS 28
def d__law_same : He.DefD := ⟨("_law_same", none), "_law_same", "_law_same", defArgs s__law_same, defBody s__law_same, defScope s__law_same, [], []⟩
abbrev s__law_linear : PySem.Stmt := topS 29
def d__law_linear : He.DefD := ⟨("_law_linear", none), "_law_linear", "_law_linear", defArgs s__law_linear, defBody s__law_linear, defScope s__law_linear, [], []⟩
abbrev s__law_common : PySem.Stmt := topS 30
def d__law_common : He.DefD := ⟨("_law_common", none), "_law_common", "_law_common", defArgs s__law_common, defBody s__law_common, defScope s__law_common, [], []⟩
abbrev s__law_weighted : PySem.Stmt := topS 31
def d__law_weighted : He.DefD := ⟨("_law_weighted", none), "_law_weighted", "_law_weighted", defArgs s__law_weighted, defBody s__law_weighted, defScope s__law_weighted, [], []⟩
abbrev s__law_span : PySem.Stmt := topS 32
def d__law_span : He.DefD := ⟨("_law_span", none), "_law_span", "_law_span", defArgs s__law_span, defBody s__law_span, defScope s__law_span, [], []⟩
abbrev s__law_coefficient : PySem.Stmt := topS 33
def d__law_coefficient : He.DefD := ⟨("_law_coefficient", none), "_law_coefficient", "_law_coefficient", defArgs s__law_coefficient, defBody s__law_coefficient, defScope s__law_coefficient, [], []⟩
abbrev s__law_slipped : PySem.Stmt := topS 34
def d__law_slipped : He.DefD := ⟨("_law_slipped", none), "_law_slipped", "_law_slipped", defArgs s__law_slipped, defBody s__law_slipped, defScope s__law_slipped, [], []⟩
abbrev s__law_pairs : PySem.Stmt := topS 35
def d__law_pairs : He.DefD := ⟨("_law_pairs", none), "_law_pairs", "_law_pairs", defArgs s__law_pairs, defBody s__law_pairs, defScope s__law_pairs, [], []⟩
abbrev s__law_places : PySem.Stmt := topS 36
def d__law_places : He.DefD := ⟨("_law_places", none), "_law_places", "_law_places", defArgs s__law_places, defBody s__law_places, defScope s__law_places, [], []⟩
abbrev s__law_small_right : PySem.Stmt := topS 37
def d__law_small_right : He.DefD := ⟨("_law_small_right", none), "_law_small_right", "_law_small_right", defArgs s__law_small_right, defBody s__law_small_right, defScope s__law_small_right, [], []⟩
abbrev s__law_apart : PySem.Stmt := topS 38
def d__law_apart : He.DefD := ⟨("_law_apart", none), "_law_apart", "_law_apart", defArgs s__law_apart, defBody s__law_apart, defScope s__law_apart, [], []⟩
abbrev s__law_great_right : PySem.Stmt := topS 39
def d__law_great_right : He.DefD := ⟨("_law_great_right", none), "_law_great_right", "_law_great_right", defArgs s__law_great_right, defBody s__law_great_right, defScope s__law_great_right, [], []⟩
abbrev s__law_many : PySem.Stmt := topS 40
def d__law_many : He.DefD := ⟨("_law_many", none), "_law_many", "_law_many", defArgs s__law_many, defBody s__law_many, defScope s__law_many, [], []⟩
abbrev s_law : PySem.Stmt := topS 41
def d_law : He.DefD := ⟨("law", none), "law", "law", defArgs s_law, defBody s_law, defScope s_law, [], []⟩
def fnL : List He.DefD := [d_is_whole, d_is_between, d_divisor_of, d_linear_fits, d_check_linear, d_check_place, d_coefficient_in, d_step_in, d_count_in, d_coefficient, d_step_of, d_how_many_by, d_pairs_by, d__law_hash, d__law_random, d__law_cell, d__law_generator, d__law_same, d__law_linear, d__law_common, d__law_weighted, d__law_span, d__law_coefficient, d__law_slipped, d__law_pairs, d__law_places, d__law_small_right, d__law_apart, d__law_great_right, d__law_many, d_law]
def faL : List He.Fa := [.glo "is_whole", .glo "is_between", .glo "divisor_of", .glo "linear_fits", .glo "check_linear", .glo "check_place", .glo "coefficient_in", .glo "step_in", .glo "count_in", .glo "coefficient", .glo "step_of", .glo "how_many_by", .glo "pairs_by", .glo "_law_hash", .glo "_law_random", .glo "_law_cell", .glo "_law_generator", .glo "_law_same", .glo "_law_linear", .glo "_law_common", .glo "_law_weighted", .glo "_law_span", .glo "_law_coefficient", .glo "_law_slipped", .glo "_law_pairs", .glo "_law_places", .glo "_law_small_right", .glo "_law_apart", .glo "_law_great_right", .glo "_law_many", .glo "law", .free "bool", .free "int", .free "isinstance", .free "len", .free "list", .free "max", .free "min", .free "range", .free "repr", .free "str", .free "sum", .free "super", .free "tuple", .free "zip", .int "MOST_LISTED" 2000, .glo "SPANS", .glo "TooMany"]
abbrev rowR : PySem.W.OpenRow := PySem.W.OpenLaw.row PySem.Challenge.rw_checkwright_k34_whole_steps
def exR (K : PySem.W.Frag) : Bool := (He.valsB K (He.ga K "SPANS") (CW.dvKv [("single", 0), ("swap", 1), ("jump", 2), ("twin", 1), ("jumptwin", 2)])) && (CW.excB K "/claim/cut.py" "TooMany")
def tsR : List He.Tab := [((fun K => He.ga K "SPANS"), ["single", "swap", "jump", "twin", "jumptwin"])]
abbrev hkR : PySem.W.Hook := CW.hookH 4 faL fnL exR tsR
def obR (s : PySem.W.SharedT) : CW.AlH := CW.obsHG 4 faL fnL exR tsR (HandSHeadRun.getT s)
theorem obR_eq (s : PySem.W.SharedT) : obR s = hkR.obs s.abs := CW.obsHG_eq (HandSHeadRun.getT_eq s)
def loose0 : List PySem.Str := ["CheckError", "InvalidNumber", "InvalidSlip", "InvalidLinear", "TooMany", "is_whole", "is_between", "divisor_of", "SPANS", "MOST_LISTED", "linear_fits", "check_linear", "check_place", "coefficient_in", "step_in", "count_in"]
def loose1 : List PySem.Str := ["coefficient", "step_of", "how_many_by", "pairs_by", "_law_hash", "_law_random", "_law_cell", "_law_generator", "_law_same", "_law_linear", "_law_common", "_law_weighted", "_law_span", "_law_coefficient", "_law_slipped", "_law_pairs"]
def loose2 : List PySem.Str := ["_law_places", "_law_small_right", "_law_apart", "_law_great_right", "_law_many"]
def looseR : List PySem.Str := loose0 ++ loose1 ++ loose2
theorem runF (w : PySem.World) : HandSHeadRun.RunEq rowR (PySem.W.view rowR.prog [41]) hkR obR 6000 looseR (w.withFollow "special-get-raises" false) := by
  intro os
  kernel_rfl
theorem runT (w : PySem.World) : HandSHeadRun.RunEq rowR (PySem.W.view rowR.prog [41]) hkR obR 6000 looseR (w.withFollow "special-get-raises" true) := by
  intro os
  kernel_rfl
theorem runR (w : PySem.World) : HandSHeadRun.RunEq rowR (PySem.W.view rowR.prog [41]) hkR obR 6000 looseR w := PySem.W.byRow2 "special-get-raises" (P := fun w => HandSHeadRun.RunEq rowR (PySem.W.view rowR.prog [41]) hkR obR 6000 looseR w) runF runT w
structure Fx (P : Program) (w : World) (K : PySem.W.Frag) (mg : Str → Option Value) where
  hfile : P.main.file = "/claim/cut.py"
  htop : (P.main.scope.names.lookup ("super" : Str)).isSome = false
  g_TooMany : mg "TooMany" = some (.ref (He.ga K "TooMany"))
  x_TooMany : CW.XAll "/claim/cut.py" K "TooMany"
  fd_is_whole : FuncData
  D_is_whole : FunD K "is_whole" "is_whole" (defArgs s_is_whole) (defBody s_is_whole) (defScope s_is_whole) [] [] (He.ga K "is_whole") fd_is_whole
  g_is_whole : mg "is_whole" = some (.ref (He.ga K "is_whole"))
  fd_is_between : FuncData
  D_is_between : FunD K "is_between" "is_between" (defArgs s_is_between) (defBody s_is_between) (defScope s_is_between) [] [] (He.ga K "is_between") fd_is_between
  g_is_between : mg "is_between" = some (.ref (He.ga K "is_between"))
  fd_linear_fits : FuncData
  D_linear_fits : FunD K "linear_fits" "linear_fits" (defArgs s_linear_fits) (defBody s_linear_fits) (defScope s_linear_fits) [] [] (He.ga K "linear_fits") fd_linear_fits
  g_linear_fits : mg "linear_fits" = some (.ref (He.ga K "linear_fits"))
  fd_check_linear : FuncData
  D_check_linear : FunD K "check_linear" "check_linear" (defArgs s_check_linear) (defBody s_check_linear) (defScope s_check_linear) [] [] (He.ga K "check_linear") fd_check_linear
  g_check_linear : mg "check_linear" = some (.ref (He.ga K "check_linear"))
  fd_check_place : FuncData
  D_check_place : FunD K "check_place" "check_place" (defArgs s_check_place) (defBody s_check_place) (defScope s_check_place) [] [] (He.ga K "check_place") fd_check_place
  g_check_place : mg "check_place" = some (.ref (He.ga K "check_place"))
  fd_coefficient_in : FuncData
  D_coefficient_in : FunD K "coefficient_in" "coefficient_in" (defArgs s_coefficient_in) (defBody s_coefficient_in) (defScope s_coefficient_in) [] [] (He.ga K "coefficient_in") fd_coefficient_in
  g_coefficient_in : mg "coefficient_in" = some (.ref (He.ga K "coefficient_in"))
  fd_coefficient : FuncData
  D_coefficient : FunD K "coefficient" "coefficient" (defArgs s_coefficient) (defBody s_coefficient) (defScope s_coefficient) [] [] (He.ga K "coefficient") fd_coefficient
  g_coefficient : mg "coefficient" = some (.ref (He.ga K "coefficient"))
  fd_divisor_of : FuncData
  D_divisor_of : FunD K "divisor_of" "divisor_of" (defArgs s_divisor_of) (defBody s_divisor_of) (defScope s_divisor_of) [] [] (He.ga K "divisor_of") fd_divisor_of
  g_divisor_of : mg "divisor_of" = some (.ref (He.ga K "divisor_of"))
  fd_step_in : FuncData
  D_step_in : FunD K "step_in" "step_in" (defArgs s_step_in) (defBody s_step_in) (defScope s_step_in) [] [] (He.ga K "step_in") fd_step_in
  g_step_in : mg "step_in" = some (.ref (He.ga K "step_in"))
  fd_step_of : FuncData
  D_step_of : FunD K "step_of" "step_of" (defArgs s_step_of) (defBody s_step_of) (defScope s_step_of) [] [] (He.ga K "step_of") fd_step_of
  g_step_of : mg "step_of" = some (.ref (He.ga K "step_of"))
  fd__law_same : FuncData
  D__law_same : FunD K "_law_same" "_law_same" (defArgs s__law_same) (defBody s__law_same) (defScope s__law_same) [] [] (He.ga K "_law_same") fd__law_same
  g__law_same : mg "_law_same" = some (.ref (He.ga K "_law_same"))
  fd_count_in : FuncData
  D_count_in : FunD K "count_in" "count_in" (defArgs s_count_in) (defBody s_count_in) (defScope s_count_in) [] [] (He.ga K "count_in") fd_count_in
  g_count_in : mg "count_in" = some (.ref (He.ga K "count_in"))
  fd_pairs_by : FuncData
  D_pairs_by : FunD K "pairs_by" "pairs_by" (defArgs s_pairs_by) (defBody s_pairs_by) (defScope s_pairs_by) [] [] (He.ga K "pairs_by") fd_pairs_by
  g_pairs_by : mg "pairs_by" = some (.ref (He.ga K "pairs_by"))
  fd__law_many : FuncData
  D__law_many : FunD K "_law_many" "_law_many" (defArgs s__law_many) (defBody s__law_many) (defScope s__law_many) [] [] (He.ga K "_law_many") fd__law_many
  g__law_many : mg "_law_many" = some (.ref (He.ga K "_law_many"))
  fd__law_hash : FuncData
  D__law_hash : FunD K "_law_hash" "_law_hash" (defArgs s__law_hash) (defBody s__law_hash) (defScope s__law_hash) [] [] (He.ga K "_law_hash") fd__law_hash
  g__law_hash : mg "_law_hash" = some (.ref (He.ga K "_law_hash"))
  fd__law_random : FuncData
  D__law_random : FunD K "_law_random" "_law_random" (defArgs s__law_random) (defBody s__law_random) (defScope s__law_random) [] [] (He.ga K "_law_random") fd__law_random
  g__law_random : mg "_law_random" = some (.ref (He.ga K "_law_random"))
  fd__law_linear : FuncData
  D__law_linear : FunD K "_law_linear" "_law_linear" (defArgs s__law_linear) (defBody s__law_linear) (defScope s__law_linear) [] [] (He.ga K "_law_linear") fd__law_linear
  g__law_linear : mg "_law_linear" = some (.ref (He.ga K "_law_linear"))
  fd__law_span : FuncData
  D__law_span : FunD K "_law_span" "_law_span" (defArgs s__law_span) (defBody s__law_span) (defScope s__law_span) [] [] (He.ga K "_law_span") fd__law_span
  g__law_span : mg "_law_span" = some (.ref (He.ga K "_law_span"))
  fd__law_places : FuncData
  D__law_places : FunD K "_law_places" "_law_places" (defArgs s__law_places) (defBody s__law_places) (defScope s__law_places) [] [] (He.ga K "_law_places") fd__law_places
  g__law_places : mg "_law_places" = some (.ref (He.ga K "_law_places"))
  fd__law_slipped : FuncData
  D__law_slipped : FunD K "_law_slipped" "_law_slipped" (defArgs s__law_slipped) (defBody s__law_slipped) (defScope s__law_slipped) [] [] (He.ga K "_law_slipped") fd__law_slipped
  g__law_slipped : mg "_law_slipped" = some (.ref (He.ga K "_law_slipped"))
  fd__law_weighted : FuncData
  D__law_weighted : FunD K "_law_weighted" "_law_weighted" (defArgs s__law_weighted) (defBody s__law_weighted) (defScope s__law_weighted) [] [] (He.ga K "_law_weighted") fd__law_weighted
  g__law_weighted : mg "_law_weighted" = some (.ref (He.ga K "_law_weighted"))
  fd__law_pairs : FuncData
  D__law_pairs : FunD K "_law_pairs" "_law_pairs" (defArgs s__law_pairs) (defBody s__law_pairs) (defScope s__law_pairs) [] [] (He.ga K "_law_pairs") fd__law_pairs
  g__law_pairs : mg "_law_pairs" = some (.ref (He.ga K "_law_pairs"))
  fd__law_coefficient : FuncData
  D__law_coefficient : FunD K "_law_coefficient" "_law_coefficient" (defArgs s__law_coefficient) (defBody s__law_coefficient) (defScope s__law_coefficient) [] [] (He.ga K "_law_coefficient") fd__law_coefficient
  g__law_coefficient : mg "_law_coefficient" = some (.ref (He.ga K "_law_coefficient"))
  fd_how_many_by : FuncData
  D_how_many_by : FunD K "how_many_by" "how_many_by" (defArgs s_how_many_by) (defBody s_how_many_by) (defScope s_how_many_by) [] [] (He.ga K "how_many_by") fd_how_many_by
  g_how_many_by : mg "how_many_by" = some (.ref (He.ga K "how_many_by"))
  fd__law_small_right : FuncData
  D__law_small_right : FunD K "_law_small_right" "_law_small_right" (defArgs s__law_small_right) (defBody s__law_small_right) (defScope s__law_small_right) [] [] (He.ga K "_law_small_right") fd__law_small_right
  g__law_small_right : mg "_law_small_right" = some (.ref (He.ga K "_law_small_right"))
  fd__law_common : FuncData
  D__law_common : FunD K "_law_common" "_law_common" (defArgs s__law_common) (defBody s__law_common) (defScope s__law_common) [] [] (He.ga K "_law_common") fd__law_common
  g__law_common : mg "_law_common" = some (.ref (He.ga K "_law_common"))
  fd__law_apart : FuncData
  D__law_apart : FunD K "_law_apart" "_law_apart" (defArgs s__law_apart) (defBody s__law_apart) (defScope s__law_apart) [] [] (He.ga K "_law_apart") fd__law_apart
  g__law_apart : mg "_law_apart" = some (.ref (He.ga K "_law_apart"))
  fd__law_great_right : FuncData
  D__law_great_right : FunD K "_law_great_right" "_law_great_right" (defArgs s__law_great_right) (defBody s__law_great_right) (defScope s__law_great_right) [] [] (He.ga K "_law_great_right") fd__law_great_right
  g__law_great_right : mg "_law_great_right" = some (.ref (He.ga K "_law_great_right"))
  fd__law_cell : FuncData
  D__law_cell : FunD K "_law_cell" "_law_cell" (defArgs s__law_cell) (defBody s__law_cell) (defScope s__law_cell) [] [] (He.ga K "_law_cell") fd__law_cell
  g__law_cell : mg "_law_cell" = some (.ref (He.ga K "_law_cell"))
  fd__law_generator : FuncData
  D__law_generator : FunD K "_law_generator" "_law_generator" (defArgs s__law_generator) (defBody s__law_generator) (defScope s__law_generator) [] [] (He.ga K "_law_generator") fd__law_generator
  g__law_generator : mg "_law_generator" = some (.ref (He.ga K "_law_generator"))
  b_bool : mg "bool" = none
  b_int : mg "int" = none
  b_isinstance : mg "isinstance" = none
  b_len : mg "len" = none
  b_list : mg "list" = none
  b_max : mg "max" = none
  b_min : mg "min" = none
  b_range : mg "range" = none
  b_repr : mg "repr" = none
  b_str : mg "str" = none
  b_sum : mg "sum" = none
  b_super : mg "super" = none
  b_tuple : mg "tuple" = none
  b_zip : mg "zip" = none
  k_MOST_LISTED : ∃ t, mg "MOST_LISTED" = some (.int 2000 t)
  g_SPANS : mg "SPANS" = some (.ref (He.ga K "SPANS"))
  t_SPANS : KTab K w (He.ga K "SPANS") [("single", 0), ("swap", 1), ("jump", 2), ("twin", 1), ("jumptwin", 2)]
noncomputable section
variable {P : Program} {w : World} {K : PySem.W.Frag} {mg : Str → Option Value} {base : Heap}
theorem xfs (c : Fx P w K mg) : ∀ x ∈ (["TooMany"] : List Str), XfOk K x := by
  intro x hx
  rcases List.mem_cons.mp hx with rfl | hx
  · exact c.x_TooMany.xf
  · cases hx
theorem sc_is_whole : FnScope ["value"] ["value"] (defScope s_is_whole) := ⟨rfl, rfl, rfl, by decide +kernel, rfl, by decide +kernel, by decide +kernel⟩
abbrev m_is_whole : MS :=
  (mRet (mVal (mAndV (mIsi "int" (mVar 0)) (mNotV (mIsi "bool" (mVar 0))))))
def F_is_whole : FM := fnM 0 m_is_whole
theorem bn_is_whole (c : Fx P w K mg) : Binds K c.fd_is_whole ["value"] [] := FunD.bindsN (ps := ["value"]) c.D_is_whole fun _ _ _ _ _ _ us hl => match us, hl with | [_], _ => rfl
theorem fn_is_whole (c : Fx P w K mg) : FnG P w K mg base CX0 1 (He.ga K "is_whole") c.fd_is_whole ["value"] (spD K mg 1 F_is_whole) :=
  fnG_D c.D_is_whole sc_is_whole rfl rfl fun _ _ _ _ _ _ hG hr => have hu := hr.units; have hu5 := unit5 hr; ⟨_, RB.nox <|
    (rb_one (rs_ret (rn_val (re_and (re_isi "int" rfl c.b_isinstance rfl c.b_int cb_int (re_var 0)) (re_one (re_not (re_isi "bool" rfl c.b_isinstance rfl c.b_bool cb_bool (re_var 0))))))))⟩
theorem sc_is_between : FnScope ["value", "low", "high"] ["value", "low", "high"] (defScope s_is_between) := ⟨rfl, rfl, rfl, by decide +kernel, rfl, by decide +kernel, by decide +kernel⟩
abbrev m_is_between : MS :=
  (mSeq (mIfS (mNotT (mT (mFrz (mCallV 1 F_is_whole (mCons (mVar 0) mNil))))) (mRet (mVal (mC (.bool false)))) mNext)
  (mRet (mVal (mAndV (mOrV (mOp fIsN (mVar 1) (mC .none)) (mOp fGeI (mVar 0) (mVar 1))) (mOrV (mOp fIsN (mVar 2) (mC .none)) (mOp fLeI (mVar 0) (mVar 2)))))))
def F_is_between : FM := fnM 0 m_is_between
theorem bn_is_between (c : Fx P w K mg) : Binds K c.fd_is_between ["value", "low", "high"] [] := FunD.bindsN (ps := ["value", "low", "high"]) c.D_is_between fun _ _ _ _ _ _ us hl => match us, hl with | [_, _, _], _ => rfl
theorem fn_is_between (c : Fx P w K mg) : FnG P w K mg base CX0 2 (He.ga K "is_between") c.fd_is_between ["value", "low", "high"] (spD K mg 3 F_is_between) :=
  fnG_D c.D_is_between sc_is_between rfl rfl fun _ _ _ _ _ _ hG hr => have hu := hr.units; have hu5 := unit5 hr; ⟨_, RB.nox <|
    (rb_cons (rs_if (rt_not (rt_val (re_new (rn_callV (fn_is_whole c) hG (hr.mono (by decide)) rfl c.g_is_whole c.D_is_whole.kp (bn_is_whole c) (ra_cons (re_var 0) ra_nil))))) (rb_one (rs_ret (rn_val re_bl))) rb_nil)
      (rb_one (rs_ret (rn_val (re_and (re_or (re_cmp (CW.op_isN) opv_isN (re_var 1) re_non (nomark _)) (re_one (re_cmp (op_geA hu) opv_cmpA (re_var 0) (re_var 1) (nomark _)))) (re_one (re_or (re_cmp (CW.op_isN) opv_isN (re_var 2) re_non (nomark _)) (re_one (re_cmp (op_leA hu) opv_cmpA (re_var 0) (re_var 2) (nomark _))))))))))⟩
theorem sc_linear_fits : FnScope ["value", "modulus", "signs", "weights", "total", "weight"] ["value"] (defScope s_linear_fits) := ⟨rfl, rfl, rfl, by decide +kernel, rfl, by decide +kernel, by decide +kernel⟩
abbrev cg_linear_fits_0 : PyData → Ev → Res Ev := (gSet 5)
abbrev ct_linear_fits_0 : MT := (mNotT (mT (mFrz (mCallV 3 F_is_between (mCons (mVar 5) (mCons (mC (.int 1)) (mCons (mOp fSub (mVar 1) (mC (.int 1))) mNil)))))))
abbrev ce_linear_fits_0 : ME := (mVar 5)
abbrev m_linear_fits : MS :=
  (mSeq (mIfS (mOrT (mNotT (mT (mIsi "tuple" (mVar 0)))) (mOrT (mT (mOp fNe (mFrz (mCall fLen (mCons (mVar 0) mNil))) (mC (.int 4)))) (mNotT (mT (mFrz (mCallV 3 F_is_between (mCons (mOp fIx (mVar 0) (mC (.int 0))) (mCons (mC (.int 2)) (mCons (mC .none) mNil))))))))) (mRet (mVal (mC (.bool false)))) mNext)
  (mSeq (mAsg (mVar 0) (gsTup 4 (gsCons (gSet 1) (gsCons (gSet 2) (gsCons (gSet 3) (gsCons (gSet 4) gsNil))))))
  (mSeq (mIfS (mOrT (mNotT (mT (mFrz (mCallV 3 F_is_between (mCons (mVar 2) (mCons (mC (.int 2)) (mCons (mVar 1) mNil))))))) (mNotT (mT (mFrz (mCallV 3 F_is_between (mCons (mVar 4) (mCons (mC (.int 0)) (mCons (mOp fSub (mVar 1) (mC (.int 1))) mNil)))))))) (mRet (mVal (mC (.bool false)))) mNext)
  (mSeq (mIfS (mOrT (mNotT (mT (mIsi "list" (mVar 3)))) (mT (mOp fLtI (mFrz (mCall fLen (mCons (mVar 3) mNil))) (mC (.int 2))))) (mRet (mVal (mC (.bool false)))) mNext)
  (mRet (mVal (mOp fEq (mFrz (mLc (mItems (mVar 3)) cg_linear_fits_0 ct_linear_fits_0 ce_linear_fits_0 [5])) (mFrz (mLst mNil)))))))))
def F_linear_fits : FM := fnM 5 m_linear_fits
theorem bn_linear_fits (c : Fx P w K mg) : Binds K c.fd_linear_fits ["value"] [] := FunD.bindsN (ps := ["value"]) c.D_linear_fits fun _ _ _ _ _ _ us hl => match us, hl with | [_], _ => rfl
theorem fn_linear_fits (c : Fx P w K mg) : FnG P w K mg base CX0 3 (He.ga K "linear_fits") c.fd_linear_fits ["value"] (spD K mg 1 F_linear_fits) :=
  fnG_D c.D_linear_fits sc_linear_fits rfl rfl fun _ _ _ _ _ _ hG hr => have hu := hr.units; have hu5 := unit5 hr; ⟨_, RB.nox <|
    (rb_cons (rs_if (RW.rt (rw_or (rt_not (rt_val (re_isi "tuple" rfl c.b_isinstance rfl c.b_tuple cb_tuple (re_var 0)))) (rw_or (rt_cmp (op_neA hu) opv_ne (re_new (rn_callB call_lenA calln_len rfl c.b_len cb_len (ra_cons (re_var 0) ra_nil))) re_int (nomark _)) (rw_or1 (rt_not (rt_val (re_new (rn_callV (fn_is_between c) hG (hr.mono (by decide)) rfl c.g_is_between c.D_is_between.kp (bn_is_between c) (ra_cons (re_ix (re_var 0) re_int) (ra_cons re_int (ra_cons re_non ra_nil))))))))))) (rb_one (rs_ret (rn_val re_bl))) rb_nil)
      (rb_cons (rs_asg (re_var 0) (rg_tup rfl (rgs_cons (rg_name 1 sc_linear_fits.nd) (rgs_cons (rg_name 2 sc_linear_fits.nd) (rgs_cons (rg_name 3 sc_linear_fits.nd) (rgs_cons (rg_name 4 sc_linear_fits.nd) rgs_nil))))))
      (rb_cons (rs_if (RW.rt (rw_or (rt_not (rt_val (re_new (rn_callV (fn_is_between c) hG (hr.mono (by decide)) rfl c.g_is_between c.D_is_between.kp (bn_is_between c) (ra_cons (re_var 2) (ra_cons re_int (ra_cons (re_var 1) ra_nil))))))) (rw_or1 (rt_not (rt_val (re_new (rn_callV (fn_is_between c) hG (hr.mono (by decide)) rfl c.g_is_between c.D_is_between.kp (bn_is_between c) (ra_cons (re_var 4) (ra_cons re_int (ra_cons (re_sub (re_var 1) re_int) ra_nil)))))))))) (rb_one (rs_ret (rn_val re_bl))) rb_nil)
      (rb_cons (rs_if (RW.rt (rw_or (rt_not (rt_val (re_isi "list" rfl c.b_isinstance rfl c.b_list cb_list (re_var 3)))) (rw_or1 (rt_cmp (op_ltA hu) opv_cmpA (re_new (rn_callB call_lenA calln_len rfl c.b_len cb_len (ra_cons (re_var 3) ra_nil))) re_int (nomark _))))) (rb_one (rs_ret (rn_val re_bl))) rb_nil)
      (rb_one (rs_ret (rn_val (re_cmp (op_eqA hu) opv_eq (re_new (rn_lc [("weight", 5)] rfl sc_linear_fits.nd (ri_any (re_var 3)) (fun _ _ _ _ _ => ⟨_, _, (rg_name 5 sc_linear_fits.nd), by decide⟩) (fun _ _ _ _ _ => ⟨_, (rts_one (rt_not (rt_val (re_new (rn_callV (fn_is_between c) hG (hr.mono (by decide)) rfl c.g_is_between c.D_is_between.kp (bn_is_between c) (ra_cons (re_var 5) (ra_cons re_int (ra_cons (re_sub (re_var 1) re_int) ra_nil))))))))⟩) (fun _ _ _ _ _ => ⟨_, (re_var 5)⟩))) (re_new (rn_lst ra_nil)) (nomark _)))))))))⟩
theorem sc_check_linear : FnScope ["linear"] ["linear"] (defScope s_check_linear) := ⟨rfl, rfl, rfl, by decide +kernel, rfl, by decide +kernel, by decide +kernel⟩
abbrev m_check_linear : MS :=
  (mIfS (mNotT (mT (mFrz (mCallV 1 F_linear_fits (mCons (mVar 0) mNil))))) mNever mNext)
def F_check_linear : FM := fnM 0 m_check_linear
theorem bn_check_linear (c : Fx P w K mg) : Binds K c.fd_check_linear ["linear"] [] := FunD.bindsN (ps := ["linear"]) c.D_check_linear fun _ _ _ _ _ _ us hl => match us, hl with | [_], _ => rfl
theorem fn_check_linear (c : Fx P w K mg) : FnG P w K mg base CX0 4 (He.ga K "check_linear") c.fd_check_linear ["linear"] (spD K mg 1 F_check_linear) :=
  fnG_D c.D_check_linear sc_check_linear rfl rfl fun _ _ _ _ _ _ hG hr => have hu := hr.units; have hu5 := unit5 hr; ⟨_, RB.nox <|
    (rb_one (rs_if (rt_not (rt_val (re_new (rn_callV (fn_linear_fits c) hG (hr.mono (by decide)) rfl c.g_linear_fits c.D_linear_fits.kp (bn_linear_fits c) (ra_cons (re_var 0) ra_nil))))) rb_never rb_nil))⟩
theorem sc_check_place : FnScope ["linear", "kind", "place"] ["linear", "kind", "place"] (defScope s_check_place) := ⟨rfl, rfl, rfl, by decide +kernel, rfl, by decide +kernel, by decide +kernel⟩
abbrev m_check_place : MS :=
  (mSeq (mDrop (mCallV 1 F_check_linear (mCons (mVar 0) mNil)))
  (mSeq (mIfS (mOrT (mNotT (mT (mIsi "str" (mVar 1)))) (mT (mKdIn true [("single", 0), ("swap", 1), ("jump", 2), ("twin", 1), ("jumptwin", 2)] (mVar 1)))) mNever mNext)
  (mIfS (mNotT (mT (mFrz (mCallV 3 F_is_between (mCons (mVar 2) (mCons (mC (.int 0)) (mCons (mOp fSub (mOp fSub (mFrz (mCall fLen (mCons (mOp fIx (mVar 0) (mC (.int 2))) mNil))) (mC (.int 1))) (mKd [("single", 0), ("swap", 1), ("jump", 2), ("twin", 1), ("jumptwin", 2)] (mVar 1))) mNil))))))) mNever mNext)))
def F_check_place : FM := fnM 0 m_check_place
theorem bn_check_place (c : Fx P w K mg) : Binds K c.fd_check_place ["linear", "kind", "place"] [] := FunD.bindsN (ps := ["linear", "kind", "place"]) c.D_check_place fun _ _ _ _ _ _ us hl => match us, hl with | [_, _, _], _ => rfl
theorem fn_check_place (c : Fx P w K mg) : FnG P w K mg base CX0 5 (He.ga K "check_place") c.fd_check_place ["linear", "kind", "place"] (spD K mg 3 F_check_place) :=
  fnG_D c.D_check_place sc_check_place rfl rfl fun _ _ _ _ _ _ hG hr => have hu := hr.units; have hu5 := unit5 hr; ⟨_, RB.nox <|
    (rb_cons (rs_expr (rn_callV (fn_check_linear c) hG (hr.mono (by decide)) rfl c.g_check_linear c.D_check_linear.kp (bn_check_linear c) (ra_cons (re_var 0) ra_nil)))
      (rb_cons (rs_if (RW.rt (rw_or (rt_not (rt_val (re_isi "str" rfl c.b_isinstance rfl c.b_str cb_str (re_var 1)))) (rw_or1 (rt_kdNotIn rfl c.g_SPANS c.t_SPANS (re_var 1))))) rb_never rb_nil)
      (rb_one (rs_if (rt_not (rt_val (re_new (rn_callV (fn_is_between c) hG (hr.mono (by decide)) rfl c.g_is_between c.D_is_between.kp (bn_is_between c) (ra_cons (re_var 2) (ra_cons re_int (ra_cons (re_sub (re_sub (re_new (rn_callB call_lenA calln_len rfl c.b_len cb_len (ra_cons (re_ix (re_var 0) re_int) ra_nil))) re_int) (re_kd rfl c.g_SPANS c.t_SPANS (re_var 1))) ra_nil))))))) rb_never rb_nil))))⟩
theorem sc_coefficient_in : FnScope ["modulus", "weights", "kind", "place", "other"] ["modulus", "weights", "kind", "place"] (defScope s_coefficient_in) := ⟨rfl, rfl, rfl, by decide +kernel, rfl, by decide +kernel, by decide +kernel⟩
abbrev m_coefficient_in : MS :=
  (mSeq (mIfS (mT (mOp fEq (mVar 2) (mC (.str "single")))) (mRet (mVal (mOp fIx (mVar 1) (mVar 3)))) mNext)
  (mSeq (mSet 4 (mVal (mOp fIx (mVar 1) (mOp fAdd (mVar 3) (mKd [("single", 0), ("swap", 1), ("jump", 2), ("twin", 1), ("jumptwin", 2)] (mVar 2))))))
  (mRet (mVal (mOp fMod (mOp fAdd (mOp fIx (mVar 1) (mVar 3)) (mIf (mT (mOp (fInD false) (mVar 2) (mFrz (mLst (mCons (mC (.str "twin")) (mCons (mC (.str "jumptwin")) mNil)))))) (mVar 4) (mOp fSub (mC (.int 0)) (mVar 4)))) (mVar 0))))))
def F_coefficient_in : FM := fnM 1 m_coefficient_in
theorem bn_coefficient_in (c : Fx P w K mg) : Binds K c.fd_coefficient_in ["modulus", "weights", "kind", "place"] [] := FunD.bindsN (ps := ["modulus", "weights", "kind", "place"]) c.D_coefficient_in fun _ _ _ _ _ _ us hl => match us, hl with | [_, _, _, _], _ => rfl
theorem fn_coefficient_in (c : Fx P w K mg) : FnG P w K mg base CX0 1 (He.ga K "coefficient_in") c.fd_coefficient_in ["modulus", "weights", "kind", "place"] (spD K mg 4 F_coefficient_in) :=
  fnG_D c.D_coefficient_in sc_coefficient_in rfl rfl fun _ _ _ _ _ _ hG hr => have hu := hr.units; have hu5 := unit5 hr; ⟨_, RB.nox <|
    (rb_cons (rs_if (rt_cmp (op_eqA hu) opv_eq (re_var 2) re_str (nomark _)) (rb_one (rs_ret (rn_val (re_ix (re_var 1) (re_var 3))))) rb_nil)
      (rb_cons (rs_set 4 sc_coefficient_in.nd (rn_val (re_ix (re_var 1) (re_add (re_var 3) (re_kd rfl c.g_SPANS c.t_SPANS (re_var 2))))))
      (rb_one (rs_ret (rn_val (re_mod (re_add (re_ix (re_var 1) (re_var 3)) (re_if (rt_cmp (op_inA hu5) (opv_inA false) (re_var 2) (re_new (rn_lst (ra_cons re_str (ra_cons re_str ra_nil)))) rfl) (re_var 4) (re_sub re_int (re_var 4)))) (re_var 0)))))))⟩
theorem sc_coefficient : FnScope ["linear", "kind", "place"] ["linear", "kind", "place"] (defScope s_coefficient) := ⟨rfl, rfl, rfl, by decide +kernel, rfl, by decide +kernel, by decide +kernel⟩
abbrev m_coefficient : MS :=
  (mSeq (mDrop (mCallV 3 F_check_place (mCons (mVar 0) (mCons (mVar 1) (mCons (mVar 2) mNil)))))
  (mRet (mCallV 4 F_coefficient_in (mCons (mOp fIx (mVar 0) (mC (.int 0))) (mCons (mOp fIx (mVar 0) (mC (.int 2))) (mCons (mVar 1) (mCons (mVar 2) mNil)))))))
def F_coefficient : FM := fnM 0 m_coefficient
theorem bn_coefficient (c : Fx P w K mg) : Binds K c.fd_coefficient ["linear", "kind", "place"] [] := FunD.bindsN (ps := ["linear", "kind", "place"]) c.D_coefficient fun _ _ _ _ _ _ us hl => match us, hl with | [_, _, _], _ => rfl
theorem kw_coefficient_0_place_kind_linear (c : Fx P w K mg) : KwTo K c.fd_coefficient ["linear", "kind", "place"] 0 ["place", "kind", "linear"] [2, 1, 0] := kwTo_of c.D_coefficient fun _ _ _ _ _ _ us ws h1 h2 => match us, ws, h1, h2 with | [], [_, _, _], _, _ => rfl
theorem fn_coefficient (c : Fx P w K mg) : FnG P w K mg base CX0 6 (He.ga K "coefficient") c.fd_coefficient ["linear", "kind", "place"] (spD K mg 3 F_coefficient) :=
  fnG_D c.D_coefficient sc_coefficient rfl rfl fun _ _ _ _ _ _ hG hr => have hu := hr.units; have hu5 := unit5 hr; ⟨_, RB.nox <|
    (rb_cons (rs_expr (rn_callV (fn_check_place c) hG (hr.mono (by decide)) rfl c.g_check_place c.D_check_place.kp (bn_check_place c) (ra_cons (re_var 0) (ra_cons (re_var 1) (ra_cons (re_var 2) ra_nil)))))
      (rb_one (rs_ret (rn_callV (fn_coefficient_in c) hG (hr.mono (by decide)) rfl c.g_coefficient_in c.D_coefficient_in.kp (bn_coefficient_in c) (ra_cons (re_ix (re_var 0) re_int) (ra_cons (re_ix (re_var 0) re_int) (ra_cons (re_var 1) (ra_cons (re_var 2) ra_nil))))))))⟩
theorem sc_divisor_of : FnScope ["one", "other"] ["one", "other"] (defScope s_divisor_of) := ⟨rfl, rfl, rfl, by decide +kernel, rfl, by decide +kernel, by decide +kernel⟩
abbrev wc_divisor_of_0 : MT := (mT (mOp fNe (mVar 1) (mC (.int 0))))
abbrev wb_divisor_of_0 : MS := (mPar 0 1 (mCons (mVar 1) (mCons (mOp fMod (mVar 0) (mVar 1)) mNil)))
abbrev m_divisor_of : MS :=
  (mSeq (mWhile wc_divisor_of_0 wb_divisor_of_0)
  (mRet (mVal (mVar 0))))
def F_divisor_of : FM := fnM 0 m_divisor_of
theorem bn_divisor_of (c : Fx P w K mg) : Binds K c.fd_divisor_of ["one", "other"] [] := FunD.bindsN (ps := ["one", "other"]) c.D_divisor_of fun _ _ _ _ _ _ us hl => match us, hl with | [_, _], _ => rfl
theorem fn_divisor_of (c : Fx P w K mg) : FnG P w K mg base CX0 1 (He.ga K "divisor_of") c.fd_divisor_of ["one", "other"] (spD K mg 2 F_divisor_of) :=
  fnG_D c.D_divisor_of sc_divisor_of rfl rfl fun _ _ _ _ _ _ hG hr => have hu := hr.units; have hu5 := unit5 hr; ⟨_, RB.nox <|
    (rb_cons (rs_while PassesOwn.never (rt_cmp (op_neA hu) opv_ne (re_var 1) re_int (nomark _)) (rb_one (rs_par 0 1 rfl sc_divisor_of.nd (ra_cons (re_var 1) (ra_cons (re_mod (re_var 0) (re_var 1)) ra_nil)))))
      (rb_one (rs_ret (rn_val (re_var 0)))))⟩
theorem sc_step_in : FnScope ["linear", "kind", "place"] ["linear", "kind", "place"] (defScope s_step_in) := ⟨rfl, rfl, rfl, by decide +kernel, rfl, by decide +kernel, by decide +kernel⟩
abbrev m_step_in : MS :=
  (mRet (mVal (mOp fDiv (mOp fIx (mVar 0) (mC (.int 0))) (mFrz (mCallV 2 F_divisor_of (mCons (mOp fIx (mVar 0) (mC (.int 0))) (mCons (mFrz (mCallV 4 F_coefficient_in (mCons (mOp fIx (mVar 0) (mC (.int 0))) (mCons (mOp fIx (mVar 0) (mC (.int 2))) (mCons (mVar 1) (mCons (mVar 2) mNil)))))) mNil)))))))
def F_step_in : FM := fnM 0 m_step_in
theorem bn_step_in (c : Fx P w K mg) : Binds K c.fd_step_in ["linear", "kind", "place"] [] := FunD.bindsN (ps := ["linear", "kind", "place"]) c.D_step_in fun _ _ _ _ _ _ us hl => match us, hl with | [_, _, _], _ => rfl
theorem fn_step_in (c : Fx P w K mg) : FnG P w K mg base CX0 2 (He.ga K "step_in") c.fd_step_in ["linear", "kind", "place"] (spD K mg 3 F_step_in) :=
  fnG_D c.D_step_in sc_step_in rfl rfl fun _ _ _ _ _ _ hG hr => have hu := hr.units; have hu5 := unit5 hr; ⟨_, RB.nox <|
    (rb_one (rs_ret (rn_val (re_fdiv (re_ix (re_var 0) re_int) (re_new (rn_callV (fn_divisor_of c) hG (hr.mono (by decide)) rfl c.g_divisor_of c.D_divisor_of.kp (bn_divisor_of c) (ra_cons (re_ix (re_var 0) re_int) (ra_cons (re_new (rn_callV (fn_coefficient_in c) hG (hr.mono (by decide)) rfl c.g_coefficient_in c.D_coefficient_in.kp (bn_coefficient_in c) (ra_cons (re_ix (re_var 0) re_int) (ra_cons (re_ix (re_var 0) re_int) (ra_cons (re_var 1) (ra_cons (re_var 2) ra_nil)))))) ra_nil))))))))⟩
theorem sc_step_of : FnScope ["linear", "kind", "place"] ["linear", "kind", "place"] (defScope s_step_of) := ⟨rfl, rfl, rfl, by decide +kernel, rfl, by decide +kernel, by decide +kernel⟩
abbrev m_step_of : MS :=
  (mSeq (mDrop (mCallV 3 F_check_place (mCons (mVar 0) (mCons (mVar 1) (mCons (mVar 2) mNil)))))
  (mRet (mCallV 3 F_step_in (mCons (mVar 0) (mCons (mVar 1) (mCons (mVar 2) mNil))))))
def F_step_of : FM := fnM 0 m_step_of
theorem bn_step_of (c : Fx P w K mg) : Binds K c.fd_step_of ["linear", "kind", "place"] [] := FunD.bindsN (ps := ["linear", "kind", "place"]) c.D_step_of fun _ _ _ _ _ _ us hl => match us, hl with | [_, _, _], _ => rfl
theorem kw_step_of_0_place_kind_linear (c : Fx P w K mg) : KwTo K c.fd_step_of ["linear", "kind", "place"] 0 ["place", "kind", "linear"] [2, 1, 0] := kwTo_of c.D_step_of fun _ _ _ _ _ _ us ws h1 h2 => match us, ws, h1, h2 with | [], [_, _, _], _, _ => rfl
theorem fn_step_of (c : Fx P w K mg) : FnG P w K mg base CX0 6 (He.ga K "step_of") c.fd_step_of ["linear", "kind", "place"] (spD K mg 3 F_step_of) :=
  fnG_D c.D_step_of sc_step_of rfl rfl fun _ _ _ _ _ _ hG hr => have hu := hr.units; have hu5 := unit5 hr; ⟨_, RB.nox <|
    (rb_cons (rs_expr (rn_callV (fn_check_place c) hG (hr.mono (by decide)) rfl c.g_check_place c.D_check_place.kp (bn_check_place c) (ra_cons (re_var 0) (ra_cons (re_var 1) (ra_cons (re_var 2) ra_nil)))))
      (rb_one (rs_ret (rn_callV (fn_step_in c) hG (hr.mono (by decide)) rfl c.g_step_in c.D_step_in.kp (bn_step_in c) (ra_cons (re_var 0) (ra_cons (re_var 1) (ra_cons (re_var 2) ra_nil)))))))⟩
theorem sc__law_same : FnScope ["told", "due"] ["told", "due"] (defScope s__law_same) := ⟨rfl, rfl, rfl, by decide +kernel, rfl, by decide +kernel, by decide +kernel⟩
abbrev m__law_same : MS :=
  (mRet (mVal (mOp fEq (mFrz (mCall fRepr (mCons (mVar 0) mNil))) (mFrz (mCall fRepr (mCons (mVar 1) mNil))))))
def F__law_same : FM := fnM 0 m__law_same
theorem bn__law_same (c : Fx P w K mg) : Binds K c.fd__law_same ["told", "due"] [] := FunD.bindsN (ps := ["told", "due"]) c.D__law_same fun _ _ _ _ _ _ us hl => match us, hl with | [_, _], _ => rfl
theorem fn__law_same (c : Fx P w K mg) : FnG P w K mg base CX0 1 (He.ga K "_law_same") c.fd__law_same ["told", "due"] (spD K mg 2 F__law_same) :=
  fnG_D c.D__law_same sc__law_same rfl rfl fun _ _ _ _ _ _ hG hr => have hu := hr.units; have hu5 := unit5 hr; ⟨_, RB.nox <|
    (rb_one (rs_ret (rn_val (re_cmp (op_eqA hu) opv_eq (re_new (rn_callB (call_reprD hG hu) calln_repr rfl c.b_repr cb_repr (ra_cons (re_var 0) ra_nil))) (re_new (rn_callB (call_reprD hG hu) calln_repr rfl c.b_repr cb_repr (ra_cons (re_var 1) ra_nil))) (nomark _)))))⟩
theorem sc_count_in : FnScope ["signs", "step", "times"] ["signs", "step"] (defScope s_count_in) := ⟨rfl, rfl, rfl, by decide +kernel, rfl, by decide +kernel, by decide +kernel⟩
abbrev m_count_in : MS :=
  (mSeq (mSet 2 (mVal (mOp fDiv (mOp fSub (mVar 0) (mC (.int 1))) (mVar 1))))
  (mRet (mVal (mOp fSub (mOp fMulI (mVar 2) (mVar 0)) (mOp fDiv (mOp fMulI (mOp fMulI (mVar 1) (mVar 2)) (mOp fAdd (mVar 2) (mC (.int 1)))) (mC (.int 2)))))))
def F_count_in : FM := fnM 1 m_count_in
theorem bn_count_in (c : Fx P w K mg) : Binds K c.fd_count_in ["signs", "step"] [] := FunD.bindsN (ps := ["signs", "step"]) c.D_count_in fun _ _ _ _ _ _ us hl => match us, hl with | [_, _], _ => rfl
theorem fn_count_in (c : Fx P w K mg) : FnG P w K mg base CX0 1 (He.ga K "count_in") c.fd_count_in ["signs", "step"] (spD K mg 2 F_count_in) :=
  fnG_D c.D_count_in sc_count_in rfl rfl fun _ _ _ _ _ _ hG hr => have hu := hr.units; have hu5 := unit5 hr; ⟨_, RB.nox <|
    (rb_cons (rs_set 2 sc_count_in.nd (rn_val (re_fdiv (re_sub (re_var 0) re_int) (re_var 1))))
      (rb_one (rs_ret (rn_val (re_sub (re_mul (re_var 2) (re_var 0)) (re_fdiv (re_mul (re_mul (re_var 1) (re_var 2)) (re_add (re_var 2) re_int)) re_int))))))⟩
theorem sc_pairs_by : FnScope ["linear", "kind", "place", "signs", "step", "many", "found", "low", "high"] ["linear", "kind", "place"] (defScope s_pairs_by) := ⟨rfl, rfl, rfl, by decide +kernel, rfl, by decide +kernel, by decide +kernel⟩
abbrev cg_pairs_by_0 : PyData → Ev → Res Ev := (gSet 8)
abbrev ct_pairs_by_0 : MT := mYes
abbrev ce_pairs_by_0 : ME := (mTup (mCons (mVar 7) (mCons (mVar 8) mNil)))
abbrev g_pairs_by_0 : PyData → Ev → Res Ev := (gSet 7)
abbrev b_pairs_by_0 : MS := (mSet 6 (mOpN fAddN (mFz 6) (mFrz (mLc (mRngL (mCons (mOp fAdd (mVar 7) (mVar 4)) (mCons (mVar 3) (mCons (mVar 4) mNil)))) cg_pairs_by_0 ct_pairs_by_0 ce_pairs_by_0 [8]))))
abbrev m_pairs_by : MS :=
  (mSeq (mDrop (mCallV 3 F_check_place (mCons (mVar 0) (mCons (mVar 1) (mCons (mVar 2) mNil)))))
  (mSeq (mPar 3 4 (mCons (mOp fIx (mVar 0) (mC (.int 1))) (mCons (mFrz (mCallV 3 F_step_in (mCons (mVar 0) (mCons (mVar 1) (mCons (mVar 2) mNil))))) mNil)))
  (mSeq (mSet 5 (mVal (mFrz (mCallV 2 F_count_in (mCons (mVar 3) (mCons (mVar 4) mNil))))))
  (mSeq (mIfS (mT (mOp fGtI (mVar 5) (mC (.int 2000)))) mNever mNext)
  (mSeq (mSet 6 (mLst mNil))
  (mSeq (mFor (mRng1 (mCons (mIf (mT (mOp fGtI (mVar 5) (mC (.int 0)))) (mFrz (mCall fMax2 (mCons (mOp fSub (mVar 3) (mVar 4)) (mCons (mC (.int 0)) mNil)))) (mC (.int 0))) mNil)) g_pairs_by_0 b_pairs_by_0)
  (mRet (mMv 6))))))))
def F_pairs_by : FM := fnM 6 m_pairs_by
theorem bn_pairs_by (c : Fx P w K mg) : Binds K c.fd_pairs_by ["linear", "kind", "place"] [] := FunD.bindsN (ps := ["linear", "kind", "place"]) c.D_pairs_by fun _ _ _ _ _ _ us hl => match us, hl with | [_, _, _], _ => rfl
theorem kw_pairs_by_0_place_kind_linear (c : Fx P w K mg) : KwTo K c.fd_pairs_by ["linear", "kind", "place"] 0 ["place", "kind", "linear"] [2, 1, 0] := kwTo_of c.D_pairs_by fun _ _ _ _ _ _ us ws h1 h2 => match us, ws, h1, h2 with | [], [_, _, _], _, _ => rfl
theorem fn_pairs_by (c : Fx P w K mg) : FnG P w K mg base CX0 6 (He.ga K "pairs_by") c.fd_pairs_by ["linear", "kind", "place"] (spD K mg 3 F_pairs_by) :=
  fnG_D c.D_pairs_by sc_pairs_by rfl rfl fun _ _ _ _ _ _ hG hr => have hu := hr.units; have hu5 := unit5 hr; ⟨_, RB.nox <|
    (rb_cons (rs_expr (rn_callV (fn_check_place c) hG (hr.mono (by decide)) rfl c.g_check_place c.D_check_place.kp (bn_check_place c) (ra_cons (re_var 0) (ra_cons (re_var 1) (ra_cons (re_var 2) ra_nil)))))
      (rb_cons (rs_par 3 4 rfl sc_pairs_by.nd (ra_cons (re_ix (re_var 0) re_int) (ra_cons (re_new (rn_callV (fn_step_in c) hG (hr.mono (by decide)) rfl c.g_step_in c.D_step_in.kp (bn_step_in c) (ra_cons (re_var 0) (ra_cons (re_var 1) (ra_cons (re_var 2) ra_nil))))) ra_nil)))
      (rb_cons (rs_set 5 sc_pairs_by.nd (rn_val (re_new (rn_callV (fn_count_in c) hG (hr.mono (by decide)) rfl c.g_count_in c.D_count_in.kp (bn_count_in c) (ra_cons (re_var 3) (ra_cons (re_var 4) ra_nil))))))
      (rb_cons (rs_if (rt_cmp (op_gtA hu) opv_cmpA (re_var 5) (re_gloI rfl c.k_MOST_LISTED) (nomark _)) rb_never rb_nil)
      (rb_cons (rs_set 6 sc_pairs_by.nd (rn_lst ra_nil))
      (rb_cons (rs_for PassesOwn.never rfl (ri_rng1 rfl c.b_range (ra_cons (re_if (rt_cmp (op_gtA hu) opv_cmpA (re_var 5) re_int (nomark _)) (re_new (rn_callB (call_max2 rfl) calln_max2 rfl c.b_max cb_max (ra_cons (re_sub (re_var 3) (re_var 4)) (ra_cons re_int ra_nil)))) re_int) ra_nil)) (rg_name 7 sc_pairs_by.nd) (rb_one (rs_set 6 sc_pairs_by.nd (rn_addL (re_fz 6) (re_new (rn_lc [("high", 8)] rfl sc_pairs_by.nd (ri_rngL rfl c.b_range (ra_cons (re_add (re_var 7) (re_var 4)) (ra_cons (re_var 3) (ra_cons (re_var 4) ra_nil)))) (fun _ _ _ _ _ => ⟨_, _, (rg_name 8 sc_pairs_by.nd), by decide⟩) (fun _ _ _ _ _ => ⟨_, rts_nil⟩) (fun _ _ _ _ _ => ⟨_, (re_tup (ra_cons (re_var 7) (ra_cons (re_var 8) ra_nil)))⟩)))))))
      (rb_one (rs_ret (rn_mv 6)))))))))⟩
abbrev mx_pairs_by : MS :=
  (xSeq (mDrop (mCallV 3 F_check_place (mCons (mVar 0) (mCons (mVar 1) (mCons (mVar 2) mNil))))) (xSeq (mPar 3 4 (mCons (mOp fIx (mVar 0) (mC (.int 1))) (mCons (mFrz (mCallV 3 F_step_in (mCons (mVar 0) (mCons (mVar 1) (mCons (mVar 2) mNil))))) mNil))) (xSeq (mSet 5 (mVal (mFrz (mCallV 2 F_count_in (mCons (mVar 3) (mCons (mVar 4) mNil)))))) (xIf (mT (mOp fGtI (mVar 5) (mC (.int 2000)))) (xRaise "TooMany" (mVar 5)) xNo))))
def E_pairs_by : FM := fnX 6 mx_pairs_by
theorem fx_pairs_by (c : Fx P w K mg) : FnG P w K mg base (L2.CX P w) 6 (He.ga K "pairs_by") c.fd_pairs_by ["linear", "kind", "place"] (spX K mg 3 E_pairs_by) :=
  fnX_D c.D_pairs_by sc_pairs_by rfl rfl fun _ _ _ _ _ _ hG hr tk => have hu := hr.units; have hu5 := unit5 hr; ⟨_, (rx_then (RS.nox (rs_expr (rn_callV (fn_check_place c) hG (hr.mono (by decide)) rfl c.g_check_place c.D_check_place.kp (bn_check_place c) (ra_cons (re_var 0) (ra_cons (re_var 1) (ra_cons (re_var 2) ra_nil)))))) (rx_then (RS.nox (rs_par 3 4 rfl sc_pairs_by.nd (ra_cons (re_ix (re_var 0) re_int) (ra_cons (re_new (rn_callV (fn_step_in c) hG (hr.mono (by decide)) rfl c.g_step_in c.D_step_in.kp (bn_step_in c) (ra_cons (re_var 0) (ra_cons (re_var 1) (ra_cons (re_var 2) ra_nil))))) ra_nil)))) (rx_then (RS.nox (rs_set 5 sc_pairs_by.nd (rn_val (re_new (rn_callV (fn_count_in c) hG (hr.mono (by decide)) rfl c.g_count_in c.D_count_in.kp (bn_count_in c) (ra_cons (re_var 3) (ra_cons (re_var 4) ra_nil))))))) (rx_first (xs_if (rt_cmp (op_gtA hu) opv_cmpA (re_var 5) (re_gloI rfl c.k_MOST_LISTED) (nomark _)) (rx_first (xs_raise (k := 0) tk rfl c.hfile c.x_TooMany.cls (hr.mono (by decide)) rfl c.g_TooMany c.b_super c.htop (re_var 5))) rx_no)))))⟩
theorem sc__law_many : FnScope ["linear", "kind", "place", "due", "caught", "error"] ["linear", "kind", "place", "due"] (defScope s__law_many) := ⟨rfl, rfl, rfl, by decide +kernel, rfl, by decide +kernel, by decide +kernel⟩
abbrev m__law_many : MS :=
  (mSeq (mSet 4 (mVal (mC .none)))
  (mSeq (mTry "TooMany" 5 3 E_pairs_by (mCons (mVar 0) (mCons (mVar 1) (mCons (mVar 2) mNil))) (mDrop (mCallV 3 F_pairs_by (mCons (mVar 0) (mCons (mVar 1) (mCons (mVar 2) mNil))))) (mSet 4 (mVal (mVar 5))))
  (mRet (mVal (mAndV (mOp fNotN (mVar 4) (mC .none)) (mFrz (mCallV 2 F__law_same (mCons (mFldV ["TooMany"] (mVar 4)) (mCons (mVar 3) mNil)))))))))
def F__law_many : FM := fnM 2 m__law_many
theorem bn__law_many (c : Fx P w K mg) : Binds K c.fd__law_many ["linear", "kind", "place", "due"] [] := FunD.bindsN (ps := ["linear", "kind", "place", "due"]) c.D__law_many fun _ _ _ _ _ _ us hl => match us, hl with | [_, _, _, _], _ => rfl
theorem fn__law_many (c : Fx P w K mg) : FnG P w K mg base CX0 7 (He.ga K "_law_many") c.fd__law_many ["linear", "kind", "place", "due"] (spD K mg 4 F__law_many) :=
  fnG_D c.D__law_many sc__law_many rfl rfl fun _ _ _ _ _ _ hG hr => have hu := hr.units; have hu5 := unit5 hr; ⟨_, RB.nox <|
    (rb_cons (rs_set 4 sc__law_many.nd (rn_val re_non))
      (rb_cons (rs_try (i := 5) (x := "pairs_by") tDrop rfl rfl sc__law_many.nd c.x_TooMany.exm rfl c.g_TooMany (fx_pairs_by c) hG (hr.mono (by decide)) rfl c.g_pairs_by c.D_pairs_by.kp (bn_pairs_by c) (fun _ _ _ h => ps_expr h) wr_drop (fun _ _ => ⟨_, (ra_cons (re_var 0) (ra_cons (re_var 1) (ra_cons (re_var 2) ra_nil)))⟩) (fun _ _ => ⟨_, (rb_one (rs_expr (rn_callV (fn_pairs_by c) hG (hr.mono (by decide)) rfl c.g_pairs_by c.D_pairs_by.kp (bn_pairs_by c) (ra_cons (re_var 0) (ra_cons (re_var 1) (ra_cons (re_var 2) ra_nil))))))⟩) (fun _ _ => ⟨_, (rb_one (rs_set 4 sc__law_many.nd (rn_val (re_var 5))))⟩))
      (rb_one (rs_ret (rn_val (re_and (re_cmp (CW.op_notN) opv_notN (re_var 4) re_non (nomark _)) (re_one (re_new (rn_callV (fn__law_same c) hG (hr.mono (by decide)) rfl c.g__law_same c.D__law_same.kp (bn__law_same c) (ra_cons (re_fldV ["TooMany"] (xfs c) (re_var 4)) (ra_cons (re_var 3) ra_nil)))))))))))⟩
theorem sc__law_hash : FnScope ["seed", "index", "mixed"] ["seed", "index"] (defScope s__law_hash) := ⟨rfl, rfl, rfl, by decide +kernel, rfl, by decide +kernel, by decide +kernel⟩
abbrev m__law_hash : MS :=
  (mSeq (mSet 2 (mVal (mOp fMod (mFrz (mCall fInt (mCons (mOp fAdd (mOp fAdd (mOp fAdd (mOp fMulI (mVar 0) (mC (.int 1140671))) (mOp fMulI (mOp fMulI (mC (.int 27644437)) (mVar 1)) (mVar 1))) (mOp fMulI (mC (.int 131)) (mVar 1))) (mC (.int 19))) mNil))) (mC (.int 2147483629)))))
  (mSeq (mSet 2 (mVal (mOp fMod (mFrz (mCall fInt (mCons (mOp fAdd (mOp fAdd (mOp fMulI (mVar 2) (mVar 2)) (mOp fMulI (mC (.int 62089)) (mVar 1))) (mC (.int 32416187))) mNil))) (mC (.int 2147483587)))))
  (mRet (mVal (mOp fMod (mFrz (mCall fInt (mCons (mOp fMulI (mVar 2) (mC (.int 48271))) mNil))) (mC (.int 2147483647)))))))
def F__law_hash : FM := fnM 1 m__law_hash
theorem bn__law_hash (c : Fx P w K mg) : Binds K c.fd__law_hash ["seed", "index"] [] := FunD.bindsN (ps := ["seed", "index"]) c.D__law_hash fun _ _ _ _ _ _ us hl => match us, hl with | [_, _], _ => rfl
theorem fn__law_hash (c : Fx P w K mg) : FnG P w K mg base CX0 1 (He.ga K "_law_hash") c.fd__law_hash ["seed", "index"] (spD K mg 2 F__law_hash) :=
  fnG_D c.D__law_hash sc__law_hash rfl rfl fun _ _ _ _ _ _ hG hr => have hu := hr.units; have hu5 := unit5 hr; ⟨_, RB.nox <|
    (rb_cons (rs_set 2 sc__law_hash.nd (rn_val (re_mod (re_new (rn_callTy call_int1 calln_int rfl c.b_int cb_int (ra_cons (re_add (re_add (re_add (re_mul (re_var 0) re_int) (re_mul (re_mul re_int (re_var 1)) (re_var 1))) (re_mul re_int (re_var 1))) re_int) ra_nil))) re_int)))
      (rb_cons (rs_set 2 sc__law_hash.nd (rn_val (re_mod (re_new (rn_callTy call_int1 calln_int rfl c.b_int cb_int (ra_cons (re_add (re_add (re_mul (re_var 2) (re_var 2)) (re_mul re_int (re_var 1))) re_int) ra_nil))) re_int)))
      (rb_one (rs_ret (rn_val (re_mod (re_new (rn_callTy call_int1 calln_int rfl c.b_int cb_int (ra_cons (re_mul (re_var 2) re_int) ra_nil))) re_int))))))⟩
theorem sc__law_random : FnScope ["generator", "bound", "drawn", "turn"] ["generator", "bound"] (defScope s__law_random) := ⟨rfl, rfl, rfl, by decide +kernel, rfl, by decide +kernel, by decide +kernel⟩
abbrev g__law_random_0 : PyData → Ev → Res Ev := (gSet 3)
abbrev b__law_random_0 : MS := (mSeq (mAsg (mOp fAdd (mIxV 0 (mC (.int 2))) (mC (.int 1))) (gsIx 0 (mC (.int 2))))
  (mSet 2 (mVal (mOp fAdd (mOp fMulI (mVar 2) (mC (.int 2147483587))) (mFrz (mCallV 2 F__law_hash (mCons (mIxV 0 (mC (.int 1))) (mCons (mIxV 0 (mC (.int 2))) mNil))))))))
abbrev m__law_random : MS :=
  (mSeq (mIfS (mT (mOp fGtI (mIxV 0 (mC (.int 0))) (mC (.int 0)))) (mSeq (mSet 2 (mVal (mOp fMod (mFrz (mCall fInt (mCons (mIxV 0 (mC (.int 0))) mNil))) (mVar 1))))
  (mSeq (mAsg (mOp fDiv (mIxV 0 (mC (.int 0))) (mVar 1)) (gsIx 0 (mC (.int 0))))
  (mRet (mVal (mVar 2))))) mNext)
  (mSeq (mSet 2 (mVal (mC (.int 0))))
  (mSeq (mFor (mRng1 (mCons (mOp fAdd (mC (.int 1)) (mOp fDiv (mFrz (mUnN fBits (mVar 1))) (mC (.int 30)))) mNil)) g__law_random_0 b__law_random_0)
  (mRet (mVal (mOp fMod (mFrz (mCall fInt (mCons (mVar 2) mNil))) (mVar 1)))))))
def F__law_random : FM := fnM 2 m__law_random
theorem bn__law_random (c : Fx P w K mg) : Binds K c.fd__law_random ["generator", "bound"] [] := FunD.bindsN (ps := ["generator", "bound"]) c.D__law_random fun _ _ _ _ _ _ us hl => match us, hl with | [_, _], _ => rfl
theorem fn__law_random (c : Fx P w K mg) : FnG P w K mg base CX0 2 (He.ga K "_law_random") c.fd__law_random ["generator", "bound"] (spD K mg 2 F__law_random) :=
  fnG_D c.D__law_random sc__law_random rfl rfl fun _ _ _ _ _ _ hG hr => have hu := hr.units; have hu5 := unit5 hr; ⟨_, RB.nox <|
    (rb_cons (rs_if (rt_cmp (op_gtA hu) opv_cmpA (re_ixV 0 re_int) re_int (nomark _)) (rb_cons (rs_set 2 sc__law_random.nd (rn_val (re_mod (re_new (rn_callTy call_int1 calln_int rfl c.b_int cb_int (ra_cons (re_ixV 0 re_int) ra_nil))) (re_var 1))))
      (rb_cons (rs_asg (re_fdiv (re_ixV 0 re_int) (re_var 1)) (rg_ix 0 re_int))
      (rb_one (rs_ret (rn_val (re_var 2)))))) rb_nil)
      (rb_cons (rs_set 2 sc__law_random.nd (rn_val re_int))
      (rb_cons (rs_for PassesOwn.never rfl (ri_rng1 rfl c.b_range (ra_cons (re_add re_int (re_fdiv (re_new (rn_bits (re_var 1))) re_int)) ra_nil)) (rg_name 3 sc__law_random.nd) (rb_cons (rs_asg (re_add (re_ixV 0 re_int) re_int) (rg_ix 0 re_int))
      (rb_one (rs_set 2 sc__law_random.nd (rn_val (re_add (re_mul (re_var 2) re_int) (re_new (rn_callV (fn__law_hash c) hG (hr.mono (by decide)) rfl c.g__law_hash c.D__law_hash.kp (bn__law_hash c) (ra_cons (re_ixV 0 re_int) (ra_cons (re_ixV 0 re_int) ra_nil))))))))))
      (rb_one (rs_ret (rn_val (re_mod (re_new (rn_callTy call_int1 calln_int rfl c.b_int cb_int (ra_cons (re_var 2) ra_nil))) (re_var 1))))))))⟩
theorem sc__law_linear : FnScope ["generator", "great", "modulus", "signs", "weights", "place"] ["generator", "great"] (defScope s__law_linear) := ⟨rfl, rfl, rfl, by decide +kernel, rfl, by decide +kernel, by decide +kernel⟩
abbrev cg__law_linear_0 : PyData → Ev → Res Ev := (gSet 5)
abbrev ct__law_linear_0 : MT := mYes
abbrev ce__law_linear_0 : ME := (mOp fAdd (mC (.int 1)) (mFrz (mCallI 0 2 F__law_random (mCons (mOp fSub (mVar 2) (mC (.int 1))) mNil))))
abbrev m__law_linear : MS :=
  (mSeq (mSet 2 (mVal (mOp fAdd (mC (.int 2)) (mFrz (mCallI 0 2 F__law_random (mCons (mOp fIx (mFrz (mLst (mCons (mC (.int 39)) (mCons (mOp fPow (mC (.int 10)) (mC (.int 28))) mNil)))) (mFrz (mCall fInt (mCons (mVar 1) mNil)))) mNil))))))
  (mSeq (mSet 3 (mVal (mOp fIx (mFrz (mLst (mCons (mVar 2) (mCons (mOp fAdd (mC (.int 2)) (mFrz (mCallI 0 2 F__law_random (mCons (mOp fSub (mVar 2) (mC (.int 1))) mNil)))) (mCons (mFrz (mCall fMin2 (mCons (mVar 2) (mCons (mC (.int 10)) mNil)))) mNil))))) (mFrz (mCallI 0 2 F__law_random (mCons (mC (.int 3)) mNil))))))
  (mSeq (mSet 4 (mVal (mFrz (mLc (mRng1 (mCons (mOp fAdd (mC (.int 2)) (mFrz (mCallI 0 2 F__law_random (mCons (mC (.int 5)) mNil)))) mNil)) cg__law_linear_0 ct__law_linear_0 ce__law_linear_0 [5]))))
  (mRet (mVal (mTup (mCons (mVar 2) (mCons (mVar 3) (mCons (mVar 4) (mCons (mFrz (mCallI 0 2 F__law_random (mCons (mVar 2) mNil))) mNil))))))))))
def F__law_linear : FM := fnM 4 m__law_linear
theorem bn__law_linear (c : Fx P w K mg) : Binds K c.fd__law_linear ["generator", "great"] [] := FunD.bindsN (ps := ["generator", "great"]) c.D__law_linear fun _ _ _ _ _ _ us hl => match us, hl with | [_, _], _ => rfl
theorem fn__law_linear (c : Fx P w K mg) : FnG P w K mg base CX0 3 (He.ga K "_law_linear") c.fd__law_linear ["generator", "great"] (spD K mg 2 F__law_linear) :=
  fnG_D c.D__law_linear sc__law_linear rfl rfl fun _ _ _ _ _ _ hG hr => have hu := hr.units; have hu5 := unit5 hr; ⟨_, RB.nox <|
    (rb_cons (rs_set 2 sc__law_linear.nd (rn_val (re_add re_int (re_new (rn_callI 0 (fn__law_random c) hG (hr.mono (by decide)) rfl c.g__law_random c.D__law_random.kp (bn__law_random c) (ra_cons (re_ix (re_new (rn_lst (ra_cons re_int (ra_cons (re_pow re_int re_int) ra_nil)))) (re_new (rn_callTy call_int1 calln_int rfl c.b_int cb_int (ra_cons (re_var 1) ra_nil)))) ra_nil))))))
      (rb_cons (rs_set 3 sc__law_linear.nd (rn_val (re_ix (re_new (rn_lst (ra_cons (re_var 2) (ra_cons (re_add re_int (re_new (rn_callI 0 (fn__law_random c) hG (hr.mono (by decide)) rfl c.g__law_random c.D__law_random.kp (bn__law_random c) (ra_cons (re_sub (re_var 2) re_int) ra_nil)))) (ra_cons (re_new (rn_callB (call_min2 rfl) calln_min2 rfl c.b_min cb_min (ra_cons (re_var 2) (ra_cons re_int ra_nil)))) ra_nil))))) (re_new (rn_callI 0 (fn__law_random c) hG (hr.mono (by decide)) rfl c.g__law_random c.D__law_random.kp (bn__law_random c) (ra_cons re_int ra_nil))))))
      (rb_cons (rs_setLcF [("place", 5)] 4 rfl sc__law_linear.nd (ri_rng1 rfl c.b_range (ra_cons (re_add re_int (re_new (rn_callI 0 (fn__law_random c) hG (hr.mono (by decide)) rfl c.g__law_random c.D__law_random.kp (bn__law_random c) (ra_cons re_int ra_nil)))) ra_nil)) (fun _ _ _ _ _ => ⟨_, _, (rg_name 5 sc__law_linear.nd), by decide⟩) (fun _ _ _ _ _ => ⟨_, rts_nil⟩) (fun _ _ _ _ _ => ⟨_, (re_add re_int (re_new (rn_callI 0 (fn__law_random c) hG (hr.mono (by decide)) rfl c.g__law_random c.D__law_random.kp (bn__law_random c) (ra_cons (re_sub (re_var 2) re_int) ra_nil))))⟩))
      (rb_one (rs_ret (rn_val (re_tup (ra_cons (re_var 2) (ra_cons (re_var 3) (ra_cons (re_var 4) (ra_cons (re_new (rn_callI 0 (fn__law_random c) hG (hr.mono (by decide)) rfl c.g__law_random c.D__law_random.kp (bn__law_random c) (ra_cons (re_var 2) ra_nil))) ra_nil)))))))))))⟩
theorem sc__law_span : FnScope ["kind"] ["kind"] (defScope s__law_span) := ⟨rfl, rfl, rfl, by decide +kernel, rfl, by decide +kernel, by decide +kernel⟩
abbrev m__law_span : MS :=
  (mRet (mVal (mKd [("single", 0), ("swap", 1), ("jump", 2), ("twin", 1), ("jumptwin", 2)] (mVar 0))))
def F__law_span : FM := fnM 0 m__law_span
theorem bn__law_span (c : Fx P w K mg) : Binds K c.fd__law_span ["kind"] [] := FunD.bindsN (ps := ["kind"]) c.D__law_span fun _ _ _ _ _ _ us hl => match us, hl with | [_], _ => rfl
theorem fn__law_span (c : Fx P w K mg) : FnG P w K mg base CX0 1 (He.ga K "_law_span") c.fd__law_span ["kind"] (spD K mg 1 F__law_span) :=
  fnG_D c.D__law_span sc__law_span rfl rfl fun _ _ _ _ _ _ hG hr => have hu := hr.units; have hu5 := unit5 hr; ⟨_, RB.nox <|
    (rb_one (rs_ret (rn_val (re_disp (tb := [("single", 0), ("swap", 1), ("jump", 2), ("twin", 1), ("jumptwin", 2)]) hu5 (pps_cons re_str.pe re_int.pe (pps_cons re_str.pe re_int.pe (pps_cons re_str.pe re_int.pe (pps_cons re_str.pe re_int.pe (pps_cons re_str.pe re_int.pe pps_nil))))) (re_var 0)))))⟩
theorem sc__law_places : FnScope ["linear", "found", "kind", "place"] ["linear"] (defScope s__law_places) := ⟨rfl, rfl, rfl, by decide +kernel, rfl, by decide +kernel, by decide +kernel⟩
abbrev cg__law_places_0 : PyData → Ev → Res Ev := (gSet 3)
abbrev ct__law_places_0 : MT := mYes
abbrev ce__law_places_0 : ME := (mTup (mCons (mVar 2) (mCons (mVar 3) mNil)))
abbrev g__law_places_0 : PyData → Ev → Res Ev := (gSet 2)
abbrev b__law_places_0 : MS := (mSet 1 (mVal (mOp fAdd (mVar 1) (mFrz (mLc (mRng1 (mCons (mOp fSub (mFrz (mCall fLen (mCons (mOp fIx (mVar 0) (mC (.int 2))) mNil))) (mFrz (mCallV 1 F__law_span (mCons (mVar 2) mNil)))) mNil)) cg__law_places_0 ct__law_places_0 ce__law_places_0 [3])))))
abbrev m__law_places : MS :=
  (mSeq (mSet 1 (mVal (mFrz (mLst mNil))))
  (mSeq (mFor (mItems (mFrz (mLst (mCons (mC (.str "single")) (mCons (mC (.str "swap")) (mCons (mC (.str "jump")) (mCons (mC (.str "twin")) (mCons (mC (.str "jumptwin")) mNil)))))))) g__law_places_0 b__law_places_0)
  (mRet (mVal (mVar 1)))))
def F__law_places : FM := fnM 3 m__law_places
theorem bn__law_places (c : Fx P w K mg) : Binds K c.fd__law_places ["linear"] [] := FunD.bindsN (ps := ["linear"]) c.D__law_places fun _ _ _ _ _ _ us hl => match us, hl with | [_], _ => rfl
theorem fn__law_places (c : Fx P w K mg) : FnG P w K mg base CX0 2 (He.ga K "_law_places") c.fd__law_places ["linear"] (spD K mg 1 F__law_places) :=
  fnG_D c.D__law_places sc__law_places rfl rfl fun _ _ _ _ _ _ hG hr => have hu := hr.units; have hu5 := unit5 hr; ⟨_, RB.nox <|
    (rb_cons (rs_set 1 sc__law_places.nd (rn_val (re_new (rn_lst ra_nil))))
      (rb_cons (rs_for PassesOwn.never rfl (ri_any (re_new (rn_lst (ra_cons re_str (ra_cons re_str (ra_cons re_str (ra_cons re_str (ra_cons re_str ra_nil)))))))) (rg_name 2 sc__law_places.nd) (rb_one (rs_set 1 sc__law_places.nd (rn_val (re_add (re_var 1) (re_new (rn_lc [("place", 3)] rfl sc__law_places.nd (ri_rng1 rfl c.b_range (ra_cons (re_sub (re_new (rn_callB call_lenA calln_len rfl c.b_len cb_len (ra_cons (re_ix (re_var 0) re_int) ra_nil))) (re_new (rn_callV (fn__law_span c) hG (hr.mono (by decide)) rfl c.g__law_span c.D__law_span.kp (bn__law_span c) (ra_cons (re_var 2) ra_nil)))) ra_nil)) (fun _ _ _ _ _ => ⟨_, _, (rg_name 3 sc__law_places.nd), by decide⟩) (fun _ _ _ _ _ => ⟨_, rts_nil⟩) (fun _ _ _ _ _ => ⟨_, (re_tup (ra_cons (re_var 2) (ra_cons (re_var 3) ra_nil)))⟩))))))))
      (rb_one (rs_ret (rn_val (re_var 1))))))⟩
theorem sc__law_slipped : FnScope ["kind", "place", "many", "one", "other", "ahead", "behind", "last"] ["kind", "place", "many", "one", "other"] (defScope s__law_slipped) := ⟨rfl, rfl, rfl, by decide +kernel, rfl, by decide +kernel, by decide +kernel⟩
abbrev m__law_slipped : MS :=
  (mSeq (mPar3N 5 6 7 (mOpN fRepN (mFrz (mLst (mCons (mC (.int 0)) mNil))) (mVar 2)) (mOpN fRepN (mFrz (mLst (mCons (mC (.int 0)) mNil))) (mVar 2)) (mVal (mOp fAdd (mVar 1) (mFrz (mCallV 1 F__law_span (mCons (mVar 0) mNil))))))
  (mSeq (mIfS (mT (mOp (fInD false) (mVar 0) (mFrz (mLst (mCons (mC (.str "swap")) (mCons (mC (.str "jump")) mNil)))))) (mAsg (mTup (mCons (mVar 3) (mCons (mVar 4) (mCons (mVar 4) (mCons (mVar 3) mNil))))) (gsTup 4 (gsCons (gsIx 5 (mVar 1)) (gsCons (gsIx 5 (mVar 7)) (gsCons (gsIx 6 (mVar 1)) (gsCons (gsIx 6 (mVar 7)) gsNil)))))) (mAsg (mTup (mCons (mVar 3) (mCons (mVar 3) (mCons (mVar 4) (mCons (mVar 4) mNil))))) (gsTup 4 (gsCons (gsIx 5 (mVar 1)) (gsCons (gsIx 5 (mVar 7)) (gsCons (gsIx 6 (mVar 1)) (gsCons (gsIx 6 (mVar 7)) gsNil)))))))
  (mRet (mVal (mTup (mCons (mFz 5) (mCons (mFz 6) mNil)))))))
def F__law_slipped : FM := fnM 3 m__law_slipped
theorem bn__law_slipped (c : Fx P w K mg) : Binds K c.fd__law_slipped ["kind", "place", "many", "one", "other"] [] := FunD.bindsN (ps := ["kind", "place", "many", "one", "other"]) c.D__law_slipped fun _ _ _ _ _ _ us hl => match us, hl with | [_, _, _, _, _], _ => rfl
theorem fn__law_slipped (c : Fx P w K mg) : FnG P w K mg base CX0 2 (He.ga K "_law_slipped") c.fd__law_slipped ["kind", "place", "many", "one", "other"] (spD K mg 5 F__law_slipped) :=
  fnG_D c.D__law_slipped sc__law_slipped rfl rfl fun _ _ _ _ _ _ hG hr => have hu := hr.units; have hu5 := unit5 hr; ⟨_, RB.nox <|
    (rb_cons (rs_par3N 5 6 7 rfl sc__law_slipped.nd (rn_repL (re_new (rn_lst (ra_cons re_int ra_nil))) (re_var 2)) (rn_repL (re_new (rn_lst (ra_cons re_int ra_nil))) (re_var 2)) (rn_val (re_add (re_var 1) (re_new (rn_callV (fn__law_span c) hG (hr.mono (by decide)) rfl c.g__law_span c.D__law_span.kp (bn__law_span c) (ra_cons (re_var 0) ra_nil))))))
      (rb_cons (rs_if (rt_cmp (op_inA hu5) (opv_inA false) (re_var 0) (re_new (rn_lst (ra_cons re_str (ra_cons re_str ra_nil)))) rfl) (rb_one (rs_asg (re_tup (ra_cons (re_var 3) (ra_cons (re_var 4) (ra_cons (re_var 4) (ra_cons (re_var 3) ra_nil))))) (rg_tup rfl (rgs_cons (rg_ix 5 (re_var 1)) (rgs_cons (rg_ix 5 (re_var 7)) (rgs_cons (rg_ix 6 (re_var 1)) (rgs_cons (rg_ix 6 (re_var 7)) rgs_nil))))))) (rb_one (rs_asg (re_tup (ra_cons (re_var 3) (ra_cons (re_var 3) (ra_cons (re_var 4) (ra_cons (re_var 4) ra_nil))))) (rg_tup rfl (rgs_cons (rg_ix 5 (re_var 1)) (rgs_cons (rg_ix 5 (re_var 7)) (rgs_cons (rg_ix 6 (re_var 1)) (rgs_cons (rg_ix 6 (re_var 7)) rgs_nil))))))))
      (rb_one (rs_ret (rn_val (re_tup (ra_cons (re_fz 5) (ra_cons (re_fz 6) ra_nil))))))))⟩
theorem sc__law_weighted : FnScope ["linear", "code", "found", "weight", "sign"] ["linear", "code"] (defScope s__law_weighted) := ⟨rfl, rfl, rfl, by decide +kernel, rfl, by decide +kernel, by decide +kernel⟩
abbrev g__law_weighted_0 : PyData → Ev → Res Ev := (gsTup 2 (gsCons (gSet 3) (gsCons (gSet 4) gsNil)))
abbrev b__law_weighted_0 : MS := (mSet 2 (mVal (mOp fMod (mFrz (mCall fInt (mCons (mOp fAdd (mVar 2) (mOp fMulI (mVar 3) (mVar 4))) mNil))) (mOp fIx (mVar 0) (mC (.int 0))))))
abbrev m__law_weighted : MS :=
  (mSeq (mSet 2 (mVal (mC (.int 0))))
  (mSeq (mFor (mZp false (mCons (mOp fIx (mVar 0) (mC (.int 2))) (mCons (mVar 1) mNil))) g__law_weighted_0 b__law_weighted_0)
  (mRet (mVal (mVar 2)))))
def F__law_weighted : FM := fnM 3 m__law_weighted
theorem bn__law_weighted (c : Fx P w K mg) : Binds K c.fd__law_weighted ["linear", "code"] [] := FunD.bindsN (ps := ["linear", "code"]) c.D__law_weighted fun _ _ _ _ _ _ us hl => match us, hl with | [_, _], _ => rfl
theorem fn__law_weighted (c : Fx P w K mg) : FnG P w K mg base CX0 1 (He.ga K "_law_weighted") c.fd__law_weighted ["linear", "code"] (spD K mg 2 F__law_weighted) :=
  fnG_D c.D__law_weighted sc__law_weighted rfl rfl fun _ _ _ _ _ _ hG hr => have hu := hr.units; have hu5 := unit5 hr; ⟨_, RB.nox <|
    (rb_cons (rs_set 2 sc__law_weighted.nd (rn_val re_int))
      (rb_cons (rs_for PassesOwn.never rfl (ri_zp rfl c.b_zip (ra_cons (re_ix (re_var 0) re_int) (ra_cons (re_var 1) ra_nil))) (rg_tup rfl (rgs_cons (rg_name 3 sc__law_weighted.nd) (rgs_cons (rg_name 4 sc__law_weighted.nd) rgs_nil))) (rb_one (rs_set 2 sc__law_weighted.nd (rn_val (re_mod (re_new (rn_callTy call_int1 calln_int rfl c.b_int cb_int (ra_cons (re_add (re_var 2) (re_mul (re_var 3) (re_var 4))) ra_nil))) (re_ix (re_var 0) re_int))))))
      (rb_one (rs_ret (rn_val (re_var 2))))))⟩
theorem sc__law_pairs : FnScope ["linear", "kind", "place", "found", "low", "high", "ahead", "behind"] ["linear", "kind", "place"] (defScope s__law_pairs) := ⟨rfl, rfl, rfl, by decide +kernel, rfl, by decide +kernel, by decide +kernel⟩
abbrev g__law_pairs_0 : PyData → Ev → Res Ev := (gSet 5)
abbrev b__law_pairs_0 : MS := (mSeq (mAsg (mFrz (mCallV 5 F__law_slipped (mCons (mVar 1) (mCons (mVar 2) (mCons (mFrz (mCall fLen (mCons (mOp fIx (mVar 0) (mC (.int 2))) mNil))) (mCons (mVar 4) (mCons (mVar 5) mNil))))))) (gsTup 2 (gsCons (gSet 6) (gsCons (gSet 7) gsNil))))
  (mIfS (mT (mOp fEq (mFrz (mCallV 2 F__law_weighted (mCons (mVar 0) (mCons (mVar 6) mNil)))) (mFrz (mCallV 2 F__law_weighted (mCons (mVar 0) (mCons (mVar 7) mNil)))))) (mDrop (mVal (mOwnM 3 fAppend (mCons (mTup (mCons (mVar 4) (mCons (mVar 5) mNil))) mNil)))) mNext))
abbrev g__law_pairs_1 : PyData → Ev → Res Ev := (gSet 4)
abbrev b__law_pairs_1 : MS := (mFor (mRng2 (mCons (mOp fAdd (mVar 4) (mC (.int 1))) (mCons (mOp fIx (mVar 0) (mC (.int 1))) mNil))) g__law_pairs_0 b__law_pairs_0)
abbrev m__law_pairs : MS :=
  (mSeq (mSet 3 (mLst mNil))
  (mSeq (mFor (mRng1 (mCons (mOp fIx (mVar 0) (mC (.int 1))) mNil)) g__law_pairs_1 b__law_pairs_1)
  (mRet (mMv 3))))
def F__law_pairs : FM := fnM 5 m__law_pairs
theorem bn__law_pairs (c : Fx P w K mg) : Binds K c.fd__law_pairs ["linear", "kind", "place"] [] := FunD.bindsN (ps := ["linear", "kind", "place"]) c.D__law_pairs fun _ _ _ _ _ _ us hl => match us, hl with | [_, _, _], _ => rfl
theorem fn__law_pairs (c : Fx P w K mg) : FnG P w K mg base CX0 3 (He.ga K "_law_pairs") c.fd__law_pairs ["linear", "kind", "place"] (spD K mg 3 F__law_pairs) :=
  fnG_D c.D__law_pairs sc__law_pairs rfl rfl fun _ _ _ _ _ _ hG hr => have hu := hr.units; have hu5 := unit5 hr; ⟨_, RB.nox <|
    (rb_cons (rs_set 3 sc__law_pairs.nd (rn_lst ra_nil))
      (rb_cons (rs_for PassesOwn.never rfl (ri_rng1 rfl c.b_range (ra_cons (re_ix (re_var 0) re_int) ra_nil)) (rg_name 4 sc__law_pairs.nd) (rb_one (rs_for PassesOwn.never rfl (ri_rng2 rfl c.b_range (ra_cons (re_add (re_var 4) re_int) (ra_cons (re_ix (re_var 0) re_int) ra_nil))) (rg_name 5 sc__law_pairs.nd) (rb_cons (rs_asg (re_new (rn_callV (fn__law_slipped c) hG (hr.mono (by decide)) rfl c.g__law_slipped c.D__law_slipped.kp (bn__law_slipped c) (ra_cons (re_var 1) (ra_cons (re_var 2) (ra_cons (re_new (rn_callB call_lenA calln_len rfl c.b_len cb_len (ra_cons (re_ix (re_var 0) re_int) ra_nil))) (ra_cons (re_var 4) (ra_cons (re_var 5) ra_nil))))))) (rg_tup rfl (rgs_cons (rg_name 6 sc__law_pairs.nd) (rgs_cons (rg_name 7 sc__law_pairs.nd) rgs_nil))))
      (rb_one (rs_if (rt_cmp (op_eqA hu) opv_eq (re_new (rn_callV (fn__law_weighted c) hG (hr.mono (by decide)) rfl c.g__law_weighted c.D__law_weighted.kp (bn__law_weighted c) (ra_cons (re_var 0) (ra_cons (re_var 6) ra_nil)))) (re_new (rn_callV (fn__law_weighted c) hG (hr.mono (by decide)) rfl c.g__law_weighted c.D__law_weighted.kp (bn__law_weighted c) (ra_cons (re_var 0) (ra_cons (re_var 7) ra_nil)))) (nomark _)) (rb_one (rs_expr (rn_val (re_append 3 (ra_cons (re_tup (ra_cons (re_var 4) (ra_cons (re_var 5) ra_nil))) ra_nil))))) rb_nil))))))
      (rb_one (rs_ret (rn_mv 3)))))⟩
theorem sc__law_coefficient : FnScope ["modulus", "weights", "kind", "place", "other"] ["modulus", "weights", "kind", "place"] (defScope s__law_coefficient) := ⟨rfl, rfl, rfl, by decide +kernel, rfl, by decide +kernel, by decide +kernel⟩
abbrev m__law_coefficient : MS :=
  (mSeq (mIfS (mT (mOp fEq (mVar 2) (mC (.str "single")))) (mRet (mVal (mOp fIx (mVar 1) (mVar 3)))) mNext)
  (mSeq (mSet 4 (mVal (mOp fIx (mVar 1) (mOp fAdd (mVar 3) (mFrz (mCallV 1 F__law_span (mCons (mVar 2) mNil)))))))
  (mRet (mVal (mOp fMod (mFrz (mCall fInt (mCons (mIf (mT (mOp (fInD false) (mVar 2) (mFrz (mLst (mCons (mC (.str "twin")) (mCons (mC (.str "jumptwin")) mNil)))))) (mOp fAdd (mOp fIx (mVar 1) (mVar 3)) (mVar 4)) (mOp fSub (mOp fIx (mVar 1) (mVar 3)) (mVar 4))) mNil))) (mVar 0))))))
def F__law_coefficient : FM := fnM 1 m__law_coefficient
theorem bn__law_coefficient (c : Fx P w K mg) : Binds K c.fd__law_coefficient ["modulus", "weights", "kind", "place"] [] := FunD.bindsN (ps := ["modulus", "weights", "kind", "place"]) c.D__law_coefficient fun _ _ _ _ _ _ us hl => match us, hl with | [_, _, _, _], _ => rfl
theorem fn__law_coefficient (c : Fx P w K mg) : FnG P w K mg base CX0 2 (He.ga K "_law_coefficient") c.fd__law_coefficient ["modulus", "weights", "kind", "place"] (spD K mg 4 F__law_coefficient) :=
  fnG_D c.D__law_coefficient sc__law_coefficient rfl rfl fun _ _ _ _ _ _ hG hr => have hu := hr.units; have hu5 := unit5 hr; ⟨_, RB.nox <|
    (rb_cons (rs_if (rt_cmp (op_eqA hu) opv_eq (re_var 2) re_str (nomark _)) (rb_one (rs_ret (rn_val (re_ix (re_var 1) (re_var 3))))) rb_nil)
      (rb_cons (rs_set 4 sc__law_coefficient.nd (rn_val (re_ix (re_var 1) (re_add (re_var 3) (re_new (rn_callV (fn__law_span c) hG (hr.mono (by decide)) rfl c.g__law_span c.D__law_span.kp (bn__law_span c) (ra_cons (re_var 2) ra_nil)))))))
      (rb_one (rs_ret (rn_val (re_mod (re_new (rn_callTy call_int1 calln_int rfl c.b_int cb_int (ra_cons (re_if (rt_cmp (op_inA hu5) (opv_inA false) (re_var 2) (re_new (rn_lst (ra_cons re_str (ra_cons re_str ra_nil)))) rfl) (re_add (re_ix (re_var 1) (re_var 3)) (re_var 4)) (re_sub (re_ix (re_var 1) (re_var 3)) (re_var 4))) ra_nil))) (re_var 0)))))))⟩
theorem sc_how_many_by : FnScope ["linear", "kind", "place"] ["linear", "kind", "place"] (defScope s_how_many_by) := ⟨rfl, rfl, rfl, by decide +kernel, rfl, by decide +kernel, by decide +kernel⟩
abbrev m_how_many_by : MS :=
  (mSeq (mDrop (mCallV 3 F_check_place (mCons (mVar 0) (mCons (mVar 1) (mCons (mVar 2) mNil)))))
  (mRet (mCallV 2 F_count_in (mCons (mOp fIx (mVar 0) (mC (.int 1))) (mCons (mFrz (mCallV 3 F_step_in (mCons (mVar 0) (mCons (mVar 1) (mCons (mVar 2) mNil))))) mNil)))))
def F_how_many_by : FM := fnM 0 m_how_many_by
theorem bn_how_many_by (c : Fx P w K mg) : Binds K c.fd_how_many_by ["linear", "kind", "place"] [] := FunD.bindsN (ps := ["linear", "kind", "place"]) c.D_how_many_by fun _ _ _ _ _ _ us hl => match us, hl with | [_, _, _], _ => rfl
theorem kw_how_many_by_0_place_kind_linear (c : Fx P w K mg) : KwTo K c.fd_how_many_by ["linear", "kind", "place"] 0 ["place", "kind", "linear"] [2, 1, 0] := kwTo_of c.D_how_many_by fun _ _ _ _ _ _ us ws h1 h2 => match us, ws, h1, h2 with | [], [_, _, _], _, _ => rfl
theorem fn_how_many_by (c : Fx P w K mg) : FnG P w K mg base CX0 6 (He.ga K "how_many_by") c.fd_how_many_by ["linear", "kind", "place"] (spD K mg 3 F_how_many_by) :=
  fnG_D c.D_how_many_by sc_how_many_by rfl rfl fun _ _ _ _ _ _ hG hr => have hu := hr.units; have hu5 := unit5 hr; ⟨_, RB.nox <|
    (rb_cons (rs_expr (rn_callV (fn_check_place c) hG (hr.mono (by decide)) rfl c.g_check_place c.D_check_place.kp (bn_check_place c) (ra_cons (re_var 0) (ra_cons (re_var 1) (ra_cons (re_var 2) ra_nil)))))
      (rb_one (rs_ret (rn_callV (fn_count_in c) hG (hr.mono (by decide)) rfl c.g_count_in c.D_count_in.kp (bn_count_in c) (ra_cons (re_ix (re_var 0) re_int) (ra_cons (re_new (rn_callV (fn_step_in c) hG (hr.mono (by decide)) rfl c.g_step_in c.D_step_in.kp (bn_step_in c) (ra_cons (re_var 0) (ra_cons (re_var 1) (ra_cons (re_var 2) ra_nil))))) ra_nil))))))⟩
theorem sc__law_small_right : FnScope ["generator", "linear", "kept", "places", "turn", "kind", "place", "due", "number", "told", "step", "more"] ["generator"] (defScope s__law_small_right) := ⟨rfl, rfl, rfl, by decide +kernel, rfl, by decide +kernel, by decide +kernel⟩
abbrev cg__law_small_right_0 : PyData → Ev → Res Ev := (gSet 11)
abbrev ct__law_small_right_0 : MT := (mT (mOp fEq (mOp fMod (mFrz (mCall fInt (mCons (mOp fMulI (mVar 8) (mVar 11)) mNil))) (mOp fIx (mVar 1) (mC (.int 0)))) (mC (.int 0))))
abbrev ce__law_small_right_0 : ME := (mVar 11)
abbrev g__law_small_right_0 : PyData → Ev → Res Ev := (gSet 4)
abbrev b__law_small_right_0 : MS := (mSeq (mAsg (mOp fIx (mVar 3) (mFrz (mCallI 0 2 F__law_random (mCons (mFrz (mCall fLen (mCons (mVar 3) mNil))) mNil)))) (gsTup 2 (gsCons (gSet 5) (gsCons (gSet 6) gsNil))))
  (mSeq (mAsg (mTup (mCons (mFrz (mCallV 3 F__law_pairs (mCons (mVar 1) (mCons (mVar 5) (mCons (mVar 6) mNil))))) (mCons (mFrz (mCallV 4 F__law_coefficient (mCons (mOp fIx (mVar 1) (mC (.int 0))) (mCons (mOp fIx (mVar 1) (mC (.int 2))) (mCons (mVar 5) (mCons (mVar 6) mNil)))))) mNil))) (gsTup 2 (gsCons (gSet 7) (gsCons (gSet 8) gsNil))))
  (mSeq (mSet 9 (mCallV 3 F_pairs_by (mCons (mVar 1) (mCons (mVar 5) (mCons (mVar 6) mNil)))))
  (mSeq (mIfS (mOrT (mNotT (mT (mBor (mFrz (mCallV 2 F__law_same (mCons (mVar 9) (mCons (mVar 7) mNil))))))) (mNotT (mT (mFrz (mCallV 2 F__law_same (mCons (mFrz (mCallV 3 F_how_many_by (mCons (mVar 1) (mCons (mVar 5) (mCons (mVar 6) mNil))))) (mCons (mFrz (mCall fLen (mCons (mVar 7) mNil))) mNil))))))) (mRet (mVal (mC (.bool false)))) mNext)
  (mSeq (mIfS (mNotT (mT (mFrz (mCallV 2 F__law_same (mCons (mFrz (mCallV 3 F_coefficient (mCons (mVar 1) (mCons (mVar 5) (mCons (mVar 6) mNil))))) (mCons (mVar 8) mNil)))))) (mRet (mVal (mC (.bool false)))) mNext)
  (mSeq (mDrop (mVal (mOwnM 9 fAppend (mCons (mC .none) mNil))))
  (mSeq (mIfS (mOrT (mNotT (mT (mFrz (mCallV 2 F__law_same (mCons (mFrz (mCallO [2, 1, 0] 0 3 3 F_pairs_by mNil (mCons (mVar 6) (mCons (mVar 5) (mCons (mVar 1) mNil))))) (mCons (mVar 7) mNil)))))) (mT (mOp fNe (mFrz (mCall fRepr (mCons (mVar 1) mNil))) (mVar 2)))) (mRet (mVal (mC (.bool false)))) mNext)
  (mSeq (mSet 10 (mVal (mOp fIx (mFrz (mLc (mRng2 (mCons (mC (.int 1)) (mCons (mOp fAdd (mOp fIx (mVar 1) (mC (.int 0))) (mC (.int 1))) mNil))) cg__law_small_right_0 ct__law_small_right_0 ce__law_small_right_0 [11])) (mC (.int 0)))))
  (mSeq (mSet 9 (mLst (mCons (mFrz (mCallV 3 F_step_of (mCons (mVar 1) (mCons (mVar 5) (mCons (mVar 6) mNil))))) (mCons (mFrz (mCallO [2, 1, 0] 0 3 3 F_step_of mNil (mCons (mVar 6) (mCons (mVar 5) (mCons (mVar 1) mNil))))) mNil))))
  (mIfS (mNotT (mT (mFrz (mCallV 2 F__law_same (mCons (mFz 9) (mCons (mFrz (mOpN fRepN (mFrz (mLst (mCons (mVar 10) mNil))) (mC (.int 2)))) mNil)))))) (mRet (mVal (mC (.bool false)))) mNext))))))))))
abbrev m__law_small_right : MS :=
  (mSeq (mSet 1 (mVal (mFrz (mCallI 0 2 F__law_linear (mCons (mC (.bool false)) mNil)))))
  (mSeq (mSet 1 (mVal (mTup (mCons (mOp fIx (mVar 1) (mC (.int 0))) (mCons (mFrz (mCall fMin2 (mCons (mOp fIx (mVar 1) (mC (.int 1))) (mCons (mC (.int 14)) mNil)))) (mCons (mOp fIx (mVar 1) (mC (.int 2))) (mCons (mOp fIx (mVar 1) (mC (.int 3))) mNil)))))))
  (mSeq (mPar 2 3 (mCons (mFrz (mCall fRepr (mCons (mVar 1) mNil))) (mCons (mFrz (mCallV 1 F__law_places (mCons (mVar 1) mNil))) mNil)))
  (mSeq (mFor (mRng1 (mCons (mC (.int 4)) mNil)) g__law_small_right_0 b__law_small_right_0)
  (mRet (mVal (mC (.bool true))))))))
def F__law_small_right : FM := fnM 11 m__law_small_right
theorem bn__law_small_right (c : Fx P w K mg) : Binds K c.fd__law_small_right ["generator"] [] := FunD.bindsN (ps := ["generator"]) c.D__law_small_right fun _ _ _ _ _ _ us hl => match us, hl with | [_], _ => rfl
theorem fn__law_small_right (c : Fx P w K mg) : FnG P w K mg base CX0 7 (He.ga K "_law_small_right") c.fd__law_small_right ["generator"] (spD K mg 1 F__law_small_right) :=
  fnG_D c.D__law_small_right sc__law_small_right rfl rfl fun _ _ _ _ _ _ hG hr => have hu := hr.units; have hu5 := unit5 hr; ⟨_, RB.nox <|
    (rb_cons (rs_set 1 sc__law_small_right.nd (rn_val (re_new (rn_callI 0 (fn__law_linear c) hG (hr.mono (by decide)) rfl c.g__law_linear c.D__law_linear.kp (bn__law_linear c) (ra_cons re_bl ra_nil)))))
      (rb_cons (rs_set 1 sc__law_small_right.nd (rn_val (re_tup (ra_cons (re_ix (re_var 1) re_int) (ra_cons (re_new (rn_callB (call_min2 rfl) calln_min2 rfl c.b_min cb_min (ra_cons (re_ix (re_var 1) re_int) (ra_cons re_int ra_nil)))) (ra_cons (re_ix (re_var 1) re_int) (ra_cons (re_ix (re_var 1) re_int) ra_nil)))))))
      (rb_cons (rs_par 2 3 rfl sc__law_small_right.nd (ra_cons (re_new (rn_callB (call_reprD hG hu) calln_repr rfl c.b_repr cb_repr (ra_cons (re_var 1) ra_nil))) (ra_cons (re_new (rn_callV (fn__law_places c) hG (hr.mono (by decide)) rfl c.g__law_places c.D__law_places.kp (bn__law_places c) (ra_cons (re_var 1) ra_nil))) ra_nil)))
      (rb_cons (rs_for PassesOwn.never rfl (ri_rng1 rfl c.b_range (ra_cons re_int ra_nil)) (rg_name 4 sc__law_small_right.nd) (rb_cons (rs_asg (re_ix (re_var 3) (re_new (rn_callI 0 (fn__law_random c) hG (hr.mono (by decide)) rfl c.g__law_random c.D__law_random.kp (bn__law_random c) (ra_cons (re_new (rn_callB call_lenA calln_len rfl c.b_len cb_len (ra_cons (re_var 3) ra_nil))) ra_nil)))) (rg_tup rfl (rgs_cons (rg_name 5 sc__law_small_right.nd) (rgs_cons (rg_name 6 sc__law_small_right.nd) rgs_nil))))
      (rb_cons (rs_asg (re_tup (ra_cons (re_new (rn_callV (fn__law_pairs c) hG (hr.mono (by decide)) rfl c.g__law_pairs c.D__law_pairs.kp (bn__law_pairs c) (ra_cons (re_var 1) (ra_cons (re_var 5) (ra_cons (re_var 6) ra_nil))))) (ra_cons (re_new (rn_callV (fn__law_coefficient c) hG (hr.mono (by decide)) rfl c.g__law_coefficient c.D__law_coefficient.kp (bn__law_coefficient c) (ra_cons (re_ix (re_var 1) re_int) (ra_cons (re_ix (re_var 1) re_int) (ra_cons (re_var 5) (ra_cons (re_var 6) ra_nil)))))) ra_nil))) (rg_tup rfl (rgs_cons (rg_name 7 sc__law_small_right.nd) (rgs_cons (rg_name 8 sc__law_small_right.nd) rgs_nil))))
      (rb_cons (rs_set 9 sc__law_small_right.nd (rn_callV (fn_pairs_by c) hG (hr.mono (by decide)) rfl c.g_pairs_by c.D_pairs_by.kp (bn_pairs_by c) (ra_cons (re_var 1) (ra_cons (re_var 5) (ra_cons (re_var 6) ra_nil)))))
      (rb_cons (rs_if (RW.rt (rw_or (rt_not (rt_val (RE.bor (re_new (rn_callV (fn__law_same c) hG (hr.mono (by decide)) rfl c.g__law_same c.D__law_same.kp (bn__law_same c) (ra_cons (re_var 9) (ra_cons (re_var 7) ra_nil))))))) (rw_or1 (rt_not (rt_val (re_new (rn_callV (fn__law_same c) hG (hr.mono (by decide)) rfl c.g__law_same c.D__law_same.kp (bn__law_same c) (ra_cons (re_new (rn_callV (fn_how_many_by c) hG (hr.mono (by decide)) rfl c.g_how_many_by c.D_how_many_by.kp (bn_how_many_by c) (ra_cons (re_var 1) (ra_cons (re_var 5) (ra_cons (re_var 6) ra_nil))))) (ra_cons (re_new (rn_callB call_lenA calln_len rfl c.b_len cb_len (ra_cons (re_var 7) ra_nil))) ra_nil))))))))) (rb_one (rs_ret (rn_val re_bl))) rb_nil)
      (rb_cons (rs_if (rt_not (rt_val (re_new (rn_callV (fn__law_same c) hG (hr.mono (by decide)) rfl c.g__law_same c.D__law_same.kp (bn__law_same c) (ra_cons (re_new (rn_callV (fn_coefficient c) hG (hr.mono (by decide)) rfl c.g_coefficient c.D_coefficient.kp (bn_coefficient c) (ra_cons (re_var 1) (ra_cons (re_var 5) (ra_cons (re_var 6) ra_nil))))) (ra_cons (re_var 8) ra_nil)))))) (rb_one (rs_ret (rn_val re_bl))) rb_nil)
      (rb_cons (rs_expr (rn_val (re_append 9 (ra_cons re_non ra_nil))))
      (rb_cons (rs_if (RW.rt (rw_or (rt_not (rt_val (re_new (rn_callV (fn__law_same c) hG (hr.mono (by decide)) rfl c.g__law_same c.D__law_same.kp (bn__law_same c) (ra_cons (re_new (rn_callK0 (fn_pairs_by c) hG (hr.mono (by decide)) rfl c.g_pairs_by c.D_pairs_by.kp (kw_pairs_by_0_place_kind_linear c) (rk_cons (re_var 6) (rk_cons (re_var 5) (rk_cons (re_var 1) rk_nil))))) (ra_cons (re_var 7) ra_nil)))))) (rw_or1 (rt_cmp (op_neA hu) opv_ne (re_new (rn_callB (call_reprD hG hu) calln_repr rfl c.b_repr cb_repr (ra_cons (re_var 1) ra_nil))) (re_var 2) (nomark _))))) (rb_one (rs_ret (rn_val re_bl))) rb_nil)
      (rb_cons (rs_set 10 sc__law_small_right.nd (rn_val (re_ix (re_new (rn_lc [("more", 11)] rfl sc__law_small_right.nd (ri_rng2 rfl c.b_range (ra_cons re_int (ra_cons (re_add (re_ix (re_var 1) re_int) re_int) ra_nil))) (fun _ _ _ _ _ => ⟨_, _, (rg_name 11 sc__law_small_right.nd), by decide⟩) (fun _ _ _ _ _ => ⟨_, (rts_one (rt_cmp (op_eqA hu) opv_eq (re_mod (re_new (rn_callTy call_int1 calln_int rfl c.b_int cb_int (ra_cons (re_mul (re_var 8) (re_var 11)) ra_nil))) (re_ix (re_var 1) re_int)) re_int (nomark _)))⟩) (fun _ _ _ _ _ => ⟨_, (re_var 11)⟩))) re_int)))
      (rb_cons (rs_set 9 sc__law_small_right.nd (rn_lst (ra_cons (re_new (rn_callV (fn_step_of c) hG (hr.mono (by decide)) rfl c.g_step_of c.D_step_of.kp (bn_step_of c) (ra_cons (re_var 1) (ra_cons (re_var 5) (ra_cons (re_var 6) ra_nil))))) (ra_cons (re_new (rn_callK0 (fn_step_of c) hG (hr.mono (by decide)) rfl c.g_step_of c.D_step_of.kp (kw_step_of_0_place_kind_linear c) (rk_cons (re_var 6) (rk_cons (re_var 5) (rk_cons (re_var 1) rk_nil))))) ra_nil))))
      (rb_one (rs_if (rt_not (rt_val (re_new (rn_callV (fn__law_same c) hG (hr.mono (by decide)) rfl c.g__law_same c.D__law_same.kp (bn__law_same c) (ra_cons (re_fz 9) (ra_cons (re_new (rn_repL (re_new (rn_lst (ra_cons (re_var 10) ra_nil))) re_int)) ra_nil)))))) (rb_one (rs_ret (rn_val re_bl))) rb_nil))))))))))))
      (rb_one (rs_ret (rn_val re_bl)))))))⟩
theorem sc__law_common : FnScope ["one", "other"] ["one", "other"] (defScope s__law_common) := ⟨rfl, rfl, rfl, by decide +kernel, rfl, by decide +kernel, by decide +kernel⟩
abbrev wc__law_common_0 : MT := (mT (mOp fGtI (mVar 1) (mC (.int 0))))
abbrev wb__law_common_0 : MS := (mPar 0 1 (mCons (mVar 1) (mCons (mOp fMod (mFrz (mCall fInt (mCons (mVar 0) mNil))) (mVar 1)) mNil)))
abbrev m__law_common : MS :=
  (mSeq (mWhile wc__law_common_0 wb__law_common_0)
  (mRet (mVal (mVar 0))))
def F__law_common : FM := fnM 0 m__law_common
theorem bn__law_common (c : Fx P w K mg) : Binds K c.fd__law_common ["one", "other"] [] := FunD.bindsN (ps := ["one", "other"]) c.D__law_common fun _ _ _ _ _ _ us hl => match us, hl with | [_, _], _ => rfl
theorem fn__law_common (c : Fx P w K mg) : FnG P w K mg base CX0 1 (He.ga K "_law_common") c.fd__law_common ["one", "other"] (spD K mg 2 F__law_common) :=
  fnG_D c.D__law_common sc__law_common rfl rfl fun _ _ _ _ _ _ hG hr => have hu := hr.units; have hu5 := unit5 hr; ⟨_, RB.nox <|
    (rb_cons (rs_while PassesOwn.never (rt_cmp (op_gtA hu) opv_cmpA (re_var 1) re_int (nomark _)) (rb_one (rs_par 0 1 rfl sc__law_common.nd (ra_cons (re_var 1) (ra_cons (re_mod (re_new (rn_callTy call_int1 calln_int rfl c.b_int cb_int (ra_cons (re_var 0) ra_nil))) (re_var 1)) ra_nil)))))
      (rb_one (rs_ret (rn_val (re_var 0)))))⟩
theorem sc__law_apart : FnScope ["signs", "step", "found", "low", "high"] ["signs", "step"] (defScope s__law_apart) := ⟨rfl, rfl, rfl, by decide +kernel, rfl, by decide +kernel, by decide +kernel⟩
abbrev cg__law_apart_0 : PyData → Ev → Res Ev := (gSet 4)
abbrev ct__law_apart_0 : MT := mYes
abbrev ce__law_apart_0 : ME := (mTup (mCons (mVar 3) (mCons (mVar 4) mNil)))
abbrev g__law_apart_0 : PyData → Ev → Res Ev := (gSet 3)
abbrev b__law_apart_0 : MS := (mSet 2 (mVal (mOp fAdd (mVar 2) (mFrz (mLc (mRngL (mCons (mOp fAdd (mVar 3) (mVar 1)) (mCons (mVar 0) (mCons (mVar 1) mNil)))) cg__law_apart_0 ct__law_apart_0 ce__law_apart_0 [4])))))
abbrev m__law_apart : MS :=
  (mSeq (mSet 2 (mVal (mFrz (mLst mNil))))
  (mSeq (mFor (mRng1 (mCons (mFrz (mCall fMax2 (mCons (mOp fSub (mVar 0) (mVar 1)) (mCons (mC (.int 0)) mNil)))) mNil)) g__law_apart_0 b__law_apart_0)
  (mRet (mVal (mVar 2)))))
def F__law_apart : FM := fnM 3 m__law_apart
theorem bn__law_apart (c : Fx P w K mg) : Binds K c.fd__law_apart ["signs", "step"] [] := FunD.bindsN (ps := ["signs", "step"]) c.D__law_apart fun _ _ _ _ _ _ us hl => match us, hl with | [_, _], _ => rfl
theorem fn__law_apart (c : Fx P w K mg) : FnG P w K mg base CX0 1 (He.ga K "_law_apart") c.fd__law_apart ["signs", "step"] (spD K mg 2 F__law_apart) :=
  fnG_D c.D__law_apart sc__law_apart rfl rfl fun _ _ _ _ _ _ hG hr => have hu := hr.units; have hu5 := unit5 hr; ⟨_, RB.nox <|
    (rb_cons (rs_set 2 sc__law_apart.nd (rn_val (re_new (rn_lst ra_nil))))
      (rb_cons (rs_for PassesOwn.never rfl (ri_rng1 rfl c.b_range (ra_cons (re_new (rn_callB (call_max2 rfl) calln_max2 rfl c.b_max cb_max (ra_cons (re_sub (re_var 0) (re_var 1)) (ra_cons re_int ra_nil)))) ra_nil)) (rg_name 3 sc__law_apart.nd) (rb_one (rs_set 2 sc__law_apart.nd (rn_val (re_add (re_var 2) (re_new (rn_lc [("high", 4)] rfl sc__law_apart.nd (ri_rngL rfl c.b_range (ra_cons (re_add (re_var 3) (re_var 1)) (ra_cons (re_var 0) (ra_cons (re_var 1) ra_nil)))) (fun _ _ _ _ _ => ⟨_, _, (rg_name 4 sc__law_apart.nd), by decide⟩) (fun _ _ _ _ _ => ⟨_, rts_nil⟩) (fun _ _ _ _ _ => ⟨_, (re_tup (ra_cons (re_var 3) (ra_cons (re_var 4) ra_nil)))⟩))))))))
      (rb_one (rs_ret (rn_val (re_var 2))))))⟩
theorem sc__law_great_right : FnScope ["generator", "linear", "shared", "weights", "kind", "place", "number", "step", "times", "due", "told", "weight", "turn"] ["generator"] (defScope s__law_great_right) := ⟨rfl, rfl, rfl, by decide +kernel, rfl, by decide +kernel, by decide +kernel⟩
abbrev cg__law_great_right_0 : PyData → Ev → Res Ev := (gSet 11)
abbrev ct__law_great_right_0 : MT := mYes
abbrev ce__law_great_right_0 : ME := (mOp fMulI (mVar 11) (mOp fIx (mFrz (mLst (mCons (mC (.int 1)) (mCons (mVar 2) mNil)))) (mFrz (mCallI 0 2 F__law_random (mCons (mC (.int 2)) mNil)))))
abbrev cg__law_great_right_1 : PyData → Ev → Res Ev := (gSet 12)
abbrev ct__law_great_right_1 : MT := mYes
abbrev ce__law_great_right_1 : ME := (mOp fSub (mOp fIx (mVar 1) (mC (.int 1))) (mOp fMulI (mVar 7) (mVar 12)))
abbrev g__law_great_right_0 : PyData → Ev → Res Ev := (gsTup 2 (gsCons (gSet 4) (gsCons (gSet 5) gsNil)))
abbrev b__law_great_right_0 : MS := (mSeq (mSet 6 (mVal (mFrz (mCallV 4 F__law_coefficient (mCons (mOp fIx (mVar 1) (mC (.int 0))) (mCons (mOp fIx (mVar 1) (mC (.int 2))) (mCons (mVar 4) (mCons (mVar 5) mNil))))))))
  (mSeq (mSet 7 (mVal (mOp fDiv (mOp fIx (mVar 1) (mC (.int 0))) (mFrz (mCallV 2 F__law_common (mCons (mOp fIx (mVar 1) (mC (.int 0))) (mCons (mVar 6) mNil)))))))
  (mSeq (mSet 8 (mVal (mOp fDiv (mOp fSub (mOp fIx (mVar 1) (mC (.int 1))) (mC (.int 1))) (mVar 7))))
  (mSeq (mSet 9 (mVal (mIf (mT (mOp fLtI (mVar 8) (mC (.int 50)))) (mFrz (mCall fSum (mCons (mFrz (mLc (mRng2 (mCons (mC (.int 1)) (mCons (mOp fAdd (mVar 8) (mC (.int 1))) mNil))) cg__law_great_right_1 ct__law_great_right_1 ce__law_great_right_1 [12])) mNil))) (mC .none))))
  (mSeq (mSet 10 (mVal (mFrz (mCallV 3 F_how_many_by (mCons (mVar 1) (mCons (mVar 4) (mCons (mVar 5) mNil)))))))
  (mSeq (mIfS (mNotT (mT (mFrz (mCallV 2 F__law_same (mCons (mFrz (mLst (mCons (mFrz (mCallV 3 F_coefficient (mCons (mVar 1) (mCons (mVar 4) (mCons (mVar 5) mNil))))) (mCons (mFrz (mCallV 3 F_step_of (mCons (mVar 1) (mCons (mVar 4) (mCons (mVar 5) mNil))))) mNil)))) (mCons (mFrz (mLst (mCons (mVar 6) (mCons (mVar 7) mNil)))) mNil)))))) (mRet (mVal (mC (.bool false)))) mNext)
  (mSeq (mIfS (mT (mOp fIsN (mVar 9) (mC .none))) (mSet 9 (mVal (mOp fSub (mOp fMulI (mVar 8) (mOp fIx (mVar 1) (mC (.int 1)))) (mOp fMulI (mVar 7) (mOp fDiv (mOp fMulI (mVar 8) (mOp fAdd (mVar 8) (mC (.int 1)))) (mC (.int 2))))))) mNext)
  (mSeq (mIfS (mNotT (mT (mFrz (mCallV 2 F__law_same (mCons (mFrz (mLst (mCons (mVar 10) (mCons (mFrz (mCallO [2, 1, 0] 0 3 3 F_how_many_by mNil (mCons (mVar 5) (mCons (mVar 4) (mCons (mVar 1) mNil))))) mNil)))) (mCons (mFrz (mOpN fRepN (mFrz (mLst (mCons (mVar 9) mNil))) (mC (.int 2)))) mNil)))))) (mRet (mVal (mC (.bool false)))) mNext)
  (mSeq (mIfS (mAndT (mT (mOp fGtI (mVar 9) (mC (.int 2000)))) (mNotT (mT (mFrz (mCallV 4 F__law_many (mCons (mVar 1) (mCons (mVar 4) (mCons (mVar 5) (mCons (mVar 9) mNil))))))))) (mRet (mVal (mC (.bool false)))) mNext)
  (mIfS (mAndT (mT (mOp fLeI (mVar 9) (mC (.int 2000)))) (mNotT (mT (mFrz (mCallV 2 F__law_same (mCons (mFrz (mCallV 3 F_pairs_by (mCons (mVar 1) (mCons (mVar 4) (mCons (mVar 5) mNil))))) (mCons (mFrz (mCallV 2 F__law_apart (mCons (mOp fIx (mVar 1) (mC (.int 1))) (mCons (mVar 7) mNil)))) mNil))))))) (mRet (mVal (mC (.bool false)))) mNext))))))))))
abbrev m__law_great_right : MS :=
  (mSeq (mSet 1 (mVal (mFrz (mCallI 0 2 F__law_linear (mCons (mC (.bool true)) mNil)))))
  (mSeq (mSet 2 (mVal (mOp fAdd (mC (.int 2)) (mFrz (mCallI 0 2 F__law_random (mCons (mC (.int 60)) mNil))))))
  (mSeq (mSet 3 (mVal (mFrz (mLc (mItems (mOp fIx (mVar 1) (mC (.int 2)))) cg__law_great_right_0 ct__law_great_right_0 ce__law_great_right_0 [11]))))
  (mSeq (mSet 1 (mVal (mTup (mCons (mOp fMulI (mOp fIx (mVar 1) (mC (.int 0))) (mVar 2)) (mCons (mOp fIx (mVar 1) (mC (.int 1))) (mCons (mVar 3) (mCons (mOp fIx (mVar 1) (mC (.int 3))) mNil)))))))
  (mSeq (mFor (mItems (mFrz (mCallV 1 F__law_places (mCons (mVar 1) mNil)))) g__law_great_right_0 b__law_great_right_0)
  (mRet (mVal (mOp fEq (mFrz (mCallO [2, 1, 0] 0 3 3 F_coefficient mNil (mCons (mC (.int 0)) (mCons (mC (.str "single")) (mCons (mVar 1) mNil))))) (mOp fIx (mOp fIx (mVar 1) (mC (.int 2))) (mC (.int 0)))))))))))
def F__law_great_right : FM := fnM 12 m__law_great_right
theorem bn__law_great_right (c : Fx P w K mg) : Binds K c.fd__law_great_right ["generator"] [] := FunD.bindsN (ps := ["generator"]) c.D__law_great_right fun _ _ _ _ _ _ us hl => match us, hl with | [_], _ => rfl
theorem fn__law_great_right (c : Fx P w K mg) : FnG P w K mg base CX0 8 (He.ga K "_law_great_right") c.fd__law_great_right ["generator"] (spD K mg 1 F__law_great_right) :=
  fnG_D c.D__law_great_right sc__law_great_right rfl rfl fun _ _ _ _ _ _ hG hr => have hu := hr.units; have hu5 := unit5 hr; ⟨_, RB.nox <|
    (rb_cons (rs_set 1 sc__law_great_right.nd (rn_val (re_new (rn_callI 0 (fn__law_linear c) hG (hr.mono (by decide)) rfl c.g__law_linear c.D__law_linear.kp (bn__law_linear c) (ra_cons re_bl ra_nil)))))
      (rb_cons (rs_set 2 sc__law_great_right.nd (rn_val (re_add re_int (re_new (rn_callI 0 (fn__law_random c) hG (hr.mono (by decide)) rfl c.g__law_random c.D__law_random.kp (bn__law_random c) (ra_cons re_int ra_nil))))))
      (rb_cons (rs_setLcF [("weight", 11)] 3 rfl sc__law_great_right.nd (ri_any (re_ix (re_var 1) re_int)) (fun _ _ _ _ _ => ⟨_, _, (rg_name 11 sc__law_great_right.nd), by decide⟩) (fun _ _ _ _ _ => ⟨_, rts_nil⟩) (fun _ _ _ _ _ => ⟨_, (re_mul (re_var 11) (re_ix (re_new (rn_lst (ra_cons re_int (ra_cons (re_var 2) ra_nil)))) (re_new (rn_callI 0 (fn__law_random c) hG (hr.mono (by decide)) rfl c.g__law_random c.D__law_random.kp (bn__law_random c) (ra_cons re_int ra_nil)))))⟩))
      (rb_cons (rs_set 1 sc__law_great_right.nd (rn_val (re_tup (ra_cons (re_mul (re_ix (re_var 1) re_int) (re_var 2)) (ra_cons (re_ix (re_var 1) re_int) (ra_cons (re_var 3) (ra_cons (re_ix (re_var 1) re_int) ra_nil)))))))
      (rb_cons (rs_for PassesOwn.never rfl (ri_any (re_new (rn_callV (fn__law_places c) hG (hr.mono (by decide)) rfl c.g__law_places c.D__law_places.kp (bn__law_places c) (ra_cons (re_var 1) ra_nil)))) (rg_tup rfl (rgs_cons (rg_name 4 sc__law_great_right.nd) (rgs_cons (rg_name 5 sc__law_great_right.nd) rgs_nil))) (rb_cons (rs_set 6 sc__law_great_right.nd (rn_val (re_new (rn_callV (fn__law_coefficient c) hG (hr.mono (by decide)) rfl c.g__law_coefficient c.D__law_coefficient.kp (bn__law_coefficient c) (ra_cons (re_ix (re_var 1) re_int) (ra_cons (re_ix (re_var 1) re_int) (ra_cons (re_var 4) (ra_cons (re_var 5) ra_nil))))))))
      (rb_cons (rs_set 7 sc__law_great_right.nd (rn_val (re_fdiv (re_ix (re_var 1) re_int) (re_new (rn_callV (fn__law_common c) hG (hr.mono (by decide)) rfl c.g__law_common c.D__law_common.kp (bn__law_common c) (ra_cons (re_ix (re_var 1) re_int) (ra_cons (re_var 6) ra_nil)))))))
      (rb_cons (rs_set 8 sc__law_great_right.nd (rn_val (re_fdiv (re_sub (re_ix (re_var 1) re_int) re_int) (re_var 7))))
      (rb_cons (rs_set 9 sc__law_great_right.nd (rn_val (re_if (rt_cmp (op_ltA hu) opv_cmpA (re_var 8) re_int (nomark _)) (re_new (rn_callB (cr_sumA rfl) calln_sum rfl c.b_sum cb_sum (ra_cons (re_new (rn_lc [("turn", 12)] rfl sc__law_great_right.nd (ri_rng2 rfl c.b_range (ra_cons re_int (ra_cons (re_add (re_var 8) re_int) ra_nil))) (fun _ _ _ _ _ => ⟨_, _, (rg_name 12 sc__law_great_right.nd), by decide⟩) (fun _ _ _ _ _ => ⟨_, rts_nil⟩) (fun _ _ _ _ _ => ⟨_, (re_sub (re_ix (re_var 1) re_int) (re_mul (re_var 7) (re_var 12)))⟩))) ra_nil))) re_non)))
      (rb_cons (rs_set 10 sc__law_great_right.nd (rn_val (re_new (rn_callV (fn_how_many_by c) hG (hr.mono (by decide)) rfl c.g_how_many_by c.D_how_many_by.kp (bn_how_many_by c) (ra_cons (re_var 1) (ra_cons (re_var 4) (ra_cons (re_var 5) ra_nil)))))))
      (rb_cons (rs_if (rt_not (rt_val (re_new (rn_callV (fn__law_same c) hG (hr.mono (by decide)) rfl c.g__law_same c.D__law_same.kp (bn__law_same c) (ra_cons (re_new (rn_lst (ra_cons (re_new (rn_callV (fn_coefficient c) hG (hr.mono (by decide)) rfl c.g_coefficient c.D_coefficient.kp (bn_coefficient c) (ra_cons (re_var 1) (ra_cons (re_var 4) (ra_cons (re_var 5) ra_nil))))) (ra_cons (re_new (rn_callV (fn_step_of c) hG (hr.mono (by decide)) rfl c.g_step_of c.D_step_of.kp (bn_step_of c) (ra_cons (re_var 1) (ra_cons (re_var 4) (ra_cons (re_var 5) ra_nil))))) ra_nil)))) (ra_cons (re_new (rn_lst (ra_cons (re_var 6) (ra_cons (re_var 7) ra_nil)))) ra_nil)))))) (rb_one (rs_ret (rn_val re_bl))) rb_nil)
      (rb_cons (rs_if (rt_cmp (CW.op_isN) opv_isN (re_var 9) re_non (nomark _)) (rb_one (rs_set 9 sc__law_great_right.nd (rn_val (re_sub (re_mul (re_var 8) (re_ix (re_var 1) re_int)) (re_mul (re_var 7) (re_fdiv (re_mul (re_var 8) (re_add (re_var 8) re_int)) re_int)))))) rb_nil)
      (rb_cons (rs_if (rt_not (rt_val (re_new (rn_callV (fn__law_same c) hG (hr.mono (by decide)) rfl c.g__law_same c.D__law_same.kp (bn__law_same c) (ra_cons (re_new (rn_lst (ra_cons (re_var 10) (ra_cons (re_new (rn_callK0 (fn_how_many_by c) hG (hr.mono (by decide)) rfl c.g_how_many_by c.D_how_many_by.kp (kw_how_many_by_0_place_kind_linear c) (rk_cons (re_var 5) (rk_cons (re_var 4) (rk_cons (re_var 1) rk_nil))))) ra_nil)))) (ra_cons (re_new (rn_repL (re_new (rn_lst (ra_cons (re_var 9) ra_nil))) re_int)) ra_nil)))))) (rb_one (rs_ret (rn_val re_bl))) rb_nil)
      (rb_cons (rs_if (RW.rt (rw_and (rt_cmp (op_gtA hu) opv_cmpA (re_var 9) re_int (nomark _)) (rw_and1 (rt_not (rt_val (re_new (rn_callV (fn__law_many c) hG (hr.mono (by decide)) rfl c.g__law_many c.D__law_many.kp (bn__law_many c) (ra_cons (re_var 1) (ra_cons (re_var 4) (ra_cons (re_var 5) (ra_cons (re_var 9) ra_nil))))))))))) (rb_one (rs_ret (rn_val re_bl))) rb_nil)
      (rb_one (rs_if (RW.rt (rw_and (rt_cmp (op_leA hu) opv_cmpA (re_var 9) re_int (nomark _)) (rw_and1 (rt_not (rt_val (re_new (rn_callV (fn__law_same c) hG (hr.mono (by decide)) rfl c.g__law_same c.D__law_same.kp (bn__law_same c) (ra_cons (re_new (rn_callV (fn_pairs_by c) hG (hr.mono (by decide)) rfl c.g_pairs_by c.D_pairs_by.kp (bn_pairs_by c) (ra_cons (re_var 1) (ra_cons (re_var 4) (ra_cons (re_var 5) ra_nil))))) (ra_cons (re_new (rn_callV (fn__law_apart c) hG (hr.mono (by decide)) rfl c.g__law_apart c.D__law_apart.kp (bn__law_apart c) (ra_cons (re_ix (re_var 1) re_int) (ra_cons (re_var 7) ra_nil)))) ra_nil))))))))) (rb_one (rs_ret (rn_val re_bl))) rb_nil))))))))))))
      (rb_one (rs_ret (rn_val (re_cmp (op_eqA hu) opv_eq (re_new (rn_callK0 (fn_coefficient c) hG (hr.mono (by decide)) rfl c.g_coefficient c.D_coefficient.kp (kw_coefficient_0_place_kind_linear c) (rk_cons re_int (rk_cons re_str (rk_cons (re_var 1) rk_nil))))) (re_ix (re_ix (re_var 1) re_int) re_int) (nomark _))))))))))⟩
theorem sc__law_cell : FnScope ["script", "index"] ["script", "index"] (defScope s__law_cell) := ⟨rfl, rfl, rfl, by decide +kernel, rfl, by decide +kernel, by decide +kernel⟩
abbrev m__law_cell : MS :=
  (mSeq (mIfS (mT (mOp fLtI (mVar 1) (mFrz (mCall fLen (mCons (mVar 0) mNil))))) (mRet (mVal (mOp fIx (mVar 0) (mVar 1)))) mNext)
  (mRet (mVal (mOp fMod (mFrz (mCall fSum (mCons (mFrz (mSlice (mVar 0) mNoPart (mPart (mC (.int 1))))) mNil))) (mC (.int 1000003))))))
def F__law_cell : FM := fnM 0 m__law_cell
theorem bn__law_cell (c : Fx P w K mg) : Binds K c.fd__law_cell ["script", "index"] [] := FunD.bindsN (ps := ["script", "index"]) c.D__law_cell fun _ _ _ _ _ _ us hl => match us, hl with | [_, _], _ => rfl
theorem fn__law_cell (c : Fx P w K mg) : FnG P w K mg base CX0 1 (He.ga K "_law_cell") c.fd__law_cell ["script", "index"] (spD K mg 2 F__law_cell) :=
  fnG_D c.D__law_cell sc__law_cell rfl rfl fun _ _ _ _ _ _ hG hr => have hu := hr.units; have hu5 := unit5 hr; ⟨_, RB.nox <|
    (rb_cons (rs_if (rt_cmp (op_ltA hu) opv_cmpA (re_var 1) (re_new (rn_callB call_lenA calln_len rfl c.b_len cb_len (ra_cons (re_var 0) ra_nil))) (nomark _)) (rb_one (rs_ret (rn_val (re_ix (re_var 0) (re_var 1))))) rb_nil)
      (rb_one (rs_ret (rn_val (re_mod (re_new (rn_callB (cr_sumA rfl) calln_sum rfl c.b_sum cb_sum (ra_cons (re_new (rn_slice (re_var 0) ro_none (ro_some re_int))) ra_nil))) re_int)))))⟩
theorem sc__law_generator : FnScope ["script", "index", "seed"] ["script", "index"] (defScope s__law_generator) := ⟨rfl, rfl, rfl, by decide +kernel, rfl, by decide +kernel, by decide +kernel⟩
abbrev m__law_generator : MS :=
  (mSeq (mSet 2 (mVal (mFrz (mCallV 2 F__law_cell (mCons (mVar 0) (mCons (mVar 1) mNil))))))
  (mRet (mLst (mCons (mOp fMod (mFrz (mCall fInt (mCons (mFrz (mCall fMax2 (mCons (mOp fSub (mVar 2) (mOp fPow (mC (.int 10)) (mC (.int 18)))) (mCons (mC (.int 0)) mNil)))) mNil))) (mOp fPow (mOp fPow (mC (.int 10)) (mC (.int 60))) (mC (.int 10)))) (mCons (mOp fMod (mFrz (mCall fInt (mCons (mVar 2) mNil))) (mC (.int 2147483647))) (mCons (mOp fMulI (mC (.int 1000)) (mVar 1)) mNil))))))
def F__law_generator : FM := fnM 1 m__law_generator
theorem bn__law_generator (c : Fx P w K mg) : Binds K c.fd__law_generator ["script", "index"] [] := FunD.bindsN (ps := ["script", "index"]) c.D__law_generator fun _ _ _ _ _ _ us hl => match us, hl with | [_, _], _ => rfl
theorem fn__law_generator (c : Fx P w K mg) : FnG P w K mg base CX0 2 (He.ga K "_law_generator") c.fd__law_generator ["script", "index"] (spD K mg 2 F__law_generator) :=
  fnG_D c.D__law_generator sc__law_generator rfl rfl fun _ _ _ _ _ _ hG hr => have hu := hr.units; have hu5 := unit5 hr; ⟨_, RB.nox <|
    (rb_cons (rs_set 2 sc__law_generator.nd (rn_val (re_new (rn_callV (fn__law_cell c) hG (hr.mono (by decide)) rfl c.g__law_cell c.D__law_cell.kp (bn__law_cell c) (ra_cons (re_var 0) (ra_cons (re_var 1) ra_nil))))))
      (rb_one (rs_ret (rn_lst (ra_cons (re_mod (re_new (rn_callTy call_int1 calln_int rfl c.b_int cb_int (ra_cons (re_new (rn_callB (call_max2 rfl) calln_max2 rfl c.b_max cb_max (ra_cons (re_sub (re_var 2) (re_pow re_int re_int)) (ra_cons re_int ra_nil)))) ra_nil))) (re_pow (re_pow re_int re_int) re_int)) (ra_cons (re_mod (re_new (rn_callTy call_int1 calln_int rfl c.b_int cb_int (ra_cons (re_var 2) ra_nil))) re_int) (ra_cons (re_mul re_int (re_var 1)) ra_nil)))))))⟩
theorem sc_law : FnScope ["script", "index", "ten", "isbn", "told", "due", "many", "place", "low"] ["script"] (defScope s_law) := ⟨rfl, rfl, rfl, by decide +kernel, rfl, by decide +kernel, by decide +kernel⟩
abbrev g_law_0 : PyData → Ev → Res Ev := (gSet 1)
abbrev b_law_0 : MS := (mIfS (mNotT (mT (mFrz (mCallT 1 F__law_small_right (mCallV 2 F__law_generator (mCons (mVar 0) (mCons (mVar 1) mNil))) mNil)))) (mRet (mVal (mC (.bool false)))) mNext)
abbrev g_law_1 : PyData → Ev → Res Ev := (gSet 1)
abbrev b_law_1 : MS := (mIfS (mNotT (mT (mFrz (mCallT 1 F__law_great_right (mCallV 2 F__law_generator (mCons (mVar 0) (mCons (mVar 1) mNil))) mNil)))) (mRet (mVal (mC (.bool false)))) mNext)
abbrev cg_law_0 : PyData → Ev → Res Ev := (gSet 7)
abbrev ct_law_0 : MT := mYes
abbrev ce_law_0 : ME := (mFrz (mCallV 3 F_how_many_by (mCons (mVar 3) (mCons (mC (.str "swap")) (mCons (mVar 7) mNil)))))
abbrev cg_law_1 : PyData → Ev → Res Ev := (gSet 8)
abbrev ct_law_1 : MT := mYes
abbrev ce_law_1 : ME := (mTup (mCons (mVar 8) (mCons (mOp fAdd (mVar 8) (mC (.int 2000))) mNil)))
abbrev m_law : MS :=
  (mSeq (mFor (mRng1 (mCons (mC (.int 4)) mNil)) g_law_0 b_law_0)
  (mSeq (mFor (mRng2 (mCons (mC (.int 4)) (mCons (mC (.int 6)) mNil))) g_law_1 b_law_1)
  (mSeq (mAsg (mTup (mCons (mTup (mCons (mC (.int 10)) (mCons (mC (.int 10)) (mCons (mFrz (mLst (mCons (mC (.int 1)) (mCons (mC (.int 3)) (mCons (mC (.int 1)) (mCons (mC (.int 3)) mNil)))))) (mCons (mC (.int 0)) mNil))))) (mCons (mTup (mCons (mC (.int 11)) (mCons (mC (.int 11)) (mCons (mFrz (mLst (mCons (mC (.int 10)) (mCons (mC (.int 9)) (mCons (mC (.int 8)) (mCons (mC (.int 7)) (mCons (mC (.int 6)) (mCons (mC (.int 5)) (mCons (mC (.int 4)) (mCons (mC (.int 3)) (mCons (mC (.int 2)) (mCons (mC (.int 1)) mNil)))))))))))) (mCons (mC (.int 0)) mNil))))) mNil))) (gsTup 2 (gsCons (gSet 2) (gsCons (gSet 3) gsNil))))
  (mSeq (mSet 4 (mVal (mFrz (mLst (mCons (mFrz (mCallV 3 F_coefficient (mCons (mVar 2) (mCons (mC (.str "swap")) (mCons (mC (.int 0)) mNil))))) (mCons (mFrz (mCallV 3 F_step_of (mCons (mVar 2) (mCons (mC (.str "swap")) (mCons (mC (.int 0)) mNil))))) mNil))))))
  (mSeq (mSet 4 (mVal (mOp fAdd (mVar 4) (mFrz (mLst (mCons (mFrz (mCallV 3 F_how_many_by (mCons (mVar 2) (mCons (mC (.str "swap")) (mCons (mC (.int 0)) mNil))))) (mCons (mFrz (mCallV 3 F_pairs_by (mCons (mVar 2) (mCons (mC (.str "swap")) (mCons (mC (.int 0)) mNil))))) mNil)))))))
  (mSeq (mSet 4 (mVal (mOp fAdd (mVar 4) (mFrz (mLst (mCons (mFrz (mCallV 3 F_how_many_by (mCons (mVar 2) (mCons (mC (.str "jump")) (mCons (mC (.int 0)) mNil))))) (mCons (mFrz (mCallV 3 F_step_of (mCons (mVar 2) (mCons (mC (.str "jump")) (mCons (mC (.int 1)) mNil))))) mNil)))))))
  (mSeq (mSet 4 (mVal (mOp fAdd (mVar 4) (mFrz (mLst (mCons (mFrz (mLc (mRng1 (mCons (mC (.int 9)) mNil)) cg_law_0 ct_law_0 ce_law_0 [7])) mNil))))))
  (mSeq (mSet 5 (mVal (mFrz (mLst (mCons (mC (.int 8)) (mCons (mC (.int 5)) (mCons (mC (.int 5)) (mCons (mFrz (mLst (mCons (mTup (mCons (mC (.int 0)) (mCons (mC (.int 5)) mNil))) (mCons (mTup (mCons (mC (.int 1)) (mCons (mC (.int 6)) mNil))) (mCons (mTup (mCons (mC (.int 2)) (mCons (mC (.int 7)) mNil))) (mCons (mTup (mCons (mC (.int 3)) (mCons (mC (.int 8)) mNil))) (mCons (mTup (mCons (mC (.int 4)) (mCons (mC (.int 9)) mNil))) mNil))))))) (mCons (mC (.int 45)) (mCons (mC (.int 1)) (mCons (mFrz (mOpN fRepN (mFrz (mLst (mCons (mC (.int 0)) mNil))) (mC (.int 9)))) mNil)))))))))))
  (mSeq (mSet 6 (mVal (mTup (mCons (mOp fPow (mC (.int 10)) (mC (.int 29))) (mCons (mC (.int 64)) (mCons (mFrz (mLst (mCons (mC (.int 1)) (mCons (mC (.int 1)) mNil)))) (mCons (mC (.int 0)) mNil)))))))
  (mSeq (mIfS (mNotT (mT (mFrz (mCallV 2 F__law_same (mCons (mFrz (mCallV 3 F_pairs_by (mCons (mOp fAdd (mFrz (mSlice (mVar 6) mNoPart (mPart (mC (.int 1))))) (mTup (mCons (mC (.int 63)) (mCons (mFrz (mLst (mCons (mC (.int 1)) (mCons (mC (.int 1)) mNil)))) (mCons (mC (.int 0)) mNil))))) (mCons (mC (.str "swap")) (mCons (mC (.int 0)) mNil))))) (mCons (mFrz (mCallV 2 F__law_apart (mCons (mC (.int 63)) (mCons (mC (.int 1)) mNil)))) mNil)))))) (mRet (mVal (mC (.bool false)))) mNext)
  (mSeq (mIfS (mNotT (mT (mFrz (mCallV 2 F__law_same (mCons (mFrz (mCallV 3 F_pairs_by (mCons (mTup (mCons (mC (.int 36)) (mCons (mC (.int 36)) (mCons (mFrz (mLst (mCons (mC (.int 1)) (mCons (mC (.int 5)) (mCons (mC (.int 31)) mNil))))) (mCons (mC (.int 0)) mNil))))) (mCons (mC (.str "swap")) (mCons (mC (.int 0)) mNil))))) (mCons (mFrz (mCallV 2 F__law_apart (mCons (mC (.int 36)) (mCons (mC (.int 9)) mNil)))) mNil)))))) (mRet (mVal (mC (.bool false)))) mNext)
  (mSeq (mIfS (mNotT (mT (mFrz (mCallV 2 F__law_same (mCons (mFrz (mCallV 3 F_pairs_by (mCons (mTup (mCons (mC (.int 4000)) (mCons (mC (.int 4000)) (mCons (mFrz (mLst (mCons (mC (.int 1)) (mCons (mC (.int 3)) mNil)))) (mCons (mC (.int 0)) mNil))))) (mCons (mC (.str "swap")) (mCons (mC (.int 0)) mNil))))) (mCons (mFrz (mLc (mRng1 (mCons (mC (.int 2000)) mNil)) cg_law_1 ct_law_1 ce_law_1 [8])) mNil)))))) (mRet (mVal (mC (.bool false)))) mNext)
  (mRet (mVal (mAndV (mFrz (mCallV 2 F__law_same (mCons (mVar 4) (mCons (mVar 5) mNil)))) (mFrz (mCallV 4 F__law_many (mCons (mVar 6) (mCons (mC (.str "swap")) (mCons (mC (.int 0)) (mCons (mC (.int 2016)) mNil)))))))))))))))))))))
def F_law : FM := fnM 8 m_law
theorem fn_law (c : Fx P w K mg) {f : Addr} {fd : FuncData} (D : FunD K "law" "law" (defArgs s_law) (defBody s_law) (defScope s_law) [] [] f fd) : FnG P w K mg base CX0 9 f fd ["script"] (spD K mg 1 F_law) :=
  fnG_D D sc_law rfl rfl fun _ _ _ _ _ _ hG hr => have hu := hr.units; have hu5 := unit5 hr; ⟨_, RB.nox <|
    (rb_cons (rs_for PassesOwn.never rfl (ri_rng1 rfl c.b_range (ra_cons re_int ra_nil)) (rg_name 1 sc_law.nd) (rb_one (rs_if (rt_not (rt_val (re_new (rn_callT (fn__law_small_right c) hG (hr.mono (by decide)) rfl c.g__law_small_right c.D__law_small_right.kp (bn__law_small_right c) (rn_callV (fn__law_generator c) hG (hr.mono (by decide)) rfl c.g__law_generator c.D__law_generator.kp (bn__law_generator c) (ra_cons (re_var 0) (ra_cons (re_var 1) ra_nil))) ra_nil)))) (rb_one (rs_ret (rn_val re_bl))) rb_nil)))
      (rb_cons (rs_for PassesOwn.never rfl (ri_rng2 rfl c.b_range (ra_cons re_int (ra_cons re_int ra_nil))) (rg_name 1 sc_law.nd) (rb_one (rs_if (rt_not (rt_val (re_new (rn_callT (fn__law_great_right c) hG (hr.mono (by decide)) rfl c.g__law_great_right c.D__law_great_right.kp (bn__law_great_right c) (rn_callV (fn__law_generator c) hG (hr.mono (by decide)) rfl c.g__law_generator c.D__law_generator.kp (bn__law_generator c) (ra_cons (re_var 0) (ra_cons (re_var 1) ra_nil))) ra_nil)))) (rb_one (rs_ret (rn_val re_bl))) rb_nil)))
      (rb_cons (rs_asg (re_tup (ra_cons (re_tup (ra_cons re_int (ra_cons re_int (ra_cons (re_new (rn_lst (ra_cons re_int (ra_cons re_int (ra_cons re_int (ra_cons re_int ra_nil)))))) (ra_cons re_int ra_nil))))) (ra_cons (re_tup (ra_cons re_int (ra_cons re_int (ra_cons (re_new (rn_lst (ra_cons re_int (ra_cons re_int (ra_cons re_int (ra_cons re_int (ra_cons re_int (ra_cons re_int (ra_cons re_int (ra_cons re_int (ra_cons re_int (ra_cons re_int ra_nil)))))))))))) (ra_cons re_int ra_nil))))) ra_nil))) (rg_tup rfl (rgs_cons (rg_name 2 sc_law.nd) (rgs_cons (rg_name 3 sc_law.nd) rgs_nil))))
      (rb_cons (rs_set 4 sc_law.nd (rn_val (re_new (rn_lst (ra_cons (re_new (rn_callV (fn_coefficient c) hG (hr.mono (by decide)) rfl c.g_coefficient c.D_coefficient.kp (bn_coefficient c) (ra_cons (re_var 2) (ra_cons re_str (ra_cons re_int ra_nil))))) (ra_cons (re_new (rn_callV (fn_step_of c) hG (hr.mono (by decide)) rfl c.g_step_of c.D_step_of.kp (bn_step_of c) (ra_cons (re_var 2) (ra_cons re_str (ra_cons re_int ra_nil))))) ra_nil))))))
      (rb_cons (rs_set 4 sc_law.nd (rn_val (re_add (re_var 4) (re_new (rn_lst (ra_cons (re_new (rn_callV (fn_how_many_by c) hG (hr.mono (by decide)) rfl c.g_how_many_by c.D_how_many_by.kp (bn_how_many_by c) (ra_cons (re_var 2) (ra_cons re_str (ra_cons re_int ra_nil))))) (ra_cons (re_new (rn_callV (fn_pairs_by c) hG (hr.mono (by decide)) rfl c.g_pairs_by c.D_pairs_by.kp (bn_pairs_by c) (ra_cons (re_var 2) (ra_cons re_str (ra_cons re_int ra_nil))))) ra_nil)))))))
      (rb_cons (rs_set 4 sc_law.nd (rn_val (re_add (re_var 4) (re_new (rn_lst (ra_cons (re_new (rn_callV (fn_how_many_by c) hG (hr.mono (by decide)) rfl c.g_how_many_by c.D_how_many_by.kp (bn_how_many_by c) (ra_cons (re_var 2) (ra_cons re_str (ra_cons re_int ra_nil))))) (ra_cons (re_new (rn_callV (fn_step_of c) hG (hr.mono (by decide)) rfl c.g_step_of c.D_step_of.kp (bn_step_of c) (ra_cons (re_var 2) (ra_cons re_str (ra_cons re_int ra_nil))))) ra_nil)))))))
      (rb_cons (rs_set 4 sc_law.nd (rn_val (re_add (re_var 4) (re_new (rn_lst (ra_cons (re_new (rn_lc [("place", 7)] rfl sc_law.nd (ri_rng1 rfl c.b_range (ra_cons re_int ra_nil)) (fun _ _ _ _ _ => ⟨_, _, (rg_name 7 sc_law.nd), by decide⟩) (fun _ _ _ _ _ => ⟨_, rts_nil⟩) (fun _ _ _ _ _ => ⟨_, (re_new (rn_callV (fn_how_many_by c) hG (hr.mono (by decide)) rfl c.g_how_many_by c.D_how_many_by.kp (bn_how_many_by c) (ra_cons (re_var 3) (ra_cons re_str (ra_cons (re_var 7) ra_nil)))))⟩))) ra_nil))))))
      (rb_cons (rs_set 5 sc_law.nd (rn_val (re_new (rn_lst (ra_cons re_int (ra_cons re_int (ra_cons re_int (ra_cons (re_new (rn_lst (ra_cons (re_tup (ra_cons re_int (ra_cons re_int ra_nil))) (ra_cons (re_tup (ra_cons re_int (ra_cons re_int ra_nil))) (ra_cons (re_tup (ra_cons re_int (ra_cons re_int ra_nil))) (ra_cons (re_tup (ra_cons re_int (ra_cons re_int ra_nil))) (ra_cons (re_tup (ra_cons re_int (ra_cons re_int ra_nil))) ra_nil))))))) (ra_cons re_int (ra_cons re_int (ra_cons (re_new (rn_repL (re_new (rn_lst (ra_cons re_int ra_nil))) re_int)) ra_nil)))))))))))
      (rb_cons (rs_set 6 sc_law.nd (rn_val (re_tup (ra_cons (re_pow re_int re_int) (ra_cons re_int (ra_cons (re_new (rn_lst (ra_cons re_int (ra_cons re_int ra_nil)))) (ra_cons re_int ra_nil)))))))
      (rb_cons (rs_if (rt_not (rt_val (re_new (rn_callV (fn__law_same c) hG (hr.mono (by decide)) rfl c.g__law_same c.D__law_same.kp (bn__law_same c) (ra_cons (re_new (rn_callV (fn_pairs_by c) hG (hr.mono (by decide)) rfl c.g_pairs_by c.D_pairs_by.kp (bn_pairs_by c) (ra_cons (re_add (re_new (rn_slice (re_var 6) ro_none (ro_some re_int))) (re_tup (ra_cons re_int (ra_cons (re_new (rn_lst (ra_cons re_int (ra_cons re_int ra_nil)))) (ra_cons re_int ra_nil))))) (ra_cons re_str (ra_cons re_int ra_nil))))) (ra_cons (re_new (rn_callV (fn__law_apart c) hG (hr.mono (by decide)) rfl c.g__law_apart c.D__law_apart.kp (bn__law_apart c) (ra_cons re_int (ra_cons re_int ra_nil)))) ra_nil)))))) (rb_one (rs_ret (rn_val re_bl))) rb_nil)
      (rb_cons (rs_if (rt_not (rt_val (re_new (rn_callV (fn__law_same c) hG (hr.mono (by decide)) rfl c.g__law_same c.D__law_same.kp (bn__law_same c) (ra_cons (re_new (rn_callV (fn_pairs_by c) hG (hr.mono (by decide)) rfl c.g_pairs_by c.D_pairs_by.kp (bn_pairs_by c) (ra_cons (re_tup (ra_cons re_int (ra_cons re_int (ra_cons (re_new (rn_lst (ra_cons re_int (ra_cons re_int (ra_cons re_int ra_nil))))) (ra_cons re_int ra_nil))))) (ra_cons re_str (ra_cons re_int ra_nil))))) (ra_cons (re_new (rn_callV (fn__law_apart c) hG (hr.mono (by decide)) rfl c.g__law_apart c.D__law_apart.kp (bn__law_apart c) (ra_cons re_int (ra_cons re_int ra_nil)))) ra_nil)))))) (rb_one (rs_ret (rn_val re_bl))) rb_nil)
      (rb_cons (rs_if (rt_not (rt_val (re_new (rn_callV (fn__law_same c) hG (hr.mono (by decide)) rfl c.g__law_same c.D__law_same.kp (bn__law_same c) (ra_cons (re_new (rn_callV (fn_pairs_by c) hG (hr.mono (by decide)) rfl c.g_pairs_by c.D_pairs_by.kp (bn_pairs_by c) (ra_cons (re_tup (ra_cons re_int (ra_cons re_int (ra_cons (re_new (rn_lst (ra_cons re_int (ra_cons re_int ra_nil)))) (ra_cons re_int ra_nil))))) (ra_cons re_str (ra_cons re_int ra_nil))))) (ra_cons (re_new (rn_lc [("low", 8)] rfl sc_law.nd (ri_rng1 rfl c.b_range (ra_cons re_int ra_nil)) (fun _ _ _ _ _ => ⟨_, _, (rg_name 8 sc_law.nd), by decide⟩) (fun _ _ _ _ _ => ⟨_, rts_nil⟩) (fun _ _ _ _ _ => ⟨_, (re_tup (ra_cons (re_var 8) (ra_cons (re_add (re_var 8) re_int) ra_nil)))⟩))) ra_nil)))))) (rb_one (rs_ret (rn_val re_bl))) rb_nil)
      (rb_one (rs_ret (rn_val (re_and (re_new (rn_callV (fn__law_same c) hG (hr.mono (by decide)) rfl c.g__law_same c.D__law_same.kp (bn__law_same c) (ra_cons (re_var 4) (ra_cons (re_var 5) ra_nil)))) (re_one (re_new (rn_callV (fn__law_many c) hG (hr.mono (by decide)) rfl c.g__law_many c.D__law_many.kp (bn__law_many c) (ra_cons (re_var 6) (ra_cons re_str (ra_cons re_int (ra_cons re_int ra_nil)))))))))))))))))))))))⟩
end
end N34
namespace N34
open PySem PySem.Spec PyProof.Rows L2 CW
local macro_rules | `(tactic| decreasing_with $ts:tacticSeq) => `(tactic| repeat (first | (focus ((with_reducible show List.set _ _ _ = _); (conv => lhs; simp only [List.set_cons_zero, List.set_cons_succ, Sl.put, Int.reduceToNat]); try rfl)) | ($ts:tacticSeq) | (with_reducible first | exact ev_nil | exact ev_nsnil | exact putA_nil | exact ev_next | exact ev_yes | exact ev_nopart | exact ev_c | exact ev_gsnil) | ((with_reducible first | apply ev_var | apply ev_fzv | apply ev_mvv); rfl) | ((with_reducible apply ev_ixv); rfl) | (with_reducible first | apply ev_seq | apply ev_set | apply ev_val | apply ev_frz | apply ev_op | apply ev_call | apply ev_cons | apply ev_tup | apply ev_lst | apply ev_T | apply ev_neg | apply ev_unN | apply ev_isi | apply ev_notT | apply ev_notV | apply ev_ret | apply ev_drop | apply ev_asg | apply ev_gset | apply ev_gscons | apply ev_gtup | apply ev_gtupL | apply ev_items | apply ev_rng1 | apply ev_rng2 | apply ev_en | apply ev_zp | apply ev_part | apply ev_slice | apply ev_lrg1 | apply ev_idx | apply ev_for | apply ev_par | apply ev_par3 | apply ev_parN | apply ev_par3N | apply ev_gix | apply ev_ixo | apply ev_ixv | apply ev_ownM | apply ev_callV | apply ev_callO | apply ev_callI | apply ev_callT | apply ev_fz | apply ev_mv | apply ev_lc | apply ev_bor | apply ev_borT | apply ev_opN | apply ev_cnt | apply ev_tupN | apply ev_nscons | apply putA_cons | apply ev_kd | apply ev_kdIn | apply ev_revTo | apply ev_sortSet | apply ev_fnm | apply ev_rng3 | apply ev_rngL | apply ev_callU | apply ev_toT | apply ev_tupT | apply ev_lstT | apply ev_lcT | apply ev_treeAp | apply ev_mvt | apply ev_mark | apply ev_setIxT | apply ev_addT | apply ev_addX | apply ev_prT | apply ev_vkv | apply ev_appT | apply ev_fldV | apply ev_vwk | apply ev_vwv | apply ev_prL) | (focus ((with_reducible show List.map Sl.val _ = _); (conv => lhs; simp only [List.map_cons, List.map_nil, inOrder, List.filterMap, List.cons_append, List.nil_append, List.getElem?_cons_zero, List.getElem?_cons_succ]); try rfl)) | (show (_ : Nat) < List.length (_ : Ev); simp only [List.length_cons, List.length_nil, List.length_set]; omega) | (show (_ : Nat) < List.length (_ : Ev) ∧ _; simp only [List.length_cons, List.length_nil, List.length_set]; omega) | (show List.length (_ : List PyData) ≤ 100000; simp only [List.length_cons, List.length_nil]; omega) | (show List.length (_ : List Sl) ≤ 100; simp only [List.length_cons, List.length_nil]; omega) | (focus ((with_reducible show (Sl.emp :: List.map Sl.val _) = _); (conv => lhs; simp only [List.map_cons, List.map_nil]); try rfl)) | (with_reducible first | exact fNe_str | exact fEq_str | exact intsOf_ints _) | (focus ((with_reducible first | show Sl.frz _ = _ | show wasOwn _ _ = _ | show (_ : Ev)[_]? = _ | show Sl.isOwn _ = _ | show ixN _ _ = _ | show atI _ _ = _ | show resV _ = _ | show itemsD _ = _ | show seqD _ = _ | show List.length _ = _ | show calmAt _ _ = _ | show fInt _ = _ | show fLen _ = _ | show fListOf _ = _ | show fTupOf _ = _ | show fMax2 _ = _ | show fMin2 _ = _ | show fRev _ = _ | show fBits _ = _ | show outA _ _ = _ | show fAppend _ _ = _ | show fSl _ _ _ = _ | show toT _ = _ | show toTs _ = _ | show apAt _ _ _ = _ | show scD _ = _ | show mkOk _ _ = _); rfl)) | (focus ((with_reducible show fAdd _ _ = _); exact fAdd_i)) | (focus ((with_reducible show fSub _ _ = _); exact fSub_i)) | (focus ((with_reducible show fLtI _ _ = _); exact fLtI_i)) | (focus ((with_reducible show fLeI _ _ = _); exact fLeI_i)) | (focus ((with_reducible show fGtI _ _ = _); exact fGtI_i)) | (focus ((with_reducible show fGeI _ _ = _); exact fGeI_i)) | (focus ((with_reducible show fEq _ _ = _); exact fEq_i)) | (focus ((with_reducible show fNe _ _ = _); exact fNe_i)) | (focus ((with_reducible show fMulI _ _ = _); exact fMulI_ok (by omega))) | (focus ((with_reducible show fMod _ _ = _); exact fMod_ok (by omega))) | (focus ((with_reducible show fDiv _ _ = _); first | exact fDiv_s (by omega) (by omega) | exact fDiv_ok (by omega) (by assumption))) | (focus ((with_reducible show fDivmod _ = _); exact fDivmod_ok (by omega) (by omega))) | (focus ((with_reducible show isT _ _ = _); first | rfl | decide +kernel)) | (focus ((with_reducible show List.map Sl.see _ = _); (conv => lhs; simp only [List.map_cons, List.map_nil, Sl.see]); try rfl)) | (focus ((with_reducible first | show List.length _ + 1 = _ | show scD _ = _ | show (!_) = _); rfl)) | (with_reducible first | exact (rfl : true = true) | exact (rfl : false = false)) | (focus ((with_reducible show clr _ _ = _); (conv => lhs; simp only [clr_nil, clr_cons, List.set_cons_zero, List.set_cons_succ]); try rfl)) | (focus ((with_reducible show bck _ _ _ = _); (conv => lhs; simp only [bck_nil, bck_cons, List.getElem?_cons_zero, List.getElem?_cons_succ, List.set_cons_zero, List.set_cons_succ]); try rfl)) | (exact ⟨rfl, rfl, rfl⟩) | (focus ((with_reducible first | show fIx (.tuple (_ :: _)) (.int _) = _ | show fIx (.list (_ :: _)) (.int _) = _); rfl))))
theorem ty_is_whole {i : Int} : F_is_whole [iV i] = .ok (.val (.bool true), [iV i]) := by
  refine ev_fn (δ1 := [iV i]) ?_ rfl
  show m_is_whole [iV i] = _
  decreasing_with fail
  apply ev_andVT
  decreasing_with fail
theorem ty_is_between2 {i : Int} : F_is_between [iV i, iV 2, .val .none] = .ok (.val (.bool (decide (2 ≤ i))), [iV i, iV 2, .val .none]) := by
  refine ev_fn (δ1 := [iV i, iV 2, .val .none]) ?_ rfl
  show m_is_between [iV i, iV 2, .val .none] = _
  apply ev_seq
  · apply ev_ifF
    decreasing_with first | (with_reducible exact ty_is_whole)
    decreasing_with fail
  decreasing_with fail
  have e1 : mOrV (mOp fIsN (mVar 1) (mC .none)) (mOp fGeI (mVar 0) (mVar 1)) [iV i, iV 2, .val .none] = .ok (.bool (decide (2 ≤ i)), [iV i, iV 2, .val .none]) := by
    apply ev_orVF
    decreasing_with first | ((show fIsN _ _ = _; rfl))
    decreasing_with fail
  have e2 : mOrV (mOp fIsN (mVar 2) (mC .none)) (mOp fLeI (mVar 0) (mVar 2)) [iV i, iV 2, .val .none] = .ok (.bool true, [iV i, iV 2, .val .none]) := by
    apply ev_orVT
    decreasing_with first | ((show fIsN _ _ = _; rfl))
  have e3 := ev_andV e1 (fun _ => e2)
  rwa [Bool.and_true] at e3
/-! common divisors of whole numbers -/
def gN (M x : Int) : Nat := Int.gcd M x
theorem gN_mod (M x : Int) : gN M (x % M) = gN M x := by
  unfold gN
  conv => rhs; rw [show x = x % M + M * (x / M) by rw [Int.emod_add_mul_ediv]]
  rw [Int.gcd_add_mul_left_right]
theorem gN_pow {M r : Int} (h : gN M r = 1) (a : Nat) (x : Int) : gN M (r ^ a * x) = gN M x := by
  unfold gN at *
  rw [Int.gcd_eq_natAbs_gcd_natAbs] at *
  rw [Int.gcd_eq_natAbs_gcd_natAbs, Int.natAbs_mul, Int.natAbs_pow]
  exact Nat.Coprime.gcd_mul_left_cancel_right _ (Nat.Coprime.pow_left a (Nat.Coprime.symm h))
theorem gN_pos {M : Int} (h : 0 < M) (x : Int) : 0 < gN M x := Int.gcd_pos_of_ne_zero_left x (by omega)
theorem gN_le {M : Int} (h : 0 < M) (x : Int) : (gN M x : Int) ≤ M := Int.gcd_le_left x h
theorem gN_one {M r : Int} (h : gN M r = 1) (a : Nat) : gN M (r ^ a) = 1 := by
  have z := gN_pow h a 1
  rw [Int.mul_one] at z
  rw [z]
  exact Int.gcd_one
/-- what stays of a modulus -/
def stN (M x : Int) : Int := M / (gN M x : Int)
theorem stN_one (M : Int) : stN M 1 = M := by
  unfold stN gN
  rw [Int.gcd_one]
  simp
def pw (M r : Int) (j : Nat) : Int := r ^ j % M
theorem pw_zero {M r : Int} (h : 2 ≤ M) : pw M r 0 = 1 := by
  unfold pw
  rw [Int.pow_zero]
  exact Int.emod_eq_of_lt (by omega) (by omega)
theorem pw_succ (M r : Int) (j : Nat) : (pw M r j * r) % M = pw M r (j + 1) := by
  unfold pw
  rw [Int.mul_emod, Int.emod_emod, ← Int.mul_emod, ← Int.pow_succ]
theorem pw_range {M : Int} (h : 0 < M) (r : Int) (j : Nat) : 0 ≤ pw M r j ∧ pw M r j < M := ⟨Int.emod_nonneg _ (by omega), Int.emod_lt_of_pos _ h⟩
theorem pw_pos {M r : Int} (h : 2 ≤ M) (hr : gN M r = 1) (j : Nat) : 1 ≤ pw M r j ∧ pw M r j ≤ M - 1 := by
  have z := pw_range (M := M) (by omega) r j
  have g := gN_one hr j
  rw [← gN_mod] at g
  have ne : pw M r j ≠ 0 := fun e => by
    unfold pw at e
    rw [e] at g
    unfold gN at g
    rw [Int.gcd_zero] at g
    omega
  omega
theorem gN_pw {M r : Int} (hr : gN M r = 1) (j : Nat) : gN M (pw M r j) = 1 := by
  unfold pw
  rw [gN_mod]
  exact gN_one hr j
/-- two powers, one taken from the other or added to it -/
theorem gN_two {M r : Int} (hr : gN M r = 1) (a k : Nat) : gN M ((pw M r (a + k) - pw M r a) % M) = gN M (r ^ k - 1) ∧ gN M ((pw M r (a + k) + pw M r a) % M) = gN M (r ^ k + 1) := by
  have e : r ^ (a + k) = r ^ a * r ^ k := Int.pow_add r a k
  refine ⟨?_, ?_⟩
  · have z : (pw M r (a + k) - pw M r a) % M = (r ^ a * (r ^ k - 1)) % M := by
      unfold pw
      rw [← Int.sub_emod, Int.mul_sub, Int.mul_one, e]
    rw [z, gN_mod, gN_pow hr]
  · have z : (pw M r (a + k) + pw M r a) % M = (r ^ a * (r ^ k + 1)) % M := by
      unfold pw
      rw [← Int.add_emod, Int.mul_add, Int.mul_one, e]
    rw [z, gN_mod, gN_pow hr]
theorem pow_1 (r : Int) : r ^ 1 = r := by rw [Int.pow_succ, Int.pow_zero, Int.one_mul]
theorem pow_2 (r : Int) : r ^ 2 = r * r := by rw [Int.pow_succ, pow_1]
theorem whN_done {c : MT} {b : MS} {n : Nat} {δ δ1 : Ev} (e : c δ = .ok (false, δ1)) : whN c b (n + 1) δ = .ok (.nx, δ1) := by
  rw [whN, e]
theorem whN_step {c : MT} {b : MS} {n : Nat} {δ δ1 δ2 : Ev} (e : c δ = .ok (true, δ1)) (e2 : b δ1 = .ok (.nx, δ2)) : whN c b (n + 1) δ = whN c b n δ2 := by
  rw [whN, e]
  simp only []
  rw [e2]
theorem erase_map {α β : Type} (f : α → β) : ∀ (xs : List α) (i : Nat), (xs.map f).eraseIdx i = (xs.eraseIdx i).map f
  | [], _ => rfl
  | _ :: _, 0 => rfl
  | x :: xs, i + 1 => by
    show f x :: (xs.map f).eraseIdx i = f x :: (xs.eraseIdx i).map f
    rw [erase_map f xs i]
theorem erase_perm {α : Type} : ∀ {xs : List α} {i : Nat} (h : i < xs.length), (xs[i] :: xs.eraseIdx i).Perm xs
  | x :: xs, 0, _ => .refl _
  | x :: xs, i + 1, h => by
    have h' : i < xs.length := by simpa using h
    have z := erase_perm (xs := xs) (i := i) h'
    show (xs[i] :: x :: xs.eraseIdx i).Perm (x :: xs)
    exact (List.Perm.swap ..).trans (z.cons x)
theorem gcd_loop {c : MT} {w : MS} (st : Int → Int → Ev) (h0 : ∀ a, c (st a 0) = .ok (false, st a 0)) (h1 : ∀ a b : Nat, 0 < b → c (st a b) = .ok (true, st a b)) (h2 : ∀ a b : Nat, 0 < b → w (st a b) = .ok (.nx, st b ((a : Int) % b))) : ∀ (b a : Nat), ∃ n, whN c w n (st a b) = .ok (.nx, st (Nat.gcd a b : Nat) 0) := by
  intro b
  induction b using Nat.strongRecOn with
  | _ b ih =>
    intro a
    by_cases hb : b = 0
    · subst hb
      refine ⟨1, ?_⟩
      rw [Nat.gcd_zero_right]
      exact whN_done (h0 _)
    · have hp : 0 < b := by omega
      obtain ⟨n, e⟩ := ih (a % b) (Nat.mod_lt _ hp) b
      refine ⟨n + 1, ?_⟩
      rw [whN_step (h1 a b hp) (h2 a b hp)]
      have eg : Nat.gcd a b = Nat.gcd b (a % b) := by rw [Nat.gcd_comm a b, Nat.gcd_rec b a, Nat.gcd_comm]
      rw [eg]
      exact e
def lowN (a b : Nat) : Nat × Nat := (a / Nat.gcd a b, b / Nat.gcd a b)
def pairN (p : Nat × Nat) : PyData := .tuple [.int (p.1 : Int), .int (p.2 : Int)]
theorem pair01 : pairN (0, 1) = .tuple [.int 0, .int 1] := rfl
theorem log_nat {b : Nat} {k : Nat} (hb : b < 2 ^ k) (hk : 0 < k) : ((b : Int)).natAbs.log2 < k := by
  rw [Int.natAbs_natCast]
  by_cases z : b = 0
  · subst z; simpa using hk
  · exact (Nat.log2_lt z).mpr hb
theorem div_nat {a b g : Nat} (hg : 0 < g) (hg2 : g ≤ b) (hb : b < 2 ^ 200) : fDiv (.int (a : Int)) (.int (g : Int)) = .ok (.int ((a / g : Nat) : Int)) := by
  have l : ((g : Int)).natAbs.log2 < 9000 := Nat.lt_trans (log_nat (b := g) (k := 200) (Nat.lt_of_le_of_lt hg2 hb) (by decide)) (by decide)
  exact fDiv_ok (by omega) l
theorem fIx_li {xs : List Int} {i : Nat} (h : i < xs.length) : fIx (lI xs) (.int (i : Int)) = .ok (.int (xs.getD i 0)) := by
  show (match atI (xs.map PyData.int) (i : Int) with | some d => Res.ok d | none => .no) = _
  rw [atI_map _ _ _ h, List.getD_eq_getElem?_getD, List.getElem?_eq_getElem h]; rfl
theorem fIx_ls {xs : List (List Int)} {i : Nat} (h : i < xs.length) : fIx (.list (xs.map fun t => lI t)) (.int (i : Int)) = .ok (lI (xs.getD i [])) := by
  show (match atI (xs.map fun t => lI t) (i : Int) with | some d => Res.ok d | none => .no) = _
  rw [atI_map _ _ _ h, List.getD_eq_getElem?_getD, List.getElem?_eq_getElem h]; rfl
theorem fIx_lz {xs : List Int} {c : Int} (h0 : 0 ≤ c) (h : c < xs.length) : fIx (lI xs) (.int c) = .ok (.int (xs.getD c.toNat 0)) := by
  have e : c = ((c.toNat : Nat) : Int) := by omega
  have z := fIx_li (xs := xs) (i := c.toNat) (by omega)
  rwa [← e] at z
theorem fLen_li {xs : List Int} : fLen [lI xs] = .ok (iV xs.length) := by
  show Res.ok (Sl.val (.int ((xs.map PyData.int).length : Nat))) = _
  rw [List.length_map]
theorem fLen_ls {xs : List (List Int)} : fLen [.list (xs.map fun t => lI t)] = .ok (iV xs.length) := by
  show Res.ok (Sl.val (.int ((xs.map fun t => lI t).length : Nat))) = _
  rw [List.length_map]
theorem forL_ret {g : PyData → Ev → Res Ev} {b : MS} {d : PyData} {ds : List PyData} {δ δ1 δ2 : Ev} {s : Sl} (e1 : g d δ = .ok δ1) (e2 : b δ1 = .ok (.rt s, δ2)) : forL g b (d :: ds) δ = .ok (.rt s, δ2) := by
  rw [forL]
  rw [e1]; simp only []
  rw [e2]
theorem forL_first {α : Type} {g : PyData → Ev → Res Ev} {b : MS} (enc : α → PyData) (R R2 : Ev → Prop) {w : α} {s : Sl} : ∀ {xs : List α} {δ : Ev}, R δ → w ∈ xs →
    (∀ x ∈ xs, x ≠ w → ∀ δ, R δ → ∃ δ1 δ2, g (enc x) δ = .ok δ1 ∧ b δ1 = .ok (.nx, δ2) ∧ R δ2) → (∀ δ, R δ → ∃ δ1 δ2, g (enc w) δ = .ok δ1 ∧ b δ1 = .ok (.rt s, δ2) ∧ R2 δ2) →
    ∃ δ', forL g b (xs.map enc) δ = .ok (.rt s, δ') ∧ R2 δ'
  | x :: xs, δ, r, hw, h1, h2 => by
    by_cases e : x = w
    · subst e
      obtain ⟨δ1, δ2, e1, e2, r2⟩ := h2 δ r
      exact ⟨δ2, forL_ret e1 e2, r2⟩
    · obtain ⟨δ1, δ2, e1, e2, r2⟩ := h1 x (List.mem_cons_self ..) e δ r
      obtain ⟨δ', e3, r3⟩ := forL_first enc R R2 r2 (show w ∈ xs by cases hw with
        | head => exact absurd rfl e
        | tail _ h => exact h) (fun x hx => h1 x (List.mem_cons_of_mem _ hx)) h2
      exact ⟨δ', by rw [List.map_cons, forL_cons e1 e2, e3], r3⟩
structure GenOk (B : Int) (g : List PyData) : Prop where
  ex : ∃ a b c : Int, g = [.int a, .int b, .int c] ∧ 0 ≤ a ∧ 0 ≤ b ∧ 0 ≤ c ∧ c + B ≤ 1152921504606846976
theorem GenOk.less {B B' : Int} {g : List PyData} (h : GenOk B g) (hb : B' ≤ B) : GenOk B' g :=
  let ⟨a, b, c, e, h1, h2, h3, h4⟩ := h.ex
  ⟨a, b, c, e, h1, h2, h3, by omega⟩
theorem bits_small {b : Int} (h0 : 0 < b) (h1 : b < 1152921504606846976) : ((Builtin.Int.intBits b : Nat) : Int) / 30 ≤ 2 ∧ 0 ≤ ((Builtin.Int.intBits b : Nat) : Int) / 30 := by
  have h : Builtin.Int.intBits b ≤ 60 := by
    unfold Builtin.Int.intBits
    split
    · omega
    · have := log_lt (j := b) (n := 60) (by omega) (by simpa using h1) (by omega)
      omega
  omega
theorem len_rng {lo : Int} {n : Nat} : (rngD lo n).length = n := by unfold rngD; simp
theorem forL_rng {g : PyData → Ev → Res Ev} {b : MS} (R : Nat → Ev → Prop) {n : Nat} {δ : Ev} (h0 : R 0 δ) (h : ∀ k δ, k < n → R k δ → ∃ δ1 δ2, g (.int (k : Int)) δ = .ok δ1 ∧ b δ1 = .ok (.nx, δ2) ∧ R (k + 1) δ2) : ∃ δ', forL g b (rngD 0 (n : Int).toNat) δ = .ok (.nx, δ') ∧ R n δ' := by
  obtain ⟨δ', e, r⟩ := forL_go (g := g) (b := b) R (ds := rngD 0 (n : Int).toNat) h0 (by
    intro i d δ hd r
    have hi : i < n := by
      have z := (List.getElem?_eq_some_iff.mp hd).1
      rw [len_rng] at z
      omega
    have hd2 : d = .int i := by
      unfold rngD at hd
      rw [List.getElem?_map, List.getElem?_range (by simpa using hi)] at hd
      simp at hd
      exact hd.symm
    subst hd2
    exact h i δ hi r)
  rw [len_rng] at r
  exact ⟨δ', e, r⟩
theorem forL_rngZ {g : PyData → Ev → Res Ev} {b : MS} (z : Int) (R : Nat → Ev → Prop) {n : Nat} {δ : Ev} (h0 : R 0 δ) (h : ∀ k δ, k < n → R k δ → ∃ δ1 δ2, g (.int (k : Int)) δ = .ok δ1 ∧ b δ1 = .ok (.nx, δ2) ∧ R (k + 1) δ2) (hz : z = (n : Int) := by rfl) : ∃ δ', forL g b (rngD 0 z.toNat) δ = .ok (.nx, δ') ∧ R n δ' := by
  subst hz
  exact forL_rng R h0 h
theorem forL_list {α : Type} {g : PyData → Ev → Res Ev} {b : MS} (enc : α → PyData) (R : Nat → Ev → Prop) {xs : List α} {δ : Ev} (h0 : R 0 δ) (h : ∀ k x δ, xs[k]? = some x → R k δ → ∃ δ1 δ2, g (enc x) δ = .ok δ1 ∧ b δ1 = .ok (.nx, δ2) ∧ R (k + 1) δ2) : ∃ δ', forL g b (xs.map enc) δ = .ok (.nx, δ') ∧ R xs.length δ' := by
  obtain ⟨δ', e, r⟩ := forL_go (g := g) (b := b) R (ds := xs.map enc) h0 (by
    intro i d δ hd r
    rw [List.getElem?_map] at hd
    cases hq : xs[i]? with
    | none => rw [hq] at hd; cases hd
    | some x => rw [hq] at hd; rw [← Option.some.inj hd]; exact h i x δ hq r)
  rw [List.length_map] at r
  exact ⟨δ', e, r⟩
theorem lcL_ints {α : Type} {g : PyData → Ev → Res Ev} {te : ME} {vs : List Nat} (enc : α → PyData) (f : α → Int) (δ : Ev) (xs : List α) (hl : xs.length ≤ sizeLine) (h : ∀ a ∈ xs, ∃ δ1, g (enc a) δ = .ok δ1 ∧ te δ1 = .ok (.int (f a), δ1) ∧ clr δ1 vs = δ) : lcL g mYes te vs (xs.map enc) [] δ = .ok ((xs.map f).map .int, δ) := by
  have lc := lcL_pure (g := g) (tt := mYes) (te := te) (vs := vs) enc (fun _ => true) (fun a => .int (f a)) δ xs [] (by simpa using hl) (by
    intro a ha
    obtain ⟨δ1, e1, e2, e3⟩ := h a ha
    exact ⟨δ1, e1, rfl, fun _ => e2, e3⟩)
  rw [List.filter_eq_self.mpr (fun _ _ => rfl), List.nil_append, show (fun a => PyData.int (f a)) = PyData.int ∘ f from rfl, ← List.map_map] at lc
  exact lc
theorem lcL_all {α : Type} {g : PyData → Ev → Res Ev} {te : ME} {vs : List Nat} (enc : α → PyData) (f : α → PyData) (δ : Ev) (xs : List α) (hl : xs.length ≤ sizeLine) (h : ∀ a ∈ xs, ∃ δ1, g (enc a) δ = .ok δ1 ∧ te δ1 = .ok (f a, δ1) ∧ clr δ1 vs = δ) : lcL g mYes te vs (xs.map enc) [] δ = .ok (xs.map f, δ) := by
  have lc := lcL_pure (g := g) (tt := mYes) (te := te) (vs := vs) enc (fun _ => true) f δ xs [] (by simpa using hl) (by
    intro a ha
    obtain ⟨δ1, e1, e2, e3⟩ := h a ha
    exact ⟨δ1, e1, rfl, fun _ => e2, e3⟩)
  rw [List.filter_eq_self.mpr (fun _ _ => rfl), List.nil_append] at lc
  exact lc
theorem lcL_rngI {g : PyData → Ev → Res Ev} {te : ME} {vs : List Nat} (f : Nat → Int) (δ : Ev) (n : Nat) (hl : n ≤ 1000000) (h : ∀ k, k < n → ∃ δ1, g (.int (k : Int)) δ = .ok δ1 ∧ te δ1 = .ok (.int (f k), δ1) ∧ clr δ1 vs = δ) : lcL g mYes te vs (rngD 0 (n : Int).toNat) [] δ = .ok (((List.range n).map f).map .int, δ) := by
  have z := lcL_ints (g := g) (te := te) (vs := vs) (fun (k : Nat) => PyData.int (k : Int)) f δ (List.range n) (by rw [List.length_range, sizeLine_eq]; omega) fun k hk => h k (List.mem_range.mp hk)
  rw [← rngD_nat] at z
  exact z
theorem lcL_rng {g : PyData → Ev → Res Ev} {te : ME} {vs : List Nat} (f : Nat → PyData) (δ : Ev) (n : Nat) (hl : n ≤ 1000000) (h : ∀ k, k < n → ∃ δ1, g (.int (k : Int)) δ = .ok δ1 ∧ te δ1 = .ok (f k, δ1) ∧ clr δ1 vs = δ) : lcL g mYes te vs (rngD 0 (n : Int).toNat) [] δ = .ok ((List.range n).map f, δ) := by
  have z := lcL_all (g := g) (te := te) (vs := vs) (fun (k : Nat) => PyData.int (k : Int)) f δ (List.range n) (by rw [List.length_range, sizeLine_eq]; omega) fun k hk => h k (List.mem_range.mp hk)
  rw [← rngD_nat] at z
  exact z
theorem ty_is_between {i lo hi : Int} : F_is_between [iV i, iV lo, iV hi] = .ok (.val (.bool (decide (lo ≤ i) && decide (i ≤ hi))), [iV i, iV lo, iV hi]) := by
  apply ev_fn
  show m_is_between [iV i, iV lo, iV hi] = _
  apply ev_seq
  · apply ev_ifF
    decreasing_with first | (with_reducible exact ty_is_whole)
  have e1 : mOrV (mOp fIsN (mVar 1) (mC .none)) (mOp fGeI (mVar 0) (mVar 1)) [iV i, iV lo, iV hi] = .ok (.bool (decide (lo ≤ i)), [iV i, iV lo, iV hi]) := by
    apply ev_orVF
    decreasing_with first | ((show fIsN _ _ = _; rfl))
  have e2 : mOrV (mOp fIsN (mVar 2) (mC .none)) (mOp fLeI (mVar 0) (mVar 2)) [iV i, iV lo, iV hi] = .ok (.bool (decide (i ≤ hi)), [iV i, iV lo, iV hi]) := by
    apply ev_orVF
    decreasing_with first | ((show fIsN _ _ = _; rfl))
  have e3 := ev_andV e1 (fun _ => e2)
  decreasing_with first | (with_reducible exact e3)
theorem ty_is_betweenN {i lo : Int} (h : lo ≤ i) : F_is_between [iV i, iV lo, .val .none] = .ok (.val (.bool true), [iV i, iV lo, .val .none]) := by
  refine ev_fn (δ1 := [iV i, iV lo, .val .none]) ?_ rfl
  show m_is_between [iV i, iV lo, .val .none] = _
  apply ev_seq
  · apply ev_ifF
    decreasing_with first | (with_reducible exact ty_is_whole)
    decreasing_with fail
  decreasing_with fail
  have e1 : mOrV (mOp fIsN (mVar 1) (mC .none)) (mOp fGeI (mVar 0) (mVar 1)) [iV i, iV lo, .val .none] = .ok (.bool true, [iV i, iV lo, .val .none]) := by
    apply ev_orVF
    decreasing_with first | ((show fIsN _ _ = _; rfl))
    have g : fGeI (.int i) (.int lo) = .ok (.bool true) := by rw [fGeI_i, decide_eq_true h]
    decreasing_with first | (with_reducible exact g)
  have e2 : mOrV (mOp fIsN (mVar 2) (mC .none)) (mOp fLeI (mVar 0) (mVar 2)) [iV i, iV lo, .val .none] = .ok (.bool true, [iV i, iV lo, .val .none]) := by
    apply ev_orVT
    decreasing_with first | ((show fIsN _ _ = _; rfl))
    decreasing_with fail
  have e3 := ev_andV e1 (fun _ => e2)
  rw [Bool.true_and] at e3
  decreasing_with first | (with_reducible exact e3)
def sizeP (os : List Int) : Int := os.foldl (fun s o => s * o) 1
structure PosL (os : List Int) : Prop where
  at_ : ∀ o ∈ os, 2 ≤ o ∧ o < 1073741824
  len : os.length ≤ 1000
def rngI (lo : Int) (n : Nat) : List Int := (List.range n).map fun (i : Nat) => lo + (i : Int)
theorem rngI_len (lo : Int) (n : Nat) : (rngI lo n).length = n := by unfold rngI; simp
theorem rngD_I (lo : Int) (n : Nat) : rngD lo n = (rngI lo n).map PyData.int := rngD_map lo n
theorem rOk_small {k : Int} (h0 : 0 ≤ k) (h1 : k ≤ 1000000) : rOk k = true := decide_eq_true (by omega)
structure SzOk (os : List Int) : Prop extends PosL os where
  lo : 1 ≤ sizeP os
  hi : sizeP os ≤ 100000
theorem srtI_rng {n : Nat} {xs : List Int} (h : xs.Perm (rngI 0 n)) : srtI xs = rngI 0 n := by
  refine sorted_one ((srtI_perm xs).trans h) (srtI_sorted xs) ?_
  unfold rngI
  rw [List.pairwise_map]
  exact List.Pairwise.imp (fun h => by omega) List.pairwise_lt_range
structure TabOk (n : Int) (xs : List Int) : Prop where
  perm : xs.Perm (rngI 0 n.toNat)
  n0 : 0 ≤ n
  n1 : n ≤ 100000
theorem mem_rngI {lo x : Int} {n : Nat} : x ∈ rngI lo n ↔ lo ≤ x ∧ x < lo + n := by
  unfold rngI
  rw [List.mem_map]
  constructor
  · rintro ⟨i, hi, rfl⟩
    have := List.mem_range.mp hi
    omega
  · intro h
    exact ⟨(x - lo).toNat, List.mem_range.mpr (by omega), by omega⟩
theorem scA_i8 : ∀ xs : List Int, scA (xs.map .int) = true
  | [] => rfl
  | x :: xs => by
    rw [List.map_cons]
    unfold scA
    rw [scA_i8 xs]
    rfl
theorem toT_i8 (xs : List Int) : toT (.own (xs.map .int)) = .ok (lI xs) := if_pos (scA_i8 xs)
theorem toT_t8 (xs : List Int) : toT (.val (tI xs)) = .ok (tI xs) := if_pos (by show scD (.tuple (xs.map .int)) = true; unfold scD; exact scA_i8 xs)
theorem ev_borNO {mn : MN} {δ δ0 δ1 : Ev} {xs : List PyData} (hs : δ.map Sl.see = δ0) (h : mn δ0 = .ok (.own xs, δ1)) (h2 : scA xs = true) : mBorN mn δ = .ok (.own xs, δ) := by
  subst hs
  unfold mBorN
  rw [h]
  exact if_pos h2
theorem erase_filter {α : Type} (z : α) : ∀ (xs : List α) (k : Nat), ((List.range xs.length).filter fun i : Nat => !((i : Int) == (k : Int))).map (fun i => xs.getD i z) = xs.eraseIdx k
  | [], k => rfl
  | x :: xs, k => by
    have al : ∀ ys : List α, (List.range ys.length).map (fun i => ys.getD i z) = ys := fun ys => by
      apply List.ext_getElem
      · simp
      · intro i h1 h2
        simp [List.getElem?_eq_getElem h2]
    rw [List.length_cons, List.range_succ_eq_map, List.filter_cons, List.filter_map]
    cases k with
    | zero =>
      rw [if_neg (by simp), List.map_map]
      have e : (List.range xs.length).filter ((fun i : Nat => !((i : Int) == ((0 : Nat) : Int))) ∘ Nat.succ) = List.range xs.length := by
        rw [List.filter_eq_self]
        intro a _
        simp
        omega
      rw [e]
      exact al xs
    | succ k =>
      rw [if_pos (by simp; omega), List.map_cons, List.map_map]
      have e : ((fun i : Nat => !((i : Int) == ((k + 1 : Nat) : Int))) ∘ Nat.succ) = fun i : Nat => !((i : Int) == (k : Int)) := by
        funext i
        show (!(((i + 1 : Nat) : Int) == ((k + 1 : Nat) : Int))) = _
        congr 1
        rw [Bool.eq_iff_iff, beq_iff_eq, beq_iff_eq]
        omega
      rw [e]
      show x :: ((List.range xs.length).filter fun i : Nat => !((i : Int) == (k : Int))).map (fun i => xs.getD i z) = x :: xs.eraseIdx k
      rw [erase_filter z xs k]
theorem enD_tabs (ts : List (List Int)) : enD (ts.map fun t => lI t) = (List.range ts.length).map fun i : Nat => PyData.tuple [.int (i : Int), lI (ts.getD i [])] := by
  unfold enD
  apply List.ext_getElem
  · simp
  · intro i h1 h2
    simp at h1
    simp [List.getD_eq_getElem?_getD, List.getElem?_eq_getElem h1]
structure ModOk (M : Int) : Prop where
  lo : 2 ≤ M
  hi : M < 1267650600228229401496703205376
theorem ModOk.log {M : Int} (h : ModOk M) : M.natAbs.log2 < 100 := log_lt (j := M) (n := 100) (by have := h.lo; omega) (by simpa using h.hi) (by omega)
theorem ModOk.nat {M : Int} (h : ModOk M) : M.natAbs < 2 ^ 100 := by
  have := h.hi
  have := h.lo
  have e : (2 : Nat) ^ 100 = 1267650600228229401496703205376 := by decide
  omega
theorem below100 {M x : Int} (h : ModOk M) (h0 : 0 ≤ x) (h1 : x ≤ M) : x.natAbs < 2 ^ 100 := by
  have := h.hi
  have e : (2 : Nat) ^ 100 = 1267650600228229401496703205376 := by decide
  omega
theorem mulM {M x y : Int} (h : ModOk M) (x0 : 0 ≤ x) (x1 : x ≤ M) (y0 : 0 ≤ y) (y1 : y ≤ M) : fMulI (.int x) (.int y) = .ok (.int (x * y)) := fMulI_wide 100 100 (below100 h x0 x1) (below100 h y0 y1) (by decide) (by decide) (by decide)
theorem divM {M : Int} (h : ModOk M) (x : Int) : fDiv (.int M) (.int (gN M x : Int)) = .ok (.int (stN M x)) := by
  have lo := h.lo
  have hi := h.hi
  have g0 := gN_pos (M := M) (by omega) x
  have g1 := gN_le (M := M) (by omega) x
  refine fDiv_ok (by omega) (Nat.lt_trans (log_lt (j := (gN M x : Int)) (n := 100) (by omega) ?_ (by omega)) (by omega))
  have e : ((2 ^ 100 : Nat) : Int) = 1267650600228229401496703205376 := by decide
  omega
theorem modM {M x : Int} (h : ModOk M) : fMod (.int x) (.int M) = .ok (.int (x % M)) := fMod_ok (by have := h.lo; omega)
theorem gN_nat {M x : Int} (hM : 0 ≤ M) (h0 : 0 ≤ x) : Nat.gcd M.toNat x.toNat = gN M x := by
  unfold gN
  rw [Int.gcd_eq_natAbs_gcd_natAbs]
  congr 1 <;> omega
inductive Kind where
  | single | swap | jump | twin | jumptwin
def Kind.s : Kind → Str
  | .single => "single"
  | .swap => "swap"
  | .jump => "jump"
  | .twin => "twin"
  | .jumptwin => "jumptwin"
def Kind.span : Kind → Nat
  | .single => 0
  | .swap => 1
  | .jump => 2
  | .twin => 1
  | .jumptwin => 2
def Kind.alone : Kind → Bool
  | .single => true
  | _ => false
def Kind.cross : Kind → Bool
  | .swap => true
  | .jump => true
  | _ => false
theorem Kind.span_le (κ : Kind) : κ.span ≤ 2 := by cases κ <;> decide
theorem lk_kind (κ : Kind) : List.lookup κ.s [("single", 0), ("swap", 1), ("jump", 2), ("twin", 1), ("jumptwin", 2)] = some (κ.span : Int) := by cases κ <;> kernel_rfl
theorem eq_kind (κ : Kind) : fEq (.str κ.s) (.str "single") = .ok (.bool κ.alone) := by cases κ <;> kernel_rfl
theorem in_cross (κ : Kind) : fInD false (.str κ.s) (.list [.str "swap", .str "jump"]) = .ok (.bool κ.cross) := by cases κ <;> kernel_rfl
theorem in_kinds (κ : Kind) : fInD true (.str κ.s) (.list [.str "single", .str "swap", .str "jump", .str "twin", .str "jumptwin"]) = .ok (.bool false) := by cases κ <;> kernel_rfl
abbrev slD (κ : Kind) (at_ : Nat) (p : Int × Int) : PyData := .tuple [.str κ.s, .int at_, .int p.1, .int p.2]
abbrev linD (M s : Int) (ws : List Int) (t : Int) : PyData := .tuple [.int M, .int s, lI ws, .int t]
structure LinOk (M s : Int) (ws : List Int) (t : Int) : Prop where
  m : ModOk M
  s0 : 2 ≤ s
  s1 : s ≤ M
  len : 2 ≤ ws.length
  few : ws.length ≤ 1000
  at_ : ∀ w ∈ ws, 1 ≤ w ∧ w ≤ M - 1
  t0 : 0 ≤ t
  t1 : t ≤ M - 1
def mixI (κ : Kind) (a b : Int) : Int := match κ with
  | .twin => a + b
  | .jumptwin => a + b
  | _ => a - b
def coefP (M : Int) (ws : List Int) (κ : Kind) (p : Nat) : Int := match κ with
  | .single => ws.getD p 0
  | κ => mixI κ (ws.getD p 0) (ws.getD (p + κ.span) 0) % M
def ixP (v : Int) : List Int → Nat
  | [] => 0
  | x :: xs => if x = v then 0 else ixP v xs + 1
theorem ixP_lt {v : Int} : ∀ {xs : List Int}, v ∈ xs → ixP v xs < xs.length
  | x :: xs, h => by
    unfold ixP
    by_cases e : x = v
    · rw [if_pos e]; simp
    · rw [if_neg e, List.length_cons]
      have := ixP_lt (v := v) (xs := xs) (by cases h with
        | head => exact absurd rfl e
        | tail _ h => exact h)
      omega
theorem ixP_get {v : Int} : ∀ {xs : List Int}, v ∈ xs → xs.getD (ixP v xs) 0 = v
  | x :: xs, h => by
    unfold ixP
    by_cases e : x = v
    · rw [if_pos e]; exact e
    · rw [if_neg e]
      exact ixP_get (v := v) (xs := xs) (by cases h with
        | head => exact absurd rfl e
        | tail _ h => exact h)
theorem ixP_uniq {v : Int} : ∀ {xs : List Int} {i : Nat}, xs.Nodup → i < xs.length → xs.getD i 0 = v → ixP v xs = i
  | x :: xs, 0, _, _, e => by
    unfold ixP
    exact if_pos e
  | x :: xs, i + 1, hn, hi, e => by
    have hi' : i < xs.length := by simpa using hi
    replace e : xs.getD i 0 = v := e
    have hv : v ∈ xs := by
      rw [← e, List.getD_eq_getElem?_getD, List.getElem?_eq_getElem hi']
      exact List.getElem_mem hi'
    have hx : x ≠ v := fun z => (List.nodup_cons.mp hn).1 (z ▸ hv)
    unfold ixP
    rw [if_neg hx, ixP_uniq (List.nodup_cons.mp hn).2 hi' e]
theorem idxD_ints {v : Int} : ∀ {xs : List Int}, v ∈ xs → idxD (.int v) (xs.map .int) = some (ixP v xs)
  | x :: xs, h => by
    show (if PyData.eqv (.int x) (.int v) = true then some 0 else (idxD (.int v) (xs.map .int)).map (· + 1)) = _
    unfold ixP
    by_cases e : x = v
    · rw [if_pos e, if_pos (by simp [PyData.eqv, e])]
    · rw [if_neg e, if_neg (by simp [PyData.eqv, e]), idxD_ints (by cases h with
        | head => exact absurd rfl e
        | tail _ h => exact h)]
      rfl
theorem rngI_nodup (lo : Int) (n : Nat) : (rngI lo n).Nodup := by
  unfold rngI
  rw [List.Nodup, List.pairwise_map]
  exact List.Pairwise.imp (fun h => by omega) List.pairwise_lt_range
theorem TabOk.nodup {n : Int} {xs : List Int} (h : TabOk n xs) : xs.Nodup := h.perm.nodup_iff.mpr (rngI_nodup _ _)
theorem TabOk.mem {n v : Int} {xs : List Int} (h : TabOk n xs) (h0 : 0 ≤ v) (h1 : v < n) : v ∈ xs := by
  rw [h.perm.mem_iff, mem_rngI]
  have := h.n0
  omega
theorem filter_one {p : Int → Bool} {w : Int} : ∀ {xs : List Int}, xs.Nodup → w ∈ xs → (∀ x ∈ xs, (p x = true ↔ x = w)) → xs.filter p = [w]
  | x :: xs, hn, hw, h => by
    have hh := h x (List.mem_cons_self ..)
    by_cases e : x = w
    · subst e
      rw [List.filter_cons_of_pos (hh.mpr rfl), List.filter_eq_nil_iff.mpr]
      intro y hy hp
      have z := (h y (List.mem_cons_of_mem _ hy)).mp hp
      subst z
      exact (List.nodup_cons.mp hn).1 hy
    · rw [List.filter_cons_of_neg (fun z => e (hh.mp z))]
      exact filter_one (List.nodup_cons.mp hn).2 (by cases hw with
        | head => exact absurd rfl e
        | tail _ h => exact h) fun y hy => h y (List.mem_cons_of_mem _ hy)
theorem fIn_lI (neg : Bool) (v : Int) (xs : List Int) : fInD neg (.int v) (lI xs) = .ok (.bool (if neg then !decide (v ∈ xs) else decide (v ∈ xs))) := by
  have z : fInD neg (.int v) (lI xs) = .ok (.bool (if neg then !(xs.map PyData.int).any fun z => PyData.eqv z (.int v) else (xs.map PyData.int).any fun z => PyData.eqv z (.int v))) := if_pos ⟨rfl, shaped_lI xs⟩
  have e : ((xs.map PyData.int).any fun z => PyData.eqv z (.int v)) = decide (v ∈ xs) := by
    rw [Bool.eq_iff_iff, List.any_eq_true, decide_eq_true_eq]
    constructor
    · rintro ⟨d, hd, q⟩
      obtain ⟨x, hx, rfl⟩ := List.mem_map.mp hd
      simp [PyData.eqv] at q
      rw [← q]; exact hx
    · intro hx
      exact ⟨.int v, List.mem_map.mpr ⟨v, hx, rfl⟩, by simp [PyData.eqv]⟩
  rw [z, e]
theorem ty_linear_fits {M s t : Int} {ws : List Int} (h : LinOk M s ws t) : F_linear_fits [.val (linD M s ws t)] = .ok (.val (.bool true), [.val (linD M s ws t)]) := by
  have few := h.few
  have len := h.len
  have c1 := ty_is_betweenN (i := M) (lo := 2) h.m.lo
  have c2 := ty_is_between (i := s) (lo := 2) (hi := M)
  rw [decide_eq_true h.s0, decide_eq_true h.s1] at c2
  have c3 := ty_is_between (i := t) (lo := 0) (hi := M - 1)
  rw [decide_eq_true h.t0, decide_eq_true h.t1] at c3
  have i0 : fIx (linD M s ws t) (.int 0) = .ok (.int M) := rfl
  have ln : fLen [linD M s ws t] = .ok (iV 4) := rfl
  have lw : fLen [lI ws] = .ok (iV ws.length) := fLen_li
  have lt : fLtI (.int (ws.length : Int)) (.int 2) = .ok (.bool false) := by rw [fLtI_i, decide_eq_false (by omega)]
  have lc := lcL_pure (g := cg_linear_fits_0) (tt := ct_linear_fits_0) (te := ce_linear_fits_0) (vs := [5]) PyData.int (fun _ => false) PyData.int [.val (linD M s ws t), iV M, iV s, .val (lI ws), iV t, .emp] ws [] (by rw [sizeLine_eq]; show 0 + _ ≤ _; omega) (by
    intro w hw
    have b := ty_is_between (i := w) (lo := 1) (hi := M - 1)
    rw [decide_eq_true (h.at_ w hw).1, decide_eq_true (h.at_ w hw).2] at b
    refine ⟨[.val (linD M s ws t), iV M, iV s, .val (lI ws), iV t, iV w], rfl, ?_, fun z => absurd z (by simp), rfl⟩
    show ct_linear_fits_0 [.val (linD M s ws t), iV M, iV s, .val (lI ws), iV t, iV w] = _
    decreasing_with first | (with_reducible exact b))
  rw [List.filter_eq_nil_iff.mpr (fun _ _ => by simp), List.map_nil, List.append_nil] at lc
  have e0 : fEq (.list []) (.list []) = .ok (.bool true) := by kernel_rfl
  apply ev_fn
  show m_linear_fits [.val (linD M s ws t), .emp, .emp, .emp, .emp, .emp] = _
  apply ev_seq
  · apply ev_ifF
    · apply ev_orF
      · decreasing_with fail
      · rfl
      apply ev_orF
      · decreasing_with first | (with_reducible exact ln)
      · rfl
      decreasing_with first | (with_reducible exact i0) | (with_reducible exact c1)
    · rfl
    decreasing_with fail
  apply ev_seq
  · decreasing_with fail
  apply ev_seq
  · apply ev_ifF
    · apply ev_orF
      · decreasing_with first | (with_reducible exact c2)
      · rfl
      decreasing_with first | (with_reducible exact c3)
    · rfl
    decreasing_with fail
  apply ev_seq
  · apply ev_ifF
    · apply ev_orF
      · decreasing_with fail
      · rfl
      decreasing_with first | (with_reducible exact lw) | (with_reducible exact lt)
    · rfl
    decreasing_with fail
  decreasing_with first | (focus ((with_reducible show lcL _ _ _ _ _ _ _ = _); exact lc)) | (with_reducible exact e0)
theorem ty_check_linear {M s t : Int} {ws : List Int} (h : LinOk M s ws t) : F_check_linear [.val (linD M s ws t)] = .ok (.val .none, [.val (linD M s ws t)]) := by
  apply ev_fnN
  show m_check_linear [.val (linD M s ws t)] = _
  apply ev_ifF
  · decreasing_with first | (with_reducible exact ty_linear_fits h)
  · rfl
  decreasing_with fail
theorem ty_check_place {M s t : Int} {ws : List Int} {κ : Kind} {p : Nat} (h : LinOk M s ws t) (hp : p + κ.span < ws.length) : F_check_place [.val (linD M s ws t), .val (.str κ.s), iV p] = .ok (.val .none, [.val (linD M s ws t), .val (.str κ.s), iV p]) := by
  have i2 : fIx (linD M s ws t) (.int 2) = .ok (lI ws) := rfl
  have lw : fLen [lI ws] = .ok (iV ws.length) := fLen_li
  have b := ty_is_between (i := (p : Int)) (lo := 0) (hi := (ws.length : Int) - 1 - (κ.span : Int))
  rw [decide_eq_true (show (0 : Int) ≤ p by omega), decide_eq_true (show (p : Int) ≤ (ws.length : Int) - 1 - (κ.span : Int) by omega)] at b
  apply ev_fnN
  show m_check_place [.val (linD M s ws t), .val (.str κ.s), iV p] = _
  apply ev_seq
  · decreasing_with first | (with_reducible exact ty_check_linear h)
  apply ev_seq
  · apply ev_ifF
    · apply ev_orF
      · decreasing_with fail
      · rfl
      decreasing_with first | (with_reducible exact lk_kind κ)
    · rfl
    decreasing_with fail
  apply ev_ifF
  · decreasing_with first | (with_reducible exact i2) | (with_reducible exact lw) | (with_reducible exact lk_kind κ) | (with_reducible exact b)
  · rfl
  decreasing_with fail
theorem ty_coefficient_in {M s t : Int} {ws : List Int} {κ : Kind} {p : Nat} (h : LinOk M s ws t) (hp : p + κ.span < ws.length) : F_coefficient_in [iV M, .val (lI ws), .val (.str κ.s), iV p] = .ok (iV (coefP M ws κ p), [iV M, .val (lI ws), .val (.str κ.s), iV p]) := by
  have x1 := fIx_li (xs := ws) (i := p) (by omega)
  have x2 : fIx (lI ws) (.int ((p : Int) + (κ.span : Int))) = .ok (.int (ws.getD (p + κ.span) 0)) := fIx_li (xs := ws) (i := p + κ.span) hp
  have ek := eq_kind κ
  have mo := fun x : Int => modM (x := x) h.m
  cases κ with
  | single =>
    apply ev_fn
    show m_coefficient_in [iV M, .val (lI ws), .val (.str Kind.single.s), iV p, .emp] = _
    apply ev_seqR
    apply ev_ifT
    · decreasing_with first | (with_reducible exact ek)
    · rfl
    have x1' : fIx (lI ws) (.int (p : Int)) = .ok (.int (coefP M ws .single p)) := x1
    decreasing_with first | (with_reducible exact x1')
  | swap =>
    have inn : fInD false (.str Kind.swap.s) (.list [.str "twin", .str "jumptwin"]) = .ok (.bool false) := by kernel_rfl
    have lk := lk_kind .swap
    have ad : fAdd (.int (ws.getD p 0)) (.int (0 - ws.getD (p + 1) 0)) = .ok (.int (mixI .swap (ws.getD p 0) (ws.getD (p + 1) 0))) := by
      rw [fAdd_i]; congr 2; show _ = ws.getD p 0 - ws.getD (p + 1) 0; omega
    apply ev_fn
    show m_coefficient_in [iV M, .val (lI ws), .val (.str Kind.swap.s), iV p, .emp] = _
    apply ev_seq
    · apply ev_ifF
      · decreasing_with first | (with_reducible exact ek)
      · rfl
      decreasing_with fail
    apply ev_seq
    · decreasing_with first | (with_reducible exact lk) | (with_reducible exact x2)
    have ife : mIf (mT (mOp (fInD false) (mVar 2) (mFrz (mLst (mCons (mC (.str "twin")) (mCons (mC (.str "jumptwin")) mNil)))))) (mVar 4) (mOp fSub (mC (.int 0)) (mVar 4)) [iV M, .val (lI ws), .val (.str Kind.swap.s), iV p, iV (ws.getD (p + Kind.swap.span) 0)] = .ok (.int (0 - ws.getD (p + 1) 0), [iV M, .val (lI ws), .val (.str Kind.swap.s), iV p, iV (ws.getD (p + Kind.swap.span) 0)]) := by
      apply ev_ifeF
      · decreasing_with first | (with_reducible exact inn)
      · rfl
      decreasing_with fail
    have mo' : fMod (.int (mixI .swap (ws.getD p 0) (ws.getD (p + 1) 0))) (.int M) = .ok (.int (coefP M ws .swap p)) := modM h.m
    decreasing_with first | (with_reducible exact x1) | (with_reducible exact ife) | (with_reducible exact ad) | (with_reducible exact mo')
  | jump =>
    have inn : fInD false (.str Kind.jump.s) (.list [.str "twin", .str "jumptwin"]) = .ok (.bool false) := by kernel_rfl
    have lk := lk_kind .jump
    have ad : fAdd (.int (ws.getD p 0)) (.int (0 - ws.getD (p + 2) 0)) = .ok (.int (mixI .jump (ws.getD p 0) (ws.getD (p + 2) 0))) := by
      rw [fAdd_i]; congr 2; show _ = ws.getD p 0 - ws.getD (p + 2) 0; omega
    apply ev_fn
    show m_coefficient_in [iV M, .val (lI ws), .val (.str Kind.jump.s), iV p, .emp] = _
    apply ev_seq
    · apply ev_ifF
      · decreasing_with first | (with_reducible exact ek)
      · rfl
      decreasing_with fail
    apply ev_seq
    · decreasing_with first | (with_reducible exact lk) | (with_reducible exact x2)
    have ife : mIf (mT (mOp (fInD false) (mVar 2) (mFrz (mLst (mCons (mC (.str "twin")) (mCons (mC (.str "jumptwin")) mNil)))))) (mVar 4) (mOp fSub (mC (.int 0)) (mVar 4)) [iV M, .val (lI ws), .val (.str Kind.jump.s), iV p, iV (ws.getD (p + Kind.jump.span) 0)] = .ok (.int (0 - ws.getD (p + 2) 0), [iV M, .val (lI ws), .val (.str Kind.jump.s), iV p, iV (ws.getD (p + Kind.jump.span) 0)]) := by
      apply ev_ifeF
      · decreasing_with first | (with_reducible exact inn)
      · rfl
      decreasing_with fail
    have mo' : fMod (.int (mixI .jump (ws.getD p 0) (ws.getD (p + 2) 0))) (.int M) = .ok (.int (coefP M ws .jump p)) := modM h.m
    decreasing_with first | (with_reducible exact x1) | (with_reducible exact ife) | (with_reducible exact ad) | (with_reducible exact mo')
  | twin =>
    have inn : fInD false (.str Kind.twin.s) (.list [.str "twin", .str "jumptwin"]) = .ok (.bool true) := by kernel_rfl
    have lk := lk_kind .twin
    have ad : fAdd (.int (ws.getD p 0)) (.int (ws.getD (p + 1) 0)) = .ok (.int (mixI .twin (ws.getD p 0) (ws.getD (p + 1) 0))) := fAdd_i
    apply ev_fn
    show m_coefficient_in [iV M, .val (lI ws), .val (.str Kind.twin.s), iV p, .emp] = _
    apply ev_seq
    · apply ev_ifF
      · decreasing_with first | (with_reducible exact ek)
      · rfl
      decreasing_with fail
    apply ev_seq
    · decreasing_with first | (with_reducible exact lk) | (with_reducible exact x2)
    have ife : mIf (mT (mOp (fInD false) (mVar 2) (mFrz (mLst (mCons (mC (.str "twin")) (mCons (mC (.str "jumptwin")) mNil)))))) (mVar 4) (mOp fSub (mC (.int 0)) (mVar 4)) [iV M, .val (lI ws), .val (.str Kind.twin.s), iV p, iV (ws.getD (p + Kind.twin.span) 0)] = .ok (.int (ws.getD (p + 1) 0), [iV M, .val (lI ws), .val (.str Kind.twin.s), iV p, iV (ws.getD (p + Kind.twin.span) 0)]) := by
      apply ev_ifeT
      · decreasing_with first | (with_reducible exact inn)
      · rfl
      decreasing_with fail
    have mo' : fMod (.int (mixI .twin (ws.getD p 0) (ws.getD (p + 1) 0))) (.int M) = .ok (.int (coefP M ws .twin p)) := modM h.m
    decreasing_with first | (with_reducible exact x1) | (with_reducible exact ife) | (with_reducible exact ad) | (with_reducible exact mo')
  | jumptwin =>
    have inn : fInD false (.str Kind.jumptwin.s) (.list [.str "twin", .str "jumptwin"]) = .ok (.bool true) := by kernel_rfl
    have lk := lk_kind .jumptwin
    have ad : fAdd (.int (ws.getD p 0)) (.int (ws.getD (p + 2) 0)) = .ok (.int (mixI .jumptwin (ws.getD p 0) (ws.getD (p + 2) 0))) := fAdd_i
    apply ev_fn
    show m_coefficient_in [iV M, .val (lI ws), .val (.str Kind.jumptwin.s), iV p, .emp] = _
    apply ev_seq
    · apply ev_ifF
      · decreasing_with first | (with_reducible exact ek)
      · rfl
      decreasing_with fail
    apply ev_seq
    · decreasing_with first | (with_reducible exact lk) | (with_reducible exact x2)
    have ife : mIf (mT (mOp (fInD false) (mVar 2) (mFrz (mLst (mCons (mC (.str "twin")) (mCons (mC (.str "jumptwin")) mNil)))))) (mVar 4) (mOp fSub (mC (.int 0)) (mVar 4)) [iV M, .val (lI ws), .val (.str Kind.jumptwin.s), iV p, iV (ws.getD (p + Kind.jumptwin.span) 0)] = .ok (.int (ws.getD (p + 2) 0), [iV M, .val (lI ws), .val (.str Kind.jumptwin.s), iV p, iV (ws.getD (p + Kind.jumptwin.span) 0)]) := by
      apply ev_ifeT
      · decreasing_with first | (with_reducible exact inn)
      · rfl
      decreasing_with fail
    have mo' : fMod (.int (mixI .jumptwin (ws.getD p 0) (ws.getD (p + 2) 0))) (.int M) = .ok (.int (coefP M ws .jumptwin p)) := modM h.m
    decreasing_with first | (with_reducible exact x1) | (with_reducible exact ife) | (with_reducible exact ad) | (with_reducible exact mo')
theorem ty_coefficient {M s t : Int} {ws : List Int} {κ : Kind} {p : Nat} (h : LinOk M s ws t) (hp : p + κ.span < ws.length) : F_coefficient [.val (linD M s ws t), .val (.str κ.s), iV p] = .ok (iV (coefP M ws κ p), [.val (linD M s ws t), .val (.str κ.s), iV p]) := by
  have i0 : fIx (linD M s ws t) (.int 0) = .ok (.int M) := rfl
  have i2 : fIx (linD M s ws t) (.int 2) = .ok (lI ws) := rfl
  apply ev_fn
  show m_coefficient [.val (linD M s ws t), .val (.str κ.s), iV p] = _
  apply ev_seq
  · decreasing_with first | (with_reducible exact ty_check_place h hp)
  decreasing_with first | (with_reducible exact i0) | (with_reducible exact i2) | (with_reducible exact ty_coefficient_in h hp)
theorem ty_divisor_of {a b : Nat} : F_divisor_of [iV a, iV b] = .ok (iV (Nat.gcd a b : Nat), [iV a, iV b]) := by
  obtain ⟨n, e⟩ := gcd_loop (c := wc_divisor_of_0) (w := wb_divisor_of_0) (fun a b => [iV a, iV b]) (fun a => by
    show wc_divisor_of_0 [iV a, iV 0] = _
    decreasing_with fail) (fun a b hb => by
    have t : mT (mOp fNe (mVar 1) (mC (.int 0))) [iV (a : Int), iV (b : Int)] = .ok (((b : Int) != 0), [iV (a : Int), iV (b : Int)]) := by decreasing_with fail
    show mT (mOp fNe (mVar 1) (mC (.int 0))) [iV (a : Int), iV (b : Int)] = _
    rw [t, show ((b : Int) != 0) = true from bne_iff_ne.mpr (by omega)]) (fun a b hb => by
    show wb_divisor_of_0 [iV (a : Int), iV (b : Int)] = _
    decreasing_with fail) b a
  have w := mWhile_of e
  refine ev_fn (δ1 := [iV (Nat.gcd a b : Nat), iV 0]) ?_ rfl
  show m_divisor_of [iV a, iV b] = _
  apply ev_seq
  · exact w
  decreasing_with fail
theorem ty_divI {M x : Int} (hM : 0 ≤ M) (h0 : 0 ≤ x) : F_divisor_of [iV M, iV x] = .ok (iV (gN M x : Nat), [iV M, iV x]) := by
  have z := ty_divisor_of (a := M.toNat) (b := x.toNat)
  rw [gN_nat hM h0, show ((M.toNat : Nat) : Int) = M by omega, show ((x.toNat : Nat) : Int) = x by omega] at z
  exact z
theorem ty_divM {M : Int} (h : ModOk M) (x : Int) : F_divisor_of [iV M, iV (x % M)] = .ok (iV (gN M x : Nat), [iV M, iV (x % M)]) := by
  have lo := h.lo
  have z := ty_divI (M := M) (x := x % M) (by omega) (Int.emod_nonneg _ (by omega))
  rwa [gN_mod] at z
theorem coefP_range {M s t : Int} {ws : List Int} {κ : Kind} {p : Nat} (h : LinOk M s ws t) (hp : p + κ.span < ws.length) : 0 ≤ coefP M ws κ p := by
  have lo := h.m.lo
  have e0 : 0 ≤ ws.getD p 0 := by
    have z := h.at_ (ws.getD p 0) (by rw [List.getD_eq_getElem?_getD, List.getElem?_eq_getElem (show p < ws.length by omega)]; exact List.getElem_mem _)
    omega
  cases κ <;> first | exact e0 | exact Int.emod_nonneg _ (by omega)
theorem ty_step_in {M s t : Int} {ws : List Int} {κ : Kind} {p : Nat} (h : LinOk M s ws t) (hp : p + κ.span < ws.length) : F_step_in [.val (linD M s ws t), .val (.str κ.s), iV p] = .ok (iV (stN M (coefP M ws κ p)), [.val (linD M s ws t), .val (.str κ.s), iV p]) := by
  have lo := h.m.lo
  have i0 : fIx (linD M s ws t) (.int 0) = .ok (.int M) := rfl
  have i2 : fIx (linD M s ws t) (.int 2) = .ok (lI ws) := rfl
  have co := ty_coefficient_in h hp
  have dv := ty_divI (M := M) (x := coefP M ws κ p) (by omega) (coefP_range h hp)
  have di := divM h.m (coefP M ws κ p)
  apply ev_fn
  show m_step_in [.val (linD M s ws t), .val (.str κ.s), iV p] = _
  decreasing_with first | (with_reducible exact i0) | (with_reducible exact i2) | (with_reducible exact co) | (with_reducible exact dv) | (with_reducible exact di)
theorem ty_step_of {M s t : Int} {ws : List Int} {κ : Kind} {p : Nat} (h : LinOk M s ws t) (hp : p + κ.span < ws.length) : F_step_of [.val (linD M s ws t), .val (.str κ.s), iV p] = .ok (iV (stN M (coefP M ws κ p)), [.val (linD M s ws t), .val (.str κ.s), iV p]) := by
  apply ev_fn
  show m_step_of [.val (linD M s ws t), .val (.str κ.s), iV p] = _
  apply ev_seq
  · decreasing_with first | (with_reducible exact ty_check_place h hp)
  decreasing_with first | (with_reducible exact ty_step_in h hp)
theorem ty__law_same {d : PyData} {z : Str} (h : fRepr [d] = .ok (.val (.str z))) : F__law_same [.val d, .val d] = .ok (.val (.bool true), [.val d, .val d]) := by
  apply ev_fn
  show m__law_same [.val d, .val d] = _
  decreasing_with first | (with_reducible exact h) | (with_reducible exact fEq_str)
def cntI (s g : Int) : Int := (s - 1) / g * s - g * ((s - 1) / g) * ((s - 1) / g + 1) / 2
theorem ty_count_in {s g : Int} (s0 : 1 ≤ s) (s1 : s ≤ 100) (g0 : 1 ≤ g) (g1 : g ≤ 100) : F_count_in [iV s, iV g] = .ok (iV (cntI s g), [iV s, iV g]) := by
  have q0 : 0 ≤ (s - 1) / g := Int.ediv_nonneg (by omega) (by omega)
  have q1 : (s - 1) / g ≤ 100 := Int.le_trans (Int.ediv_le_self g (by omega)) (by omega)
  have d1 : fDiv (.int (s - 1)) (.int g) = .ok (.int ((s - 1) / g)) := fDiv_s (by omega) (by omega)
  have m1 : fMulI (.int ((s - 1) / g)) (.int s) = .ok (.int ((s - 1) / g * s)) := fMulI_ok (by omega)
  have m2 : fMulI (.int g) (.int ((s - 1) / g)) = .ok (.int (g * ((s - 1) / g))) := fMulI_ok (by omega)
  have m3 : fMulI (.int (g * ((s - 1) / g))) (.int ((s - 1) / g + 1)) = .ok (.int (g * ((s - 1) / g) * ((s - 1) / g + 1))) := fMulI_ok (.inr (by omega))
  have d2 : fDiv (.int (g * ((s - 1) / g) * ((s - 1) / g + 1))) (.int 2) = .ok (.int (g * ((s - 1) / g) * ((s - 1) / g + 1) / 2)) := fDiv_s (by omega) (by omega)
  unfold cntI
  generalize (s - 1) / g = q at *
  apply ev_fn
  show m_count_in [iV s, iV g, .emp] = _
  apply ev_seq
  · decreasing_with first | (with_reducible exact d1)
  decreasing_with first | (with_reducible exact m1) | (with_reducible exact m2) | (with_reducible exact m3) | (with_reducible exact d2)
/-- a loop that puts things behind a list -/
theorem forL_app {α β : Type} {g : PyData → Ev → Res Ev} {b : MS} (enc : α → PyData) (f : α → List β) (B : Nat) (R : List β → Ev → Prop) : ∀ (xs : List α) {acc : List β} {δ : Ev}, acc.length + (xs.flatMap f).length ≤ B → R acc δ →
    (∀ a ∈ xs, ∀ acc δ, acc.length + (f a).length ≤ B → R acc δ → ∃ δ1 δ2, g (enc a) δ = .ok δ1 ∧ b δ1 = .ok (.nx, δ2) ∧ R (acc ++ f a) δ2) → ∃ δ', forL g b (xs.map enc) δ = .ok (.nx, δ') ∧ R (acc ++ xs.flatMap f) δ'
  | [], acc, δ, _, r, _ => ⟨δ, rfl, by rw [List.flatMap_nil, List.append_nil]; exact r⟩
  | a :: xs, acc, δ, hl, r, h => by
    rw [List.flatMap_cons, List.length_append] at hl
    obtain ⟨δ1, δ2, e1, e2, r2⟩ := h a (List.mem_cons_self ..) acc δ (by omega) r
    obtain ⟨δ', e3, r3⟩ := forL_app enc f B R xs (acc := acc ++ f a) (δ := δ2) (by rw [List.length_append]; omega) r2 fun x hx => h x (List.mem_cons_of_mem _ hx)
    refine ⟨δ', by rw [List.map_cons, forL_cons e1 e2, e3], ?_⟩
    rw [List.flatMap_cons, ← List.append_assoc]
    exact r3
theorem flatMap_le {α β : Type} {f : α → List β} {m : Nat} : ∀ {xs : List α}, (∀ x ∈ xs, (f x).length ≤ m) → (xs.flatMap f).length ≤ xs.length * m
  | [], _ => by simp
  | x :: xs, h => by
    have a := flatMap_le (xs := xs) fun y hy => h y (List.mem_cons_of_mem _ hy)
    have b := h x (List.mem_cons_self ..)
    rw [List.flatMap_cons, List.length_append, List.length_cons, Nat.add_mul]
    omega
/-! pairs of signs that differ by a multiple of a step -/
def upP (s g : Int) (low : Nat) : List (Int × Int) := (List.range ((s - 1 - (low : Int)) / g).toNat).map fun i : Nat => ((low : Int), (low : Int) + g + (i : Int) * g)
def prP (s g : Int) : List (Int × Int) := (List.range (s - g).toNat).flatMap (upP s g)
abbrev ppD (p : Int × Int) : PyData := .tuple [.int p.1, .int p.2]
theorem upP_len (s g : Int) (low : Nat) : (upP s g low).length = ((s - 1 - (low : Int)) / g).toNat := by unfold upP; simp
def sumQ (s g : Nat) : Nat := ((List.range (s - g)).map fun low => (s - 1 - low) / g).sum
theorem sumQ_succ (s g : Nat) (hg : 0 < g) : sumQ (s + 1) g = sumQ s g + s / g := by
  unfold sumQ
  by_cases h : g ≤ s
  · rw [show s + 1 - g = (s - g) + 1 by omega, List.range_succ_eq_map, List.map_cons, List.map_map, List.sum_cons]
    have e : ((fun low => (s + 1 - 1 - low) / g) ∘ Nat.succ) = fun low => (s - 1 - low) / g := by
      funext low
      show (s + 1 - 1 - (low + 1)) / g = _
      rw [show s + 1 - 1 - (low + 1) = s - 1 - low by omega]
    rw [e]
    simp
    omega
  · rw [show s + 1 - g = 0 by omega, show s - g = 0 by omega, Nat.div_eq_of_lt (by omega)]
    simp
theorem sumQ_eq (g : Nat) (hg : 0 < g) : ∀ s : Nat, 2 * sumQ (s + 1) g + g * (s / g) * (s / g + 1) = 2 * (s / g) * (s + 1)
  | 0 => by
    have z : sumQ 1 g = 0 := by unfold sumQ; rw [show 1 - g = 0 by omega]; rfl
    rw [show 0 + 1 = 1 from rfl, z]; simp
  | s + 1 => by
    have ih := sumQ_eq g hg s
    rw [sumQ_succ _ _ hg]
    by_cases d : g ∣ s + 1
    · rw [Nat.succ_div_of_dvd d]
      have m : g * (s / g + 1) = s + 1 := by
        rw [← Nat.succ_div_of_dvd d]
        exact Nat.mul_div_cancel' d
      generalize sumQ (s + 1) g = f at *
      generalize s / g = q at *
      grind
    · rw [Nat.succ_div_of_not_dvd d]
      generalize sumQ (s + 1) g = f at *
      generalize s / g = q at *
      grind
theorem prP_nat {s g : Nat} : (prP (s : Int) (g : Int)).length = sumQ s g := by
  unfold prP sumQ
  rw [List.length_flatMap]
  rw [show ((s : Int) - (g : Int)).toNat = s - g by omega]
  congr 1
  apply List.map_congr_left
  intro low hl
  have := List.mem_range.mp hl
  rw [upP_len]
  rw [show (s : Int) - 1 - (low : Int) = ((s - 1 - low : Nat) : Int) by omega]
  exact Int.toNat_natCast _
theorem prP_len {s g : Int} (h0 : 1 ≤ s) (h1 : 1 ≤ g) : ((prP s g).length : Int) = cntI s g := by
  obtain ⟨n, rfl⟩ : ∃ n : Nat, s = ((n + 1 : Nat) : Int) := ⟨(s - 1).toNat, by omega⟩
  obtain ⟨k, rfl⟩ : ∃ k : Nat, g = (k : Int) := ⟨g.toNat, by omega⟩
  rw [prP_nat]
  have e := sumQ_eq k (by omega) n
  unfold cntI
  rw [show ((n + 1 : Nat) : Int) - 1 = (n : Int) by omega, show (n : Int) / (k : Int) = ((n / k : Nat) : Int) from rfl]
  generalize n / k = q at *
  generalize sumQ (n + 1) k = f at *
  have e' : 2 * (f : Int) + (k : Int) * q * ((q : Int) + 1) = 2 * ((q : Int) * ((n + 1 : Nat) : Int)) := by
    have := congrArg (fun z : Nat => (z : Int)) e
    simp only [Int.natCast_add, Int.natCast_mul] at this
    rw [Int.natCast_add]
    generalize (n : Int) = a at *
    generalize (k : Int) = b at *
    generalize (q : Int) = c at *
    generalize (f : Int) = d at *
    grind
  generalize (k : Int) * q * ((q : Int) + 1) = X at *
  generalize (q : Int) * ((n + 1 : Nat) : Int) = Y at *
  omega
theorem cnt_nn {s g : Int} (h0 : 1 ≤ s) (h1 : 1 ≤ g) : 0 ≤ cntI s g := by have := prP_len h0 h1; omega
theorem flatMap_ge {α β : Type} {f : α → List β} : ∀ {xs : List α}, (∀ x ∈ xs, 1 ≤ (f x).length) → xs.length ≤ (xs.flatMap f).length
  | [], _ => by simp
  | x :: xs, h => by
    have a := flatMap_ge (xs := xs) fun y hy => h y (List.mem_cons_of_mem _ hy)
    have b := h x (List.mem_cons_self ..)
    rw [List.flatMap_cons, List.length_append, List.length_cons]
    omega
theorem prP_few {s g : Int} (h1 : 1 ≤ g) : (s - g).toNat ≤ (prP s g).length := by
  have z := flatMap_ge (f := upP s g) (xs := List.range (s - g).toNat) (fun low hl => by
    have := List.mem_range.mp hl
    rw [upP_len]
    have : 1 ≤ (s - 1 - (low : Int)) / g := Int.le_ediv_of_mul_le (by omega) (by omega)
    omega)
  rwa [List.length_range] at z
theorem upP_le {s g : Int} {low : Nat} (hl : low < (s - g).toNat) : (upP s g low).length ≤ (prP s g).length := by
  unfold prP
  obtain ⟨a, b, e⟩ := List.append_of_mem (List.mem_range.mpr hl)
  rw [e, List.flatMap_append, List.flatMap_cons, List.length_append, List.length_append]
  omega
theorem q_range {s g : Int} (s0 : 1 ≤ s) (g0 : 1 ≤ g) : 0 ≤ (s - 1) / g ∧ (s - 1) / g ≤ s - 1 ∧ 0 ≤ g * ((s - 1) / g) ∧ g * ((s - 1) / g) ≤ s - 1 := by
  have q0 : 0 ≤ (s - 1) / g := Int.ediv_nonneg (by omega) (by omega)
  have q1 : (s - 1) / g ≤ s - 1 := Int.ediv_le_self g (by omega)
  have q2 : g * ((s - 1) / g) ≤ s - 1 := Int.mul_ediv_self_le (by omega)
  exact ⟨q0, q1, Int.mul_nonneg (by omega) q0, q2⟩
theorem ty_count_big {M s g : Int} (h : ModOk M) (s0 : 1 ≤ s) (s1 : s ≤ M) (g0 : 1 ≤ g) (g1 : g ≤ M) : F_count_in [iV s, iV g] = .ok (iV (cntI s g), [iV s, iV g]) := by
  have ⟨q0, q1, p0, p1⟩ := q_range s0 g0
  have hi := h.hi
  have d1 : fDiv (.int (s - 1)) (.int g) = .ok (.int ((s - 1) / g)) := fDiv_ok (by omega) (Nat.lt_trans (log_lt (j := g) (n := 100) (by omega) (by rw [show ((2 ^ 100 : Nat) : Int) = 1267650600228229401496703205376 by decide]; omega) (by omega)) (by omega))
  have m1 : fMulI (.int ((s - 1) / g)) (.int s) = .ok (.int ((s - 1) / g * s)) := mulM h q0 (by omega) (by omega) s1
  have m2 : fMulI (.int g) (.int ((s - 1) / g)) = .ok (.int (g * ((s - 1) / g))) := mulM h (by omega) g1 q0 (by omega)
  have m3 : fMulI (.int (g * ((s - 1) / g))) (.int ((s - 1) / g + 1)) = .ok (.int (g * ((s - 1) / g) * ((s - 1) / g + 1))) := mulM h p0 (by omega) (by omega) (by omega)
  have d2 : fDiv (.int (g * ((s - 1) / g) * ((s - 1) / g + 1))) (.int 2) = .ok (.int (g * ((s - 1) / g) * ((s - 1) / g + 1) / 2)) := fDiv_s (by omega) (by omega)
  unfold cntI
  generalize (s - 1) / g = q at *
  apply ev_fn
  show m_count_in [iV s, iV g, .emp] = _
  apply ev_seq
  · decreasing_with first | (with_reducible exact d1)
  decreasing_with first | (with_reducible exact m1) | (with_reducible exact m2) | (with_reducible exact m3) | (with_reducible exact d2)
/-- the law's sum of the pairs -/
def dueL (s g : Int) (n : Nat) : List Int := (List.range n).map fun t : Nat => s - g * ((t : Int) + 1)
theorem due_sum (s g : Int) : ∀ n : Nat, 2 * (dueL s g n).sum + g * (n : Int) * ((n : Int) + 1) = 2 * ((n : Int) * s)
  | 0 => by simp [dueL]
  | n + 1 => by
    have ih := due_sum s g n
    have e : (dueL s g (n + 1)).sum = (dueL s g n).sum + (s - g * ((n : Int) + 1)) := by
      unfold dueL
      rw [List.range_succ, List.map_append, List.sum_append]
      simp
    rw [e, Int.natCast_add]
    generalize (dueL s g n).sum = S at *
    generalize (n : Int) = m at *
    simp only [Int.natCast_one]
    grind
theorem due_cnt {s g : Int} {n : Nat} (hn : (s - 1) / g = (n : Int)) : (dueL s g n).sum = cntI s g := by
  have e := due_sum s g n
  unfold cntI
  rw [hn]
  generalize (dueL s g n).sum = S at *
  generalize g * (n : Int) * ((n : Int) + 1) = X at *
  generalize (n : Int) * s = Y at *
  omega
theorem due_alt {s g q : Int} (hn : (s - 1) / g = q) : q * s - g * (q * (q + 1) / 2) = cntI s g := by
  unfold cntI
  rw [hn]
  have e : ∃ T, q * (q + 1) = 2 * T := by
    by_cases z : q % 2 = 0
    · refine ⟨q / 2 * (q + 1), ?_⟩
      have y : q = 2 * (q / 2) := by omega
      generalize q / 2 = k at *
      subst y
      grind
    · refine ⟨q * ((q + 1) / 2), ?_⟩
      have y : q + 1 = 2 * ((q + 1) / 2) := by omega
      generalize (q + 1) / 2 = k at *
      rw [y]
      grind
  obtain ⟨T, e⟩ := e
  have e2 : g * q * (q + 1) = 2 * (g * T) := by rw [Int.mul_assoc, e]; grind
  rw [e, e2]
  rw [Int.mul_ediv_cancel_left _ (by decide), Int.mul_ediv_cancel_left _ (by decide)]
theorem st34 {M : Int} (h : ModOk M) (x : Int) : 1 ≤ stN M x ∧ stN M x ≤ M := by
  have lo := h.lo
  have g0 := gN_pos (M := M) (by omega) x
  have g1 := gN_le (M := M) (by omega) x
  unfold stN
  exact ⟨Int.le_ediv_of_mul_le (by omega) (by omega), Int.ediv_le_self _ (by omega)⟩
/-! texts of wide pairs -/
theorem wide_int {i : Int} (h : i.natAbs < 10 ^ 70) : (PyData.int i).leavesShort 100 = true ∧ (PyData.int i).showable = true := by
  have e := int_text_length_le10 (a := i) (k := 70) (by decide) h
  have e2 : (PyData.shown (.int i)).length = (toString i).length := by simp only [PyData.shown]; exact PySem.ofString_length _
  have lg : i.natAbs.log2 < 1920 := by
    by_cases z : i.natAbs = 0
    · rw [z]; decide
    · exact Nat.lt_trans (show i.natAbs.log2 < 240 from (Nat.log2_lt z).mpr (Nat.lt_of_lt_of_le h (by decide))) (by decide)
  exact ⟨by simp only [PyData.leavesShort]; exact decide_eq_true (by omega), by simp only [PyData.showable]; exact decide_eq_true lg⟩
theorem wide_prs : ∀ {ps : List (Int × Int)}, (∀ p ∈ ps, p.1.natAbs < 10 ^ 70 ∧ p.2.natAbs < 10 ^ 70) → PyData.leavesShortAll 100 (ps.map ppD) = true ∧ PyData.showableAll (ps.map ppD) = true ∧ PyData.bulkAll (ps.map ppD) ≤ 3 * ps.length ∧ PyData.depthAll (ps.map ppD) ≤ 1 ∧ PyData.hasDictAll (ps.map ppD) = false
  | [], _ => by simp [PyData.leavesShortAll, PyData.showableAll, PyData.bulkAll, PyData.depthAll, PyData.hasDictAll]
  | p :: ps, h => by
    have ⟨a, b, c, d, e⟩ := wide_prs (ps := ps) fun x hx => h x (List.mem_cons_of_mem _ hx)
    have ⟨u, v⟩ := h p (List.mem_cons_self ..)
    have ⟨a1, a2⟩ := wide_int u
    have ⟨b1, b2⟩ := wide_int v
    refine ⟨?_, ?_, ?_, ?_, ?_⟩
    · simp [PyData.leavesShort, PyData.leavesShortAll] at *; simp [a1, b1, a]
    · simp [PyData.showable, PyData.showableAll] at *; simp [a2, b2, b]
    · simp [PyData.bulk, PyData.bulkAll] at *; omega
    · simp [PyData.depth, PyData.depthAll] at *; omega
    · simp [PyData.hasDict, PyData.hasDictAll] at *; exact e
theorem rep_prs {ps : List (Int × Int)} (hl : ps.length ≤ 2000) (h : ∀ p ∈ ps, p.1.natAbs < 10 ^ 70 ∧ p.2.natAbs < 10 ^ 70) : ∃ z, fRepr [.list (ps.map ppD)] = .ok (.val (.str z)) := by
  have ⟨a, b, c, d, e⟩ := wide_prs h
  have ls : (PyData.list (ps.map ppD)).leavesShort 100 = true := by simpa [PyData.leavesShort] using a
  have sw : (PyData.list (ps.map ppD)).showable = true := by simpa [PyData.showable] using b
  have nd : (PyData.list (ps.map ppD)).hasDict = false := by simpa [PyData.hasDict] using e
  have z := PyData.shown_le_bulk 100 (by decide) _ ls
  have bk : (PyData.list (ps.map ppD)).bulk ≤ 6010 := by simp [PyData.bulk]; omega
  have dp : (PyData.list (ps.map ppD)).depth ≤ 60 := by simp [PyData.depth]; omega
  exact ⟨_, fRepr_go sw nd dp (by rw [sizeLine_eq]; omega)⟩
theorem mem_prP {s g : Int} (g1 : 1 ≤ g) {p : Int × Int} (h : p ∈ prP s g) : 0 ≤ p.1 ∧ p.1 < p.2 ∧ p.2 < s := by
  unfold prP at h
  obtain ⟨low, hl, hp⟩ := List.mem_flatMap.mp h
  have hl' := List.mem_range.mp hl
  unfold upP at hp
  obtain ⟨i, hi, rfl⟩ := List.mem_map.mp hp
  have hi' := List.mem_range.mp hi
  have e : ((i : Int) + 1) * g ≤ s - 1 - (low : Int) := by
    have a : (i : Int) + 1 ≤ (s - 1 - (low : Int)) / g := by omega
    have b : ((i : Int) + 1) * g ≤ (s - 1 - (low : Int)) / g * g := Int.mul_le_mul_of_nonneg_right a (by omega)
    have c : (s - 1 - (low : Int)) / g * g ≤ s - 1 - (low : Int) := Int.ediv_mul_le _ (by omega)
    omega
  have e2 : ((i : Int) + 1) * g = (i : Int) * g + g := by rw [Int.add_mul, Int.one_mul]
  have e3 : 0 ≤ (i : Int) * g := Int.mul_nonneg (by omega) (by omega)
  show 0 ≤ (low : Int) ∧ (low : Int) < (low : Int) + g + (i : Int) * g ∧ (low : Int) + g + (i : Int) * g < s
  omega
theorem rep_prP {M s g : Int} (h : ModOk M) (s1 : s ≤ M) (g1 : 1 ≤ g) (hl : (prP s g).length ≤ 2000) : ∃ z, fRepr [.list ((prP s g).map ppD)] = .ok (.val (.str z)) :=
  rep_prs hl fun p hp => by
    have ⟨a, b, c⟩ := mem_prP g1 hp
    exact ⟨Nat.lt_trans (below100 h a (by omega)) (by decide), Nat.lt_trans (below100 h (by omega) (by omega)) (by decide)⟩
theorem rep_two {a b : Int} (ha : a.natAbs < 10 ^ 70) (hb : b.natAbs < 10 ^ 70) : ∃ z, fRepr [.list [.int a, .int b]] = .ok (.val (.str z)) := by
  have ⟨a1, a2⟩ := wide_int ha
  have ⟨b1, b2⟩ := wide_int hb
  have ls : (PyData.list [.int a, .int b]).leavesShort 100 = true := by simp only [PyData.leavesShort, PyData.leavesShortAll] at *; simp [a1, b1]
  have sw : (PyData.list [.int a, .int b]).showable = true := by simp only [PyData.showable, PyData.showableAll] at *; simp [a2, b2]
  have z := PyData.shown_le_bulk 100 (by decide) _ ls
  exact ⟨_, fRepr_go sw (by simp [PyData.hasDict, PyData.hasDictAll]) (by simp [PyData.depth, PyData.depthAll]) (by rw [sizeLine_eq]; simp [PyData.bulk, PyData.bulkAll] at z; omega)⟩
theorem rep_one {a : Int} (ha : a.natAbs < 10 ^ 70) : ∃ z, fRepr [.int a] = .ok (.val (.str z)) := by
  have ⟨a1, a2⟩ := wide_int ha
  have z := PyData.shown_le_bulk 100 (by decide) _ a1
  exact ⟨_, fRepr_go a2 (by simp [PyData.hasDict]) (by simp [PyData.depth]) (by rw [sizeLine_eq]; simp [PyData.bulk] at z; omega)⟩
theorem rng34 {s g : Int} {low : Nat} (g1 : 1 ≤ g) (hl : low < (s - g).toNat) : Builtin.Range.rangeSize ((low : Int) + g) s g = ((s - 1 - (low : Int)) / g) := by
  unfold Builtin.Range.rangeSize
  rw [if_pos (show g > 0 by omega), if_pos (show (low : Int) + g < s by omega)]
  rw [show s - ((low : Int) + g) - 1 = (s - 1 - (low : Int)) + (-1) * g by omega, Int.add_mul_ediv_right _ _ (by omega)]
  omega
theorem rngL34 {M s g : Int} {low : Nat} (h : ModOk M) (g1 : 1 ≤ g) (g2 : g ≤ M) (hl : low < (s - g).toNat) : ((g ≠ 0 ∧ g.natAbs.log2 < 9000) ∧ Builtin.Range.rangeSize ((low : Int) + g) s g = ((Builtin.Range.rangeSize ((low : Int) + g) s g).toNat : Nat)) ∧ (Builtin.Range.rangeSize ((low : Int) + g) s g).toNat = (upP s g low).length := by
  have hi := h.hi
  rw [rng34 g1 hl, upP_len]
  have nn : 0 ≤ (s - 1 - (low : Int)) / g := Int.ediv_nonneg (by omega) (by omega)
  exact ⟨⟨⟨by omega, Nat.lt_trans (log_lt (j := g) (n := 100) (by omega) (by rw [show ((2 ^ 100 : Nat) : Int) = 1267650600228229401496703205376 by decide]; omega) (by omega)) (by omega)⟩, by omega⟩, rfl⟩
theorem upP_enc {s g : Int} {low n : Nat} (hn : (upP s g low).length = n) : ((List.range n).map fun i : Nat => ppD ((low : Int), (low : Int) + g + (i : Int) * g)) = (upP s g low).map ppD := by
  subst hn
  rw [upP_len]
  unfold upP
  rw [List.map_map]
  rfl
theorem addN34 {xs ys : List PyData} (h : xs.length + ys.length ≤ 16777216) : fAddN (.list xs) (.list ys) = .ok (.own (xs ++ ys)) := by
  unfold fAddN
  simp only []
  exact if_pos h
theorem max34 (x : Int) : fMax2 [.int x, .int 0] = .ok (.val (.int ((x.toNat : Nat) : Int))) := by
  show Res.ok (Sl.val (.int (if 0 > x then 0 else x))) = _
  split
  · rw [show x.toNat = 0 by omega]; rfl
  · rw [show ((x.toNat : Nat) : Int) = x by omega]
theorem ty_how_many_by {M s t : Int} {ws : List Int} {κ : Kind} {p : Nat} (h : LinOk M s ws t) (hM : M ≤ 100) (hp : p + κ.span < ws.length) : F_how_many_by [.val (linD M s ws t), .val (.str κ.s), iV p] = .ok (iV (cntI s (stN M (coefP M ws κ p))), [.val (linD M s ws t), .val (.str κ.s), iV p]) := by
  have lo := h.m.lo
  have s0 := h.s0
  have s1 := h.s1
  have i1 : fIx (linD M s ws t) (.int 1) = .ok (.int s) := rfl
  have g0 := gN_pos (M := M) (by omega) (coefP M ws κ p)
  have g1 := gN_le (M := M) (by omega) (coefP M ws κ p)
  have st1 : 1 ≤ stN M (coefP M ws κ p) := by
    unfold stN
    exact Int.le_ediv_of_mul_le (by omega) (by omega)
  have st2 : stN M (coefP M ws κ p) ≤ M := Int.ediv_le_self _ (by omega)
  have ci := ty_count_in (s := s) (g := stN M (coefP M ws κ p)) (by omega) (by omega) st1 (by omega)
  have si := ty_step_in h hp
  generalize stN M (coefP M ws κ p) = S at *
  apply ev_fn
  show m_how_many_by [.val (linD M s ws t), .val (.str κ.s), iV p] = _
  apply ev_seq
  · decreasing_with first | (with_reducible exact ty_check_place h hp)
  decreasing_with first | (with_reducible exact i1) | (with_reducible exact si) | (with_reducible exact ci)
abbrev ctP (M s : Int) (ws : List Int) (κ : Kind) (p : Nat) : Int := cntI s (stN M (coefP M ws κ p))
theorem ty_how_many_big {M s t : Int} {ws : List Int} {κ : Kind} {p : Nat} (h : LinOk M s ws t) (hp : p + κ.span < ws.length) : F_how_many_by [.val (linD M s ws t), .val (.str κ.s), iV p] = .ok (iV (ctP M s ws κ p), [.val (linD M s ws t), .val (.str κ.s), iV p]) := by
  have s0 := h.s0
  have s1 := h.s1
  have i1 : fIx (linD M s ws t) (.int 1) = .ok (.int s) := rfl
  have ⟨g0, g1⟩ := st34 h.m (coefP M ws κ p)
  have ci := ty_count_big (s := s) h.m (by omega) s1 g0 g1
  have si := ty_step_in h hp
  unfold ctP
  generalize stN M (coefP M ws κ p) = S at *
  apply ev_fn
  show m_how_many_by [.val (linD M s ws t), .val (.str κ.s), iV p] = _
  apply ev_seq
  · decreasing_with first | (with_reducible exact ty_check_place h hp)
  decreasing_with first | (with_reducible exact i1) | (with_reducible exact si) | (with_reducible exact ci)
theorem pb_turn {L : Sl} {K : Sl} {P : Sl} {M s g c : Int} {low : Nat} {acc : List (Int × Int)} (h : ModOk M) (g1 : 1 ≤ g) (g2 : g ≤ M) (hl : low < (s - g).toNat) (hb : acc.length + (upP s g low).length ≤ 2000) :
    b_pairs_by_0 [L, K, P, iV s, iV g, iV c, .own (acc.map ppD), iV (low : Int), .emp] = .ok (.nx, [L, K, P, iV s, iV g, iV c, .own ((acc ++ upP s g low).map ppD), iV (low : Int), .emp]) := by
  have ⟨r1, r2⟩ := rngL34 h g1 g2 hl
  have en := upP_enc (s := s) (g := g) (low := low) rfl
  rw [List.map_append]
  have lb : (acc.map ppD).length + ((upP s g low).map ppD).length ≤ 16777216 := by rw [List.length_map, List.length_map]; omega
  have ad := addN34 lb
  have lc := lcL_all (g := cg_pairs_by_0) (te := ce_pairs_by_0) (vs := [8]) (fun i : Nat => PyData.int ((low : Int) + g + (i : Int) * g)) (fun i : Nat => ppD ((low : Int), (low : Int) + g + (i : Int) * g)) [L, K, P, iV s, iV g, iV c, .val (.list (acc.map ppD)), iV (low : Int), .emp] (List.range (upP s g low).length) (by rw [sizeLine_eq, List.length_range]; omega) (by
    intro i hi
    refine ⟨[L, K, P, iV s, iV g, iV c, .val (.list (acc.map ppD)), iV (low : Int), iV ((low : Int) + g + (i : Int) * g)], rfl, ?_, rfl⟩
    show ce_pairs_by_0 [L, K, P, iV s, iV g, iV c, .val (.list (acc.map ppD)), iV (low : Int), iV ((low : Int) + g + (i : Int) * g)] = _
    decreasing_with fail)
  rw [en] at lc
  replace lc : lcL cg_pairs_by_0 ct_pairs_by_0 ce_pairs_by_0 [8] (rngC ((low : Int) + g) g (upP s g low).length) [] [L, K, P, iV s, iV g, iV c, .val (.list (acc.map ppD)), iV (low : Int), .emp] = .ok ((upP s g low).map ppD, [L, K, P, iV s, iV g, iV c, .val (.list (acc.map ppD)), iV (low : Int), .emp]) := lc
  have it : mRngL (mCons (mOp fAdd (mVar 7) (mVar 4)) (mCons (mVar 3) (mCons (mVar 4) mNil))) [L, K, P, iV s, iV g, iV c, .val (.list (acc.map ppD)), iV (low : Int), .emp] = .ok (rngC ((low : Int) + g) g (upP s g low).length, [L, K, P, iV s, iV g, iV c, .val (.list (acc.map ppD)), iV (low : Int), .emp]) := by
    refine ev_rngL (i := (low : Int) + g) (j := s) (c := g) ?_ r1 (by rw [r2])
    decreasing_with fail
  generalize (upP s g low).map ppD = U at *
  generalize rngC ((low : Int) + g) g (upP s g low).length = RR at *
  generalize acc.map ppD = AA at *
  decreasing_with first | (with_reducible exact it) | (focus ((with_reducible show lcL _ _ _ _ _ _ _ = _); exact lc)) | (with_reducible exact ad)
theorem pb_loop {L K P : Sl} {M s g c : Int} {n : Nat} {a7 : Sl} (h : ModOk M) (g1 : 1 ≤ g) (g2 : g ≤ M) (hn : n = (s - g).toNat) (hb : (prP s g).length ≤ 2000) :
    ∃ b7, forL g_pairs_by_0 b_pairs_by_0 (rngD 0 n) [L, K, P, iV s, iV g, iV c, .own [], a7, .emp] = .ok (.nx, [L, K, P, iV s, iV g, iV c, .own ((prP s g).map ppD), b7, .emp]) := by
  subst hn
  obtain ⟨δ', e, a, rfl⟩ := forL_app (g := g_pairs_by_0) (b := b_pairs_by_0) (fun i : Nat => PyData.int (i : Int)) (upP s g) 2000 (fun acc δ => ∃ b7, δ = [L, K, P, iV s, iV g, iV c, .own (acc.map ppD), b7, .emp]) (List.range (s - g).toNat) (acc := []) (δ := [L, K, P, iV s, iV g, iV c, .own [], a7, .emp]) (by simpa [prP] using hb) ⟨a7, rfl⟩ (by
    rintro low hl acc δ hb ⟨b7, rfl⟩
    exact ⟨_, _, rfl, pb_turn h g1 g2 (List.mem_range.mp hl) hb, iV (low : Int), rfl⟩)
  refine ⟨a, ?_⟩
  rw [rngD_nat]
  exact e
theorem ty_pairs_by {M s t : Int} {ws : List Int} {κ : Kind} {p : Nat} (h : LinOk M s ws t) (hp : p + κ.span < ws.length) (hc : ctP M s ws κ p ≤ 2000) : F_pairs_by [.val (linD M s ws t), .val (.str κ.s), iV p] = .ok (.own ((prP s (stN M (coefP M ws κ p))).map ppD), [.val (linD M s ws t), .val (.str κ.s), iV p]) := by
  have s0 := h.s0
  have s1 := h.s1
  have i1 : fIx (linD M s ws t) (.int 1) = .ok (.int s) := rfl
  have ⟨g0, g1⟩ := st34 h.m (coefP M ws κ p)
  have ci := ty_count_big (s := s) h.m (by omega) s1 g0 g1
  have si := ty_step_in h hp
  have cp := ty_check_place h hp
  have hm := h.m
  have ln := prP_len (s := s) (by omega) g0
  unfold ctP at hc
  generalize stN M (coefP M ws κ p) = S at *
  have few := prP_few (s := s) g0
  obtain ⟨b7, lp⟩ := pb_loop (L := .val (linD M s ws t)) (K := .val (.str κ.s)) (P := iV p) (s := s) (c := cntI s S) (n := (s - S).toNat) (a7 := .emp) hm g0 g1 rfl (by omega)
  have gt : fGtI (.int (cntI s S)) (.int 2000) = .ok (.bool false) := by rw [fGtI_i, decide_eq_false (by omega)]
  have mx := max34 (s - S)
  have ro : rOk (((s - S).toNat : Nat) : Int) = true := rOk_small (by omega) (by omega)
  have it : mRng1 (mCons (mIf (mT (mOp fGtI (mVar 5) (mC (.int 0)))) (mFrz (mCall fMax2 (mCons (mOp fSub (mVar 3) (mVar 4)) (mCons (mC (.int 0)) mNil)))) (mC (.int 0))) mNil) [.val (linD M s ws t), .val (.str κ.s), iV p, iV s, iV S, iV (cntI s S), .own [], .emp, .emp] = .ok (rngD 0 (s - S).toNat, [.val (linD M s ws t), .val (.str κ.s), iV p, iV s, iV S, iV (cntI s S), .own [], .emp, .emp]) := by
    by_cases z : 0 < cntI s S
    · refine (ev_rng1 (k := (((s - S).toNat : Nat) : Int)) ?_ ro).trans (by rw [Int.toNat_natCast])
      have ie : mIf (mT (mOp fGtI (mVar 5) (mC (.int 0)))) (mFrz (mCall fMax2 (mCons (mOp fSub (mVar 3) (mVar 4)) (mCons (mC (.int 0)) mNil)))) (mC (.int 0)) [.val (linD M s ws t), .val (.str κ.s), iV p, iV s, iV S, iV (cntI s S), .own [], .emp, .emp] = .ok (.int (((s - S).toNat : Nat) : Int), [.val (linD M s ws t), .val (.str κ.s), iV p, iV s, iV S, iV (cntI s S), .own [], .emp, .emp]) := by
        apply ev_ifeT
        · decreasing_with fail
        · exact decide_eq_true z
        decreasing_with first | (with_reducible exact mx)
      decreasing_with first | (with_reducible exact ie)
    · have e0 : (s - S).toNat = 0 := by omega
      rw [e0]
      refine (ev_rng1 (k := 0) ?_ (rOk_small (by omega) (by omega)))
      have ie : mIf (mT (mOp fGtI (mVar 5) (mC (.int 0)))) (mFrz (mCall fMax2 (mCons (mOp fSub (mVar 3) (mVar 4)) (mCons (mC (.int 0)) mNil)))) (mC (.int 0)) [.val (linD M s ws t), .val (.str κ.s), iV p, iV s, iV S, iV (cntI s S), .own [], .emp, .emp] = .ok (.int 0, [.val (linD M s ws t), .val (.str κ.s), iV p, iV s, iV S, iV (cntI s S), .own [], .emp, .emp]) := by
        apply ev_ifeF
        · decreasing_with fail
        · exact decide_eq_false z
        decreasing_with fail
      decreasing_with first | (with_reducible exact ie)
  generalize (prP s S).map ppD = PP at *
  generalize rngD 0 (s - S).toNat = RR at *
  generalize cntI s S = C at *
  apply ev_fn (δ1 := [.val (linD M s ws t), .val (.str κ.s), iV p, iV s, iV S, iV C, .emp, b7, .emp])
  · show m_pairs_by [.val (linD M s ws t), .val (.str κ.s), iV p, .emp, .emp, .emp, .emp, .emp, .emp] = _
    apply ev_seq
    · decreasing_with first | (with_reducible exact cp)
    apply ev_seq
    · decreasing_with first | (with_reducible exact i1) | (with_reducible exact si)
    apply ev_seq
    · decreasing_with first | (with_reducible exact ci)
    apply ev_seq
    · apply ev_ifF
      · decreasing_with first | (with_reducible exact gt)
      · rfl
      decreasing_with fail
    apply ev_seq
    · decreasing_with fail
    apply ev_seq
    · decreasing_with first | (with_reducible exact it) | (with_reducible apply ev_for (h2 := lp))
    decreasing_with fail
  rfl
theorem tx_pairs_by {M s t : Int} {ws : List Int} {κ : Kind} {p : Nat} (h : LinOk M s ws t) (hp : p + κ.span < ws.length) (hc : 2000 < ctP M s ws κ p) : E_pairs_by [.val (linD M s ws t), .val (.str κ.s), iV p] = .err "TooMany" (.int (ctP M s ws κ p)) := by
  have s0 := h.s0
  have s1 := h.s1
  have i1 : fIx (linD M s ws t) (.int 1) = .ok (.int s) := rfl
  have ⟨g0, g1⟩ := st34 h.m (coefP M ws κ p)
  have ci := ty_count_big (s := s) h.m (by omega) s1 g0 g1
  have si := ty_step_in h hp
  have cp := ty_check_place h hp
  unfold ctP at *
  generalize stN M (coefP M ws κ p) = S at *
  generalize cntI s S = C at *
  apply ex_fn
  show mx_pairs_by [.val (linD M s ws t), .val (.str κ.s), iV p, .emp, .emp, .emp, .emp, .emp, .emp] = _
  apply ex_seq
  · decreasing_with first | (with_reducible exact cp)
  apply ex_seq
  · decreasing_with first | (with_reducible exact i1) | (with_reducible exact si)
  apply ex_seq
  · decreasing_with first | (with_reducible exact ci)
  apply ex_ifT
  · decreasing_with fail
  · exact decide_eq_true hc
  apply ex_raise
  decreasing_with fail
theorem ty__law_many {M s t : Int} {ws : List Int} {κ : Kind} {p : Nat} (h : LinOk M s ws t) (hp : p + κ.span < ws.length) (hc : 2000 < ctP M s ws κ p) {z : Str} (hz : fRepr [.int (ctP M s ws κ p)] = .ok (.val (.str z))) : F__law_many [.val (linD M s ws t), .val (.str κ.s), iV p, iV (ctP M s ws κ p)] = .ok (.val (.bool true), [.val (linD M s ws t), .val (.str κ.s), iV p, iV (ctP M s ws κ p)]) := by
  have hE := tx_pairs_by h hp hc
  have sm := ty__law_same hz
  generalize ctP M s ws κ p = C at *
  apply ev_fn (δ1 := [.val (linD M s ws t), .val (.str κ.s), iV p, iV C, .val (.dict [(.str "TooMany", .int C)]), .emp])
  · show m__law_many [.val (linD M s ws t), .val (.str κ.s), iV p, iV C, .emp, .emp] = _
    apply ev_seq
    · decreasing_with fail
    refine ev_seq (δ1 := [.val (linD M s ws t), .val (.str κ.s), iV p, iV C, .val (.dict [(.str "TooMany", .int C)]), .emp]) ?_ ?_
    · refine ev_try_err (ds := [linD M s ws t, .str κ.s, .int p]) (δ1 := [.val (linD M s ws t), .val (.str κ.s), iV p, iV C, .val .none, .emp]) (δ2 := [.val (linD M s ws t), .val (.str κ.s), iV p, iV C, .val (.dict [(.str "TooMany", .int C)]), .val (.dict [(.str "TooMany", .int C)])]) (d := .int C) ?_ rfl hE (by show 5 < 6; omega) ?_
      · decreasing_with fail
      show mSet 4 (mVal (mVar 5)) [.val (linD M s ws t), .val (.str κ.s), iV p, iV C, .val .none, .val (.dict [(.str "TooMany", .int C)])] = _
      decreasing_with fail
    have fl : mFldV ["TooMany"] (mVar 4) [.val (linD M s ws t), .val (.str κ.s), iV p, iV C, .val (.dict [(.str "TooMany", .int C)]), .emp] = .ok (.int C, [.val (linD M s ws t), .val (.str κ.s), iV p, iV C, .val (.dict [(.str "TooMany", .int C)]), .emp]) := ev_fldV rfl (List.mem_singleton.mpr rfl)
    have nn : mOp fNotN (mVar 4) (mC .none) [.val (linD M s ws t), .val (.str κ.s), iV p, iV C, .val (.dict [(.str "TooMany", .int C)]), .emp] = .ok (.bool true, [.val (linD M s ws t), .val (.str κ.s), iV p, iV C, .val (.dict [(.str "TooMany", .int C)]), .emp]) := rfl
    have e2 : mFrz (mCallV 2 F__law_same (mCons (mFldV ["TooMany"] (mVar 4)) (mCons (mVar 3) mNil))) [.val (linD M s ws t), .val (.str κ.s), iV p, iV C, .val (.dict [(.str "TooMany", .int C)]), .emp] = .ok (.bool true, [.val (linD M s ws t), .val (.str κ.s), iV p, iV C, .val (.dict [(.str "TooMany", .int C)]), .emp]) := by
      decreasing_with first | (with_reducible exact fl) | (with_reducible exact sm)
    have an := ev_andV nn (fun _ => e2)
    rw [Bool.and_self] at an
    decreasing_with first | (with_reducible exact an)
  rfl
def hashI (s i : Int) : Int :=
  ((((s * 1140671 + 27644437 * i * i + 131 * i + 19) % 2147483629) * ((s * 1140671 + 27644437 * i * i + 131 * i + 19) % 2147483629) + 62089 * i + 32416187) % 2147483587 * 48271) % 2147483647
theorem ty__law_hash {s i : Int} (h0 : 0 ≤ i) (h1 : i < 2305843009213693952) : F__law_hash [iV s, iV i] = .ok (iV (hashI s i), [iV s, iV i]) := by
  refine ev_fn (δ1 := [iV s, iV i, iV (((s * 1140671 + 27644437 * i * i + 131 * i + 19) % 2147483629 * ((s * 1140671 + 27644437 * i * i + 131 * i + 19) % 2147483629) + 62089 * i + 32416187) % 2147483587)]) ?_ rfl
  show m__law_hash [iV s, iV i, .emp] = _
  decreasing_with fail
theorem ty__law_random {B : Int} {g : List PyData} {bound : Int} (hg : GenOk (B + 4) g) (h0 : 0 < bound) (h1 : bound < 1152921504606846976) (hB : 0 ≤ B) :
    ∃ r g', 0 ≤ r ∧ r < bound ∧ GenOk B g' ∧ F__law_random [.io 0 g, iV bound] = .ok (iV r, [.io 0 g', iV bound]) := by
  obtain ⟨a, b, c, rfl, ha, hb, hc, hcB⟩ := hg.ex
  have hlog : bound.natAbs.log2 < 9000 := Nat.lt_trans (log_lt (j := bound) (n := 60) (by omega) (by simpa using h1) (by omega)) (by omega)
  by_cases hpos : 0 < a
  · refine ⟨a % bound, [.int (a / bound), .int b, .int c], Int.emod_nonneg _ (by omega), Int.emod_lt_of_pos _ h0, ⟨_, _, _, rfl, Int.ediv_nonneg ha (by omega), hb, hc, by omega⟩, ?_⟩
    refine ev_fn (δ1 := [.io 0 [.int (a / bound), .int b, .int c], iV bound, iV (a % bound), .emp]) ?_ rfl
    show m__law_random [.io 0 [.int a, .int b, .int c], iV bound, .emp, .emp] = _
    refine ev_seqR ?_
    apply ev_ifT
    decreasing_with fail
    · exact decide_eq_true hpos
    decreasing_with fail
  · have bb := bits_small h0 h1
    have hr : rOk (1 + ((Builtin.Int.intBits bound : Nat) : Int) / 30) = true := by unfold rOk; simp; omega
    have lp := forL_go (g := gSet 3) (b := mSeq (mAsg (mOp fAdd (mIxV 0 (mC (.int 2))) (mC (.int 1))) (gsIx 0 (mC (.int 2)))) (mSet 2 (mVal (mOp fAdd (mOp fMulI (mVar 2) (mC (.int 2147483587))) (mFrz (mCallV 2 F__law_hash (mCons (mIxV 0 (mC (.int 1))) (mCons (mIxV 0 (mC (.int 2))) mNil))))))))
      (fun i δ => ∃ d c' j, δ = [.io 0 [.int a, .int b, .int c'], iV bound, iV d, j] ∧ c ≤ c' ∧ c' ≤ c + i) (ds := rngD 0 (1 + ((Builtin.Int.intBits bound : Nat) : Int) / 30).toNat) (δ := [.io 0 [.int a, .int b, .int c], iV bound, iV 0, .emp]) ⟨0, c, .emp, rfl, by omega, by omega⟩ (by
        rintro i e δ he ⟨d, c', j, rfl, h2, h3⟩
        have hlen : i < (rngD 0 (1 + ((Builtin.Int.intBits bound : Nat) : Int) / 30).toNat).length := (List.getElem?_eq_some_iff.mp he).1
        rw [len_rng] at hlen
        refine ⟨_, [.io 0 [.int a, .int b, .int (c' + 1)], iV bound, iV (d * 2147483587 + hashI b (c' + 1)), .val e], rfl, ?_, ⟨_, _, _, rfl, by omega, by omega⟩⟩
        show mSeq _ _ [.io 0 [.int a, .int b, .int c'], iV bound, iV d, .val e] = _
        decreasing_with first | (with_reducible exact ty__law_hash (by omega) (by omega)))
    obtain ⟨δ', e1, d, c', j, rfl, h2, h3⟩ := lp
    rw [len_rng] at h3
    refine ⟨d % bound, [.int a, .int b, .int c'], Int.emod_nonneg _ (by omega), Int.emod_lt_of_pos _ h0, ⟨_, _, _, rfl, ha, hb, by omega, by omega⟩, ?_⟩
    refine ev_fn (δ1 := [.io 0 [.int a, .int b, .int c'], iV bound, iV d, j]) ?_ rfl
    show m__law_random [.io 0 [.int a, .int b, .int c], iV bound, .emp, .emp] = _
    apply ev_seq
    · apply ev_ifF
      decreasing_with fail
      · exact decide_eq_false hpos
      decreasing_with fail
    apply ev_seq
    · decreasing_with fail
    apply ev_seq
    · apply ev_for (h2 := e1)
      apply ev_rng1
      · decreasing_with fail
        trace_state
      · exact hr
    decreasing_with fail
theorem len34 {α : Type} {f : α → PyData} {xs : List α} : fLen [.list (xs.map f)] = .ok (iV xs.length) := by
  show Res.ok (Sl.val (.int ((xs.map f).length : Nat))) = _
  rw [List.length_map]
theorem zp34 (os fs : List Int) : zpD (os.map .int) (fs.map .int) = (os.zip fs).map fun p => PyData.tuple [.int p.1, .int p.2] := by
  unfold zpD
  rw [List.zipWith_map, List.zip, List.map_zipWith]
theorem ix34 {α : Type} {f : α → PyData} {xs : List α} {i : Nat} (h : i < xs.length) : fIx (.list (xs.map f)) (.int (i : Int)) = .ok (f xs[i]) := by
  show (match atI (xs.map f) (i : Int) with | some d => Res.ok d | none => .no) = _
  rw [atI_map _ _ _ h]
theorem ap34 {xs : List PyData} {d : PyData} (h : xs.length < 100000) : fAppend xs [d] = .ok (.none, xs ++ [d]) := by
  unfold fAppend
  simp only []
  exact if_pos (by rw [sizeLine_eq]; omega)
theorem p28 : fPow (.int 10) (.int 28) = .ok (.int 10000000000000000000000000000) := by kernel_rfl
theorem mod34 {M : Int} (h2 : 2 ≤ M) (h : M ≤ 1000000000000000000000000000000) : ModOk M := ⟨h2, by omega⟩
theorem bits_big {b : Int} (h0 : 0 < b) (h1 : b < 1267650600228229401496703205376) : ((Builtin.Int.intBits b : Nat) : Int) / 30 ≤ 3 ∧ 0 ≤ ((Builtin.Int.intBits b : Nat) : Int) / 30 := by
  have h : Builtin.Int.intBits b ≤ 100 := by
    unfold Builtin.Int.intBits
    split
    · omega
    · have := log_lt (j := b) (n := 100) (by omega) (by simpa using h1) (by omega)
      omega
  omega
theorem ty__law_randomB {B : Int} {g : List PyData} {bound : Int} (hg : GenOk (B + 4) g) (h0 : 0 < bound) (h1 : bound < 1267650600228229401496703205376) (hB : 0 ≤ B) :
    ∃ r g', 0 ≤ r ∧ r < bound ∧ GenOk B g' ∧ F__law_random [.io 0 g, iV bound] = .ok (iV r, [.io 0 g', iV bound]) := by
  obtain ⟨a, b, c, rfl, ha, hb, hc, hcB⟩ := hg.ex
  have hlog : bound.natAbs.log2 < 9000 := Nat.lt_trans (log_lt (j := bound) (n := 100) (by omega) (by simpa using h1) (by omega)) (by omega)
  by_cases hpos : 0 < a
  · refine ⟨a % bound, [.int (a / bound), .int b, .int c], Int.emod_nonneg _ (by omega), Int.emod_lt_of_pos _ h0, ⟨_, _, _, rfl, Int.ediv_nonneg ha (by omega), hb, hc, by omega⟩, ?_⟩
    refine ev_fn (δ1 := [.io 0 [.int (a / bound), .int b, .int c], iV bound, iV (a % bound), .emp]) ?_ rfl
    show m__law_random [.io 0 [.int a, .int b, .int c], iV bound, .emp, .emp] = _
    refine ev_seqR ?_
    apply ev_ifT
    decreasing_with fail
    · exact decide_eq_true hpos
    decreasing_with fail
  · have bb := bits_big h0 h1
    have hr : rOk (1 + ((Builtin.Int.intBits bound : Nat) : Int) / 30) = true := by unfold rOk; simp; omega
    have lp := forL_go (g := gSet 3) (b := mSeq (mAsg (mOp fAdd (mIxV 0 (mC (.int 2))) (mC (.int 1))) (gsIx 0 (mC (.int 2)))) (mSet 2 (mVal (mOp fAdd (mOp fMulI (mVar 2) (mC (.int 2147483587))) (mFrz (mCallV 2 F__law_hash (mCons (mIxV 0 (mC (.int 1))) (mCons (mIxV 0 (mC (.int 2))) mNil))))))))
      (fun i δ => ∃ d c' j, δ = [.io 0 [.int a, .int b, .int c'], iV bound, iV d, j] ∧ c ≤ c' ∧ c' ≤ c + i) (ds := rngD 0 (1 + ((Builtin.Int.intBits bound : Nat) : Int) / 30).toNat) (δ := [.io 0 [.int a, .int b, .int c], iV bound, iV 0, .emp]) ⟨0, c, .emp, rfl, by omega, by omega⟩ (by
        rintro i e δ he ⟨d, c', j, rfl, h2, h3⟩
        have hlen : i < (rngD 0 (1 + ((Builtin.Int.intBits bound : Nat) : Int) / 30).toNat).length := (List.getElem?_eq_some_iff.mp he).1
        rw [len_rng] at hlen
        refine ⟨_, [.io 0 [.int a, .int b, .int (c' + 1)], iV bound, iV (d * 2147483587 + hashI b (c' + 1)), .val e], rfl, ?_, ⟨_, _, _, rfl, by omega, by omega⟩⟩
        show mSeq _ _ [.io 0 [.int a, .int b, .int c'], iV bound, iV d, .val e] = _
        decreasing_with first | (with_reducible exact ty__law_hash (by omega) (by omega)))
    obtain ⟨δ', e1, d, c', j, rfl, h2, h3⟩ := lp
    rw [len_rng] at h3
    refine ⟨d % bound, [.int a, .int b, .int c'], Int.emod_nonneg _ (by omega), Int.emod_lt_of_pos _ h0, ⟨_, _, _, rfl, ha, hb, by omega, by omega⟩, ?_⟩
    refine ev_fn (δ1 := [.io 0 [.int a, .int b, .int c'], iV bound, iV d, j]) ?_ rfl
    show m__law_random [.io 0 [.int a, .int b, .int c], iV bound, .emp, .emp] = _
    apply ev_seq
    · apply ev_ifF
      decreasing_with fail
      · exact decide_eq_false hpos
      decreasing_with fail
    apply ev_seq
    · decreasing_with fail
    apply ev_seq
    · apply ev_for (h2 := e1)
      apply ev_rng1
      · decreasing_with fail
        trace_state
      · exact hr
    decreasing_with fail
theorem ty__law_linear {B : Int} {g : List PyData} {b : Bool} (hg : GenOk (B + 100) g) (hB : 0 ≤ B) : ∃ (M s t : Int) (ws : List Int) (g' : List PyData), LinOk M s ws t ∧ M ≤ (if b then 10000000000000000000000000001 else 40) ∧ ws.length ≤ 6 ∧ GenOk B g' ∧
    F__law_linear [.io 0 g, .val (.bool b)] = .ok (.val (linD M s ws t), [.io 0 g', .val (.bool b)]) := by
  obtain ⟨L, hL, L0, L1, ixL⟩ : ∃ L : Int, (L = if b then 10000000000000000000000000000 else 39) ∧ 39 ≤ L ∧ L ≤ 10000000000000000000000000000 ∧ fIx (.list [.int 39, .int 10000000000000000000000000000]) (.int (if b then 1 else 0)) = .ok (.int L) := by
    cases b
    · exact ⟨39, rfl, by omega, by omega, rfl⟩
    · exact ⟨10000000000000000000000000000, rfl, by omega, by omega, rfl⟩
  obtain ⟨r, g1, r0, r1, hg1, e1⟩ := ty__law_randomB (B := B + 96) (bound := L) (hg.less (by omega)) (by omega) (by omega) (by omega)
  have hm : ModOk (2 + r) := mod34 (by omega) (by omega)
  have hMb : 2 + r ≤ (if b then 10000000000000000000000000001 else 40) := by
    cases b
    · have hL' : L = 39 := hL
      show 2 + r ≤ 40
      omega
    · show 2 + r ≤ 10000000000000000000000000001
      omega
  generalize hM : 2 + r = M at hm hMb
  have lo := hm.lo
  have hi := hm.hi
  obtain ⟨r2, g2, s0, s1, hg2, e2⟩ := ty__law_randomB (B := B + 92) (bound := M - 1) (hg1.less (by omega)) (by omega) (by omega) (by omega)
  obtain ⟨k, g3, k0, k1, hg3, e3⟩ := ty__law_randomB (B := B + 88) (bound := 3) (hg2.less (by omega)) (by omega) (by omega) (by omega)
  have mn : fMin2 [.int M, .int 10] = .ok (iV (if 10 < M then 10 else M)) := rfl
  obtain ⟨s, hs0, hs1, ixs⟩ : ∃ s : Int, 2 ≤ s ∧ s ≤ M ∧ fIx (.list [.int M, .int (2 + r2), .int (if 10 < M then 10 else M)]) (.int k) = .ok (.int s) := by
    rcases (show k = 0 ∨ k = 1 ∨ k = 2 by omega) with rfl | rfl | rfl
    · exact ⟨M, by omega, by omega, rfl⟩
    · exact ⟨2 + r2, by omega, by omega, rfl⟩
    · refine ⟨if 10 < M then 10 else M, ?_, ?_, rfl⟩ <;> split <;> omega
  obtain ⟨n, g4, n0, n1, hg4, e4⟩ := ty__law_randomB (B := B + 84) (bound := 5) (hg3.less (by omega)) (by omega) (by omega) (by omega)
  have ro : rOk (2 + n) = true := rOk_small (by omega) (by omega)
  obtain ⟨ys, δ', lc, xs, g5, rfl, xl, xr, hg5, rfl⟩ := lcL_inv (g := cg__law_linear_0) (tt := ct__law_linear_0) (te := ce__law_linear_0) (vs := [5]) (fun k acc δ => ∃ (xs : List Int) (g' : List PyData), acc = xs.map .int ∧ xs.length = k ∧ (∀ x ∈ xs, 1 ≤ x ∧ x ≤ M - 1) ∧ GenOk (B + 84 - 4 * k) g' ∧ δ = [.io 0 g', .val (.bool b), iV M, iV s, .emp, .emp]) (ds := rngD 0 (2 + n).toNat) (acc := []) (δ := [.io 0 g4, .val (.bool b), iV M, iV s, .emp, .emp]) 0 (by rw [sizeLine_eq, len_rng]; show 0 + _ ≤ _; omega) ⟨[], g4, rfl, rfl, (fun _ h => (nomatch h)), hg4.less (by omega), rfl⟩ (by
    rintro i d acc δ hd ⟨xs, g', rfl, xl, xr, hg', rfl⟩
    have hi' : i < (2 + n).toNat := by
      have := (List.getElem?_eq_some_iff.mp hd).1
      rwa [len_rng] at this
    obtain ⟨w, g6, w0, w1, hg6, e6⟩ := ty__law_randomB (B := B + 84 - 4 * ((0 + i + 1 : Nat) : Int)) (bound := M - 1) (hg'.less (by omega)) (by omega) (by omega) (by omega)
    refine ⟨[.io 0 g', .val (.bool b), iV M, iV s, .emp, .val d], [.io 0 g', .val (.bool b), iV M, iV s, .emp, .val d], true, rfl, rfl, fun _ => ⟨.int (1 + w), [.io 0 g6, .val (.bool b), iV M, iV s, .emp, .val d], ?_, xs ++ [1 + w], g6, by rw [List.map_append]; rfl, by rw [List.length_append, xl]; rfl, ?_, hg6, rfl⟩, fun z => nomatch z⟩
    · show ce__law_linear_0 [.io 0 g', .val (.bool b), iV M, iV s, .emp, .val d] = _
      decreasing_with first | (with_reducible exact e6)
    · intro x hx
      rcases List.mem_append.mp hx with hx | hx
      · exact xr x hx
      · rw [List.mem_singleton] at hx
        omega)
  rw [len_rng] at xl hg5
  obtain ⟨t, g6, t0, t1, hg6, e6⟩ := ty__law_randomB (B := B) (bound := M) (hg5.less (by omega)) (by omega) (by omega) (by omega)
  refine ⟨M, s, t, xs, g6, ⟨hm, hs0, hs1, by omega, by omega, xr, t0, by omega⟩, hMb, by omega, hg6, ?_⟩
  have fi : fInt [.bool b] = .ok (iV (if b then 1 else 0)) := rfl
  have ad : fAdd (.int 2) (.int r) = .ok (.int M) := by rw [fAdd_i, hM]
  generalize (if b then (1 : Int) else 0) = bi at *
  generalize (if 10 < M then (10 : Int) else M) = mi at *
  apply ev_fn (δ1 := [.io 0 g6, .val (.bool b), iV M, iV s, .val (lI xs), .emp])
  · show m__law_linear [.io 0 g, .val (.bool b), .emp, .emp, .emp, .emp] = _
    apply ev_seq
    · decreasing_with first | (with_reducible exact p28) | (with_reducible exact fi) | (with_reducible exact ixL) | (with_reducible exact e1) | (with_reducible exact ad)
    apply ev_seq
    · decreasing_with first | (with_reducible exact e2) | (with_reducible exact mn) | (with_reducible exact e3) | (with_reducible exact ixs)
    apply ev_seq
    · decreasing_with first | (with_reducible exact e4) | (with_reducible exact ro) | (focus ((with_reducible show lcL _ _ _ _ _ _ _ = _); exact lc))
    decreasing_with first | (with_reducible exact e6)
  rfl
theorem ty__law_span {κ : Kind} : F__law_span [.val (.str κ.s)] = .ok (iV κ.span, [.val (.str κ.s)]) := by
  apply ev_fn
  show m__law_span [.val (.str κ.s)] = _
  decreasing_with first | (with_reducible exact lk_kind κ)
def kinds34 : List Kind := [.single, .swap, .jump, .twin, .jumptwin]
def plL (n : Nat) : List (Kind × Nat) := kinds34.flatMap fun κ => (List.range (n - κ.span)).map fun p => (κ, p)
abbrev plD (q : Kind × Nat) : PyData := .tuple [.str q.1.s, .int (q.2 : Int)]
theorem mem_plL {n : Nat} {q : Kind × Nat} (h : q ∈ plL n) : q.2 + q.1.span < n := by
  unfold plL at h
  obtain ⟨κ, _, h⟩ := List.mem_flatMap.mp h
  obtain ⟨p, hp, rfl⟩ := List.mem_map.mp h
  have := List.mem_range.mp hp
  show p + κ.span < n
  omega
theorem plL_pos {n : Nat} (h : 1 ≤ n) : 0 < (plL n).length := by
  have z := flatMap_le (f := fun _ : Kind => ([] : List Nat)) (xs := []) (m := 0) (fun _ h => nomatch h)
  unfold plL kinds34
  rw [List.flatMap_cons, List.length_append, List.length_map, List.length_range]
  show 0 < n - 0 + _
  omega
theorem plL_few {n : Nat} (h : n ≤ 100) : (plL n).length ≤ 1000 := by
  have z := flatMap_le (f := fun κ : Kind => (List.range (n - κ.span)).map fun p => (κ, p)) (xs := kinds34) (m := 100) fun κ _ => by
    rw [List.length_map, List.length_range]
    omega
  exact Nat.le_trans z (by decide)
theorem ty__law_places {M s t : Int} {ws : List Int} (h : LinOk M s ws t) (hl : ws.length ≤ 100) : F__law_places [.val (linD M s ws t)] = .ok (.val (.list ((plL ws.length).map plD)), [.val (linD M s ws t)]) := by
  have i2 : fIx (linD M s ws t) (.int 2) = .ok (lI ws) := rfl
  have lw : fLen [lI ws] = .ok (iV ws.length) := len34
  have l2 := h.len
  obtain ⟨δ', e, b2, rfl⟩ := forL_app (g := g__law_places_0) (b := b__law_places_0) (fun κ : Kind => PyData.str κ.s) (fun κ => (List.range (ws.length - κ.span)).map fun p => (κ, p)) 1000 (fun acc δ => ∃ b2, δ = [.val (linD M s ws t), .val (.list (acc.map plD)), b2, .emp]) kinds34 (acc := []) (δ := [.val (linD M s ws t), .val (.list []), .emp, .emp]) (by simpa [plL] using plL_few hl) ⟨.emp, rfl⟩ (by
    rintro κ hκ acc δ hb ⟨b2, rfl⟩
    have sp := κ.span_le
    rw [List.length_map, List.length_range] at hb
    refine ⟨[.val (linD M s ws t), .val (.list (acc.map plD)), .val (.str κ.s), .emp], [.val (linD M s ws t), .val (.list ((acc ++ (List.range (ws.length - κ.span)).map fun p => (κ, p)).map plD)), .val (.str κ.s), .emp], rfl, ?_, .val (.str κ.s), rfl⟩
    have lc := lcL_all (g := cg__law_places_0) (te := ce__law_places_0) (vs := [3]) (fun i : Nat => PyData.int (i : Int)) (fun i : Nat => plD (κ, i)) [.val (linD M s ws t), .val (.list (acc.map plD)), .val (.str κ.s), .emp] (List.range (ws.length - κ.span)) (by rw [sizeLine_eq, List.length_range]; omega) (by
      intro i hi
      refine ⟨[.val (linD M s ws t), .val (.list (acc.map plD)), .val (.str κ.s), iV (i : Int)], rfl, ?_, rfl⟩
      show ce__law_places_0 [.val (linD M s ws t), .val (.list (acc.map plD)), .val (.str κ.s), iV (i : Int)] = _
      decreasing_with fail)
    replace lc : lcL cg__law_places_0 ct__law_places_0 ce__law_places_0 [3] (rngD 0 ((ws.length : Int) - (κ.span : Int)).toNat) [] [.val (linD M s ws t), .val (.list (acc.map plD)), .val (.str κ.s), .emp] = .ok (((List.range (ws.length - κ.span)).map fun p => (κ, p)).map plD, [.val (linD M s ws t), .val (.list (acc.map plD)), .val (.str κ.s), .emp]) := by
      rw [show ((ws.length : Int) - (κ.span : Int)).toNat = ws.length - κ.span by omega, rngD_nat, List.map_map]
      exact lc
    have ro : rOk ((ws.length : Int) - (κ.span : Int)) = true := rOk_small (by omega) (by omega)
    have ad := fAdd_l (xs := acc.map plD) (ys := ((List.range (ws.length - κ.span)).map fun p => (κ, p)).map plD) (by rw [List.length_map, List.length_map, List.length_map, List.length_range]; omega)
    have sp' := ty__law_span (κ := κ)
    rw [List.map_append]
    generalize ((List.range (ws.length - κ.span)).map fun p => (κ, p)).map plD = PP at *
    generalize acc.map plD = AA at *
    generalize κ.s = ks at *
    generalize (κ.span : Int) = sn at *
    show b__law_places_0 [.val (linD M s ws t), .val (.list AA), .val (.str ks), .emp] = _
    decreasing_with first | (with_reducible exact i2) | (with_reducible exact lw) | (with_reducible exact sp') | (with_reducible exact ro) | (focus ((with_reducible show lcL _ _ _ _ _ _ _ = _); exact lc)) | (with_reducible exact ad))
  rw [List.nil_append] at e
  replace e : forL g__law_places_0 b__law_places_0 [.str "single", .str "swap", .str "jump", .str "twin", .str "jumptwin"] [.val (linD M s ws t), .val (.list []), .emp, .emp] = .ok (.nx, [.val (linD M s ws t), .val (.list ((plL ws.length).map plD)), b2, .emp]) := e
  generalize (plL ws.length).map plD = PL at *
  apply ev_fn (δ1 := [.val (linD M s ws t), .val (.list PL), b2, .emp])
  · show m__law_places [.val (linD M s ws t), .emp, .emp, .emp] = _
    apply ev_seq
    · decreasing_with fail
    apply ev_seq
    · decreasing_with first | (with_reducible apply ev_for (h2 := e))
    decreasing_with fail
  rfl
def sA (n p q : Nat) (a b : Int) : List Int := ((List.replicate n 0).set p a).set q b
theorem sA_len (n p q : Nat) (a b : Int) : (sA n p q a b).length = n := by unfold sA; simp
theorem rep34 {n : Nat} (h : n ≤ 1000) : fRepN (.list [.int 0]) (.int (n : Int)) = .ok (.own ((List.replicate n (0 : Int)).map .int)) := by
  have e : (List.replicate (n : Int).toNat [PyData.int 0]).flatten = (List.replicate n (0 : Int)).map .int := by
    rw [Int.toNat_natCast, List.map_replicate]
    induction n with
    | zero => rfl
    | succ n ih => rw [List.replicate_succ, List.flatten_cons, ih (by omega), List.replicate_succ]; rfl
  rw [← e]
  unfold fRepN
  exact if_pos (by rw [sizeLine_eq]; simp; omega)
theorem ty__law_slipped {κ : Kind} {p n : Nat} {a b : Int} (hp : p + κ.span < n) (hn : n ≤ 1000) : F__law_slipped [.val (.str κ.s), iV p, iV n, iV a, iV b] = .ok (.val (.tuple [lI (sA n p (p + κ.span) a (if κ.cross then b else a)), lI (sA n p (p + κ.span) b (if κ.cross then a else b))]), [.val (.str κ.s), iV p, iV n, iV a, iV b]) := by
  have rp := rep34 (n := n) (by omega)
  have sp := ty__law_span (κ := κ)
  have ic := in_cross κ
  have fin : ∀ x y : Int, lI (sA n p (p + κ.span) x y) = .list ((((List.replicate n (0 : Int)).map PyData.int).set p (.int x)).set (p + κ.span) (.int y)) := fun x y => by
    unfold sA
    rw [← List.map_set, ← List.map_set]
  rw [fin, fin]
  have hZ : ((List.replicate n (0 : Int)).map PyData.int).length = n := by simp
  generalize (List.replicate n (0 : Int)).map PyData.int = Z at *
  have x0 : ixN Z.length (p : Int) = some p := by rw [hZ]; unfold ixN; rw [if_pos (by omega), if_pos (by omega)]; rfl
  have x1 : ∀ d : PyData, ixN (Z.set p d).length ((p : Int) + (κ.span : Int)) = some (p + κ.span) := fun d => by
    rw [List.length_set, hZ]
    unfold ixN
    rw [if_pos (by omega), if_pos (by omega)]
    congr 1
  cases hc : κ.cross with
  | true =>
    rw [hc] at ic
    simp only [reduceIte, Bool.false_eq_true]
    generalize κ.s = ks at *
    generalize κ.span = sn at *
    apply ev_fn (δ1 := [.val (.str ks), iV p, iV n, iV a, iV b, .val (.list ((Z.set p (.int a)).set (p + sn) (.int b))), .val (.list ((Z.set p (.int b)).set (p + sn) (.int a))), iV ((p : Int) + (sn : Int))])
    · show m__law_slipped [.val (.str ks), iV p, iV n, iV a, iV b, .emp, .emp, .emp] = _
      apply ev_seq
      · decreasing_with first | (with_reducible exact rp) | (with_reducible exact sp)
      apply ev_seq
      · apply ev_ifT
        · decreasing_with first | (with_reducible exact ic)
        · rfl
        decreasing_with first | (with_reducible exact x0) | (with_reducible exact x1 _)
      decreasing_with fail
    rfl
  | false =>
    rw [hc] at ic
    simp only [reduceIte, Bool.false_eq_true]
    generalize κ.s = ks at *
    generalize κ.span = sn at *
    apply ev_fn (δ1 := [.val (.str ks), iV p, iV n, iV a, iV b, .val (.list ((Z.set p (.int a)).set (p + sn) (.int a))), .val (.list ((Z.set p (.int b)).set (p + sn) (.int b))), iV ((p : Int) + (sn : Int))])
    · show m__law_slipped [.val (.str ks), iV p, iV n, iV a, iV b, .emp, .emp, .emp] = _
      apply ev_seq
      · decreasing_with first | (with_reducible exact rp) | (with_reducible exact sp)
      apply ev_seq
      · apply ev_ifF
        · decreasing_with first | (with_reducible exact ic)
        · rfl
        decreasing_with first | (with_reducible exact x0) | (with_reducible exact x1 _)
      decreasing_with fail
    rfl
def wI (M : Int) (ws code : List Int) : Int := (ws.zip code).foldl (fun f q => (f + q.1 * q.2) % M) 0
theorem ty__law_weighted {M s t : Int} {ws code : List Int} (h : LinOk M s ws t) (hc : ∀ x ∈ code, 0 ≤ x ∧ x ≤ 1000) : F__law_weighted [.val (linD M s ws t), .val (lI code)] = .ok (iV (wI M ws code), [.val (linD M s ws t), .val (lI code)]) := by
  have i2 : fIx (linD M s ws t) (.int 2) = .ok (lI ws) := rfl
  have i0 : fIx (linD M s ws t) (.int 0) = .ok (.int M) := rfl
  obtain ⟨δ', e, b3, b4, rfl⟩ := forL_fold (g := g__law_weighted_0) (b := b__law_weighted_0) (fun q : Int × Int => PyData.tuple [.int q.1, .int q.2]) (fun (f : Int) δ => ∃ b3 b4, δ = [.val (linD M s ws t), .val (lI code), iV f, b3, b4]) (fun f q => (f + q.1 * q.2) % M) (ws.zip code) (s := 0) (δ := [.val (linD M s ws t), .val (lI code), iV 0, .emp, .emp]) ⟨_, _, rfl⟩ (by
    rintro f q δ hq ⟨b3, b4, rfl⟩
    have qc := hc q.2 (List.of_mem_zip hq).2
    have mo : fMod (.int (f + q.1 * q.2)) (.int M) = .ok (.int ((f + q.1 * q.2) % M)) := modM h.m
    have mu : fMulI (.int q.1) (.int q.2) = .ok (.int (q.1 * q.2)) := fMulI_ok (.inr (by omega))
    have fi : fInt [.int (f + q.1 * q.2)] = .ok (iV (f + q.1 * q.2)) := rfl
    refine ⟨[.val (linD M s ws t), .val (lI code), iV f, iV q.1, iV q.2], [.val (linD M s ws t), .val (lI code), iV ((f + q.1 * q.2) % M), iV q.1, iV q.2], rfl, ?_, _, _, rfl⟩
    show b__law_weighted_0 [.val (linD M s ws t), .val (lI code), iV f, iV q.1, iV q.2] = _
    decreasing_with first | (with_reducible exact i0) | (with_reducible exact mu) | (with_reducible exact fi) | (with_reducible exact mo))
  rw [← zp34] at e
  apply ev_fn (δ1 := [.val (linD M s ws t), .val (lI code), iV (wI M ws code), b3, b4])
  · show m__law_weighted [.val (linD M s ws t), .val (lI code), .emp, .emp, .emp] = _
    apply ev_seq
    · decreasing_with fail
    apply ev_seq
    · decreasing_with first | (with_reducible exact i2) | ((focus ((with_reducible show (!false || _) = true); rfl))) | (with_reducible apply ev_for (h2 := e))
    show mRet (mVal (mVar 2)) [.val (linD M s ws t), .val (lI code), iV (wI M ws code), b3, b4] = _
    decreasing_with fail
  rfl
/-! when two numbers have one sum -/
def sI (ws code : List Int) : Int := ((ws.zip code).map fun q => q.1 * q.2).sum
theorem fold34 {M : Int} : ∀ (zs : List (Int × Int)) (f : Int), f % M = f → zs.foldl (fun f q => (f + q.1 * q.2) % M) f = (f + (zs.map fun q => q.1 * q.2).sum) % M
  | [], f, h => by simp [h]
  | z :: zs, f, h => by
    rw [List.foldl_cons, fold34 zs _ (Int.emod_emod ..), List.map_cons, List.sum_cons, ← Int.add_assoc, Int.emod_add_emod]
theorem wI_eq {M : Int} (ws code : List Int) : wI M ws code = sI ws code % M := by
  unfold wI sI
  rw [fold34 _ 0 (by simp), Int.zero_add]
theorem sI_rep : ∀ (ws : List Int) (n : Nat), sI ws (List.replicate n 0) = 0
  | [], n => by simp [sI]
  | w :: ws, 0 => by simp [sI]
  | w :: ws, n + 1 => by
    have ih := sI_rep ws n
    unfold sI at *
    rw [List.replicate_succ, List.zip_cons_cons, List.map_cons, List.sum_cons, ih]
    simp
theorem sI_set : ∀ (ws xs : List Int) (q : Nat) (v : Int), q < ws.length → q < xs.length → sI ws (xs.set q v) = sI ws xs + ws.getD q 0 * (v - xs.getD q 0)
  | [], _, _, _, h, _ => absurd h (by simp)
  | _ :: _, [], _, _, _, h => absurd h (by simp)
  | w :: ws, x :: xs, 0, v, _, _ => by
    unfold sI
    rw [List.set_cons_zero, List.zip_cons_cons, List.zip_cons_cons, List.map_cons, List.map_cons, List.sum_cons, List.sum_cons]
    show w * v + _ = w * x + _ + w * (v - x)
    rw [Int.mul_sub]
    omega
  | w :: ws, x :: xs, q + 1, v, h1, h2 => by
    have ih := sI_set ws xs q v (by simpa using h1) (by simpa using h2)
    unfold sI at *
    rw [List.set_cons_succ, List.zip_cons_cons, List.zip_cons_cons, List.map_cons, List.map_cons, List.sum_cons, List.sum_cons, ih]
    show w * x + _ = w * x + _ + ws.getD q 0 * (v - xs.getD q 0)
    omega
theorem sI_sA {ws : List Int} {n p q : Nat} {a b : Int} (hn : ws.length = n) (hp : p < n) (hq : q < n) : sI ws (sA n p q a b) = ws.getD p 0 * a + ws.getD q 0 * (b - if p = q then a else 0) := by
  unfold sA
  rw [sI_set _ _ _ _ (by omega) (by simp; omega), sI_set _ _ _ _ (by omega) (by simp; omega), sI_rep]
  have e1 : (List.replicate n (0 : Int)).getD p 0 = 0 := by
    rw [List.getD_eq_getElem?_getD, List.getElem?_replicate]
    split <;> rfl
  have e2 : ((List.replicate n (0 : Int)).set p a).getD q 0 = if p = q then a else 0 := by
    rw [List.getD_eq_getElem?_getD, List.getElem?_set]
    by_cases z : p = q
    · rw [if_pos z, if_pos z]; simp [hp]
    · rw [if_neg z, if_neg z, List.getElem?_replicate]
      split <;> rfl
  rw [e1, e2, Int.zero_add, Int.sub_zero]
def cdP (M : Int) (ws : List Int) (κ : Kind) (p : Nat) (a b : Int) : Bool :=
  wI M ws (sA ws.length p (p + κ.span) a (if κ.cross then b else a)) == wI M ws (sA ws.length p (p + κ.span) b (if κ.cross then a else b))
theorem diff34 {ws : List Int} {κ : Kind} {p : Nat} {a b : Int} (hp : p + κ.span < ws.length) : ∃ X, (∀ M, coefP M ws κ p % M = X % M) ∧
    sI ws (sA ws.length p (p + κ.span) b (if κ.cross then a else b)) - sI ws (sA ws.length p (p + κ.span) a (if κ.cross then b else a)) = X * (b - a) := by
  rw [sI_sA rfl (by omega) hp, sI_sA rfl (by omega) hp]
  cases κ with
  | single =>
    refine ⟨ws.getD p 0, fun M => rfl, ?_⟩
    simp only [Kind.span, Kind.cross, Nat.add_zero, reduceIte, Bool.false_eq_true]
    generalize ws.getD p 0 = w at *
    grind
  | swap =>
    refine ⟨ws.getD p 0 - ws.getD (p + 1) 0, fun M => Int.emod_emod .., ?_⟩
    simp only [Kind.span, Kind.cross, reduceIte, if_neg (show ¬p = p + 1 by omega), Int.sub_zero]
    generalize ws.getD p 0 = w at *
    generalize ws.getD (p + 1) 0 = u at *
    grind
  | jump =>
    refine ⟨ws.getD p 0 - ws.getD (p + 2) 0, fun M => Int.emod_emod .., ?_⟩
    simp only [Kind.span, Kind.cross, reduceIte, if_neg (show ¬p = p + 2 by omega), Int.sub_zero]
    generalize ws.getD p 0 = w at *
    generalize ws.getD (p + 2) 0 = u at *
    grind
  | twin =>
    refine ⟨ws.getD p 0 + ws.getD (p + 1) 0, fun M => Int.emod_emod .., ?_⟩
    simp only [Kind.span, Kind.cross, reduceIte, Bool.false_eq_true, if_neg (show ¬p = p + 1 by omega), Int.sub_zero]
    generalize ws.getD p 0 = w at *
    generalize ws.getD (p + 1) 0 = u at *
    grind
  | jumptwin =>
    refine ⟨ws.getD p 0 + ws.getD (p + 2) 0, fun M => Int.emod_emod .., ?_⟩
    simp only [Kind.span, Kind.cross, reduceIte, Bool.false_eq_true, if_neg (show ¬p = p + 2 by omega), Int.sub_zero]
    generalize ws.getD p 0 = w at *
    generalize ws.getD (p + 2) 0 = u at *
    grind
theorem cdP_eq {M : Int} {ws : List Int} {κ : Kind} {p : Nat} {a b : Int} (hp : p + κ.span < ws.length) : cdP M ws κ p a b = (coefP M ws κ p * (b - a) % M == 0) := by
  obtain ⟨X, h1, h2⟩ := diff34 (ws := ws) (κ := κ) (p := p) (a := a) (b := b) hp
  unfold cdP
  rw [wI_eq, wI_eq]
  have e : coefP M ws κ p * (b - a) % M = X * (b - a) % M := by rw [Int.mul_emod, h1, ← Int.mul_emod]
  rw [e, ← h2, Bool.eq_iff_iff, beq_iff_eq, beq_iff_eq]
  generalize sI ws _ = A
  generalize sI ws _ = B
  exact ⟨fun h => Int.emod_eq_emod_iff_emod_sub_eq_zero.mp h.symm, fun h => (Int.emod_eq_emod_iff_emod_sub_eq_zero.mpr h).symm⟩
theorem fm_congr {α β : Type} {f g : α → List β} : ∀ {xs : List α}, (∀ x ∈ xs, f x = g x) → xs.flatMap f = xs.flatMap g
  | [], _ => rfl
  | x :: xs, h => by
    rw [List.flatMap_cons, List.flatMap_cons, h x (List.mem_cons_self ..), fm_congr fun y hy => h y (List.mem_cons_of_mem _ hy)]
def lwP (s : Int) (cd : Int → Int → Bool) : List (Int × Int) := (List.range s.toNat).flatMap fun low : Nat => (List.range (s - ((low : Int) + 1)).toNat).flatMap fun i : Nat => if cd low ((low : Int) + 1 + i) = true then [((low : Int), (low : Int) + 1 + (i : Int))] else []
theorem finA34 : ∀ M ∈ rngI 2 39, ∀ c ∈ rngI 0 M.toNat, (∀ d ∈ rngI 0 15, (c * d % M == 0) = (d % stN M c == 0)) ∧ ((rngI 1 M.toNat).filter fun k => c * k % M == 0).head? = some (stN M c) := by decide +kernel
theorem finB34 : ∀ s ∈ rngI 2 13, ∀ g ∈ rngI 1 40, lwP s (fun a b => (b - a) % g == 0) = prP s g := by decide +kernel
theorem lwP_eq {M s : Int} {ws : List Int} {κ : Kind} {p : Nat} (hm : 2 ≤ M) (hM : M ≤ 40) (s0 : 2 ≤ s) (s1 : s ≤ 14) (c0 : 0 ≤ coefP M ws κ p) (c1 : coefP M ws κ p < M) (hp : p + κ.span < ws.length) (g0 : 1 ≤ stN M (coefP M ws κ p)) (g1 : stN M (coefP M ws κ p) ≤ M) : lwP s (cdP M ws κ p) = prP s (stN M (coefP M ws κ p)) := by
  rw [← finB34 s (mem_rngI.mpr (by omega)) _ (mem_rngI.mpr (by omega))]
  have fa := (finA34 M (mem_rngI.mpr (by omega)) _ (mem_rngI.mpr (show 0 ≤ coefP M ws κ p ∧ coefP M ws κ p < 0 + (M.toNat : Int) by omega))).1
  unfold lwP
  refine fm_congr fun low hl => fm_congr fun i hi => ?_
  have := List.mem_range.mp hl
  have := List.mem_range.mp hi
  rw [cdP_eq hp, fa _ (mem_rngI.mpr (by omega))]
theorem sA_mem {n p q : Nat} {a b x : Int} (h : x ∈ sA n p q a b) : x = 0 ∨ x = a ∨ x = b := by
  unfold sA at h
  rcases List.mem_or_eq_of_mem_set h with h | h
  · rcases List.mem_or_eq_of_mem_set h with h | h
    · exact .inl (List.eq_of_mem_replicate h)
    · exact .inr (.inl h)
  · exact .inr (.inr h)
theorem lwP_le {s : Int} {cd : Int → Int → Bool} (h : s ≤ 14) : (lwP s cd).length ≤ 196 := by
  unfold lwP
  have z := flatMap_le (f := fun low : Nat => (List.range (s - ((low : Int) + 1)).toNat).flatMap fun i : Nat => if cd low ((low : Int) + 1 + i) = true then [((low : Int), (low : Int) + 1 + (i : Int))] else []) (xs := List.range s.toNat) (m := 14) fun low _ => by
    have y := flatMap_le (f := fun i : Nat => if cd low ((low : Int) + 1 + i) = true then [((low : Int), (low : Int) + 1 + (i : Int))] else []) (xs := List.range (s - ((low : Int) + 1)).toNat) (m := 1) fun i _ => by
      split <;> simp
    rw [List.length_range] at y
    omega
  rw [List.length_range] at z
  omega
theorem lp_turn {M s t : Int} {ws : List Int} {κ : Kind} {p : Nat} {a b : Int} {a6 a7 : Sl} {acc : List (Int × Int)} (h : LinOk M s ws t) (hp : p + κ.span < ws.length) (a0 : 0 ≤ a) (a1 : a ≤ 1000) (b0 : 0 ≤ b) (b1 : b ≤ 1000) (hb : acc.length ≤ 1000) :
    ∃ b6 b7, b__law_pairs_0 [.val (linD M s ws t), .val (.str κ.s), iV p, .own (acc.map ppD), iV a, iV b, a6, a7] = .ok (.nx, [.val (linD M s ws t), .val (.str κ.s), iV p, .own ((acc ++ if cdP M ws κ p a b = true then [(a, b)] else []).map ppD), iV a, iV b, b6, b7]) := by
  have i2 : fIx (linD M s ws t) (.int 2) = .ok (lI ws) := rfl
  have lw : fLen [lI ws] = .ok (iV ws.length) := len34
  have few := h.few
  have sl := ty__law_slipped (κ := κ) (p := p) (n := ws.length) (a := a) (b := b) hp (by omega)
  have w1 := ty__law_weighted (code := sA ws.length p (p + κ.span) a (if κ.cross then b else a)) h (fun x hx => by
    rcases sA_mem hx with e | e | e
    · omega
    · omega
    · split at e <;> omega)
  have w2 := ty__law_weighted (code := sA ws.length p (p + κ.span) b (if κ.cross then a else b)) h (fun x hx => by
    rcases sA_mem hx with e | e | e
    · omega
    · omega
    · split at e <;> omega)
  have fe : fEq (.int (wI M ws (sA ws.length p (p + κ.span) a (if κ.cross then b else a)))) (.int (wI M ws (sA ws.length p (p + κ.span) b (if κ.cross then a else b)))) = .ok (.bool (cdP M ws κ p a b)) := rfl
  have ap := ap34 (xs := acc.map ppD) (d := ppD (a, b)) (by rw [List.length_map]; omega)
  generalize wI M ws (sA ws.length p (p + κ.span) a (if κ.cross then b else a)) = W1 at *
  generalize wI M ws (sA ws.length p (p + κ.span) b (if κ.cross then a else b)) = W2 at *
  generalize sA ws.length p (p + κ.span) a (if κ.cross then b else a) = C1 at *
  generalize sA ws.length p (p + κ.span) b (if κ.cross then a else b) = C2 at *
  refine ⟨.val (lI C1), .val (lI C2), ?_⟩
  cases hc : cdP M ws κ p a b with
  | true =>
    rw [hc] at fe
    simp only [reduceIte]
    rw [List.map_append]
    apply ev_seq
    · decreasing_with first | (with_reducible exact i2) | (with_reducible exact lw) | (with_reducible exact sl)
    apply ev_ifT
    · decreasing_with first | (with_reducible exact w1) | (with_reducible exact w2) | (with_reducible exact fe)
    · rfl
    decreasing_with first | (with_reducible exact ap)
  | false =>
    rw [hc] at fe
    simp only [reduceIte, Bool.false_eq_true, List.append_nil]
    apply ev_seq
    · decreasing_with first | (with_reducible exact i2) | (with_reducible exact lw) | (with_reducible exact sl)
    apply ev_ifF
    · decreasing_with first | (with_reducible exact w1) | (with_reducible exact w2) | (with_reducible exact fe)
    · rfl
    decreasing_with fail
theorem ty__law_pairs {M s t : Int} {ws : List Int} {κ : Kind} {p : Nat} (h : LinOk M s ws t) (hp : p + κ.span < ws.length) (hs : s ≤ 14) : F__law_pairs [.val (linD M s ws t), .val (.str κ.s), iV p] = .ok (.own ((lwP s (cdP M ws κ p)).map ppD), [.val (linD M s ws t), .val (.str κ.s), iV p]) := by
  have s0 := h.s0
  have i1 : fIx (linD M s ws t) (.int 1) = .ok (.int s) := rfl
  have le := lwP_le (s := s) (cd := cdP M ws κ p) hs
  obtain ⟨δ', e, b4, b5, b6, b7, rfl⟩ := forL_app (g := g__law_pairs_1) (b := b__law_pairs_1) (fun i : Nat => PyData.int (i : Int)) (fun low : Nat => (List.range (s - ((low : Int) + 1)).toNat).flatMap fun i : Nat => if cdP M ws κ p low ((low : Int) + 1 + i) = true then [((low : Int), (low : Int) + 1 + (i : Int))] else []) 1000 (fun acc δ => ∃ b4 b5 b6 b7, δ = [.val (linD M s ws t), .val (.str κ.s), iV p, .own (acc.map ppD), b4, b5, b6, b7]) (List.range s.toNat) (acc := []) (δ := [.val (linD M s ws t), .val (.str κ.s), iV p, .own [], .emp, .emp, .emp, .emp]) (by
      have le' := le
      unfold lwP at le'
      rw [List.length_nil]
      omega) ⟨_, _, _, _, rfl⟩ (by
    rintro low hl acc δ hb ⟨b4, b5, b6, b7, rfl⟩
    have hl' := List.mem_range.mp hl
    obtain ⟨δ', e, c5, c6, c7, rfl⟩ := forL_app (g := g__law_pairs_0) (b := b__law_pairs_0) (fun i : Nat => PyData.int ((low : Int) + 1 + (i : Int))) (fun i : Nat => if cdP M ws κ p low ((low : Int) + 1 + i) = true then [((low : Int), (low : Int) + 1 + (i : Int))] else []) 1000 (fun acc δ => ∃ b5 b6 b7, δ = [.val (linD M s ws t), .val (.str κ.s), iV p, .own (acc.map ppD), iV (low : Int), b5, b6, b7]) (List.range (s - ((low : Int) + 1)).toNat) (acc := acc) (δ := [.val (linD M s ws t), .val (.str κ.s), iV p, .own (acc.map ppD), iV (low : Int), b5, b6, b7]) hb ⟨_, _, _, rfl⟩ (by
      rintro i hi acc δ hb ⟨b5, b6, b7, rfl⟩
      have hi' := List.mem_range.mp hi
      obtain ⟨c6, c7, e⟩ := lp_turn (a := (low : Int)) (b := (low : Int) + 1 + (i : Int)) (a6 := b6) (a7 := b7) (acc := acc) h hp (by omega) (by omega) (by omega) (by omega) (by omega)
      exact ⟨_, _, rfl, e, _, _, _, rfl⟩)
    refine ⟨[.val (linD M s ws t), .val (.str κ.s), iV p, .own (acc.map ppD), iV (low : Int), b5, b6, b7], _, rfl, ?_, iV (low : Int), c5, c6, c7, rfl⟩
    have ro : (rOk ((low : Int) + 1) && rOk s) = true := by rw [rOk_small (by omega) (by omega), rOk_small (by omega) (by omega)]; rfl
    replace e : forL g__law_pairs_0 b__law_pairs_0 (rngD ((low : Int) + 1) (s - ((low : Int) + 1)).toNat) [.val (linD M s ws t), .val (.str κ.s), iV p, .own (acc.map ppD), iV (low : Int), b5, b6, b7] = _ := e
    show b__law_pairs_1 [.val (linD M s ws t), .val (.str κ.s), iV p, .own (acc.map ppD), iV (low : Int), b5, b6, b7] = _
    decreasing_with first | (with_reducible exact i1) | (with_reducible exact ro) | (with_reducible apply ev_for (h2 := e)))
  rw [List.nil_append] at e
  replace e : forL g__law_pairs_1 b__law_pairs_1 (rngD 0 s.toNat) [.val (linD M s ws t), .val (.str κ.s), iV p, .own [], .emp, .emp, .emp, .emp] = .ok (.nx, [.val (linD M s ws t), .val (.str κ.s), iV p, .own ((lwP s (cdP M ws κ p)).map ppD), b4, b5, b6, b7]) := by
    rw [rngD_nat]
    exact e
  have ro : rOk s = true := rOk_small (by omega) (by omega)
  generalize (lwP s (cdP M ws κ p)).map ppD = PP at *
  apply ev_fn (δ1 := [.val (linD M s ws t), .val (.str κ.s), iV p, .emp, b4, b5, b6, b7])
  · show m__law_pairs [.val (linD M s ws t), .val (.str κ.s), iV p, .emp, .emp, .emp, .emp, .emp] = _
    apply ev_seq
    · decreasing_with fail
    apply ev_seq
    · decreasing_with first | (with_reducible exact i1) | (with_reducible exact ro) | (with_reducible apply ev_for (h2 := e))
    decreasing_with fail
  rfl
theorem ty__law_coefficient {M : Int} {ws : List Int} {κ : Kind} {p : Nat} (h : ModOk M) (hp : p + κ.span < ws.length) : F__law_coefficient [iV M, .val (lI ws), .val (.str κ.s), iV p] = .ok (iV (coefP M ws κ p), [iV M, .val (lI ws), .val (.str κ.s), iV p]) := by
  have x1 := fIx_li (xs := ws) (i := p) (by omega)
  have ek := eq_kind κ
  cases κ with
  | single =>
    apply ev_fn
    show m__law_coefficient [iV M, .val (lI ws), .val (.str Kind.single.s), iV p, .emp] = _
    apply ev_seqR
    apply ev_ifT
    · decreasing_with first | (with_reducible exact ek)
    · rfl
    have x1' : fIx (lI ws) (.int (p : Int)) = .ok (.int (coefP M ws .single p)) := x1
    decreasing_with first | (with_reducible exact x1')
  | swap =>
    have inn : fInD false (.str Kind.swap.s) (.list [.str "twin", .str "jumptwin"]) = .ok (.bool false) := by kernel_rfl
    have sn : F__law_span [.val (.str Kind.swap.s)] = .ok (iV (1 : Nat), [.val (.str Kind.swap.s)]) := ty__law_span
    have x2 : fIx (lI ws) (.int ((p : Int) + ((1 : Nat) : Int))) = .ok (.int (ws.getD (p + 1) 0)) := fIx_li (xs := ws) (i := p + 1) hp
    apply ev_fn
    show m__law_coefficient [iV M, .val (lI ws), .val (.str Kind.swap.s), iV p, .emp] = _
    apply ev_seq
    · apply ev_ifF
      · decreasing_with first | (with_reducible exact ek)
      · rfl
      decreasing_with fail
    apply ev_seq
    · decreasing_with first | (with_reducible exact sn) | (with_reducible exact x2)
    have ife : mIf (mT (mOp (fInD false) (mVar 2) (mFrz (mLst (mCons (mC (.str "twin")) (mCons (mC (.str "jumptwin")) mNil)))))) (mOp fAdd (mOp fIx (mVar 1) (mVar 3)) (mVar 4)) (mOp fSub (mOp fIx (mVar 1) (mVar 3)) (mVar 4)) [iV M, .val (lI ws), .val (.str Kind.swap.s), iV p, iV (ws.getD (p + 1) 0)] = .ok (.int (ws.getD p 0 - ws.getD (p + 1) 0), [iV M, .val (lI ws), .val (.str Kind.swap.s), iV p, iV (ws.getD (p + 1) 0)]) := by
      apply ev_ifeF
      · decreasing_with first | (with_reducible exact inn)
      · rfl
      decreasing_with first | (with_reducible exact x1)
    have mo' : fMod (.int (ws.getD p 0 - ws.getD (p + 1) 0)) (.int M) = .ok (.int (coefP M ws .swap p)) := modM h
    have fi : fInt [.int (ws.getD p 0 - ws.getD (p + 1) 0)] = .ok (iV (ws.getD p 0 - ws.getD (p + 1) 0)) := rfl
    decreasing_with first | (with_reducible exact ife) | (with_reducible exact fi) | (with_reducible exact mo')
  | jump =>
    have inn : fInD false (.str Kind.jump.s) (.list [.str "twin", .str "jumptwin"]) = .ok (.bool false) := by kernel_rfl
    have sn : F__law_span [.val (.str Kind.jump.s)] = .ok (iV (2 : Nat), [.val (.str Kind.jump.s)]) := ty__law_span
    have x2 : fIx (lI ws) (.int ((p : Int) + ((2 : Nat) : Int))) = .ok (.int (ws.getD (p + 2) 0)) := fIx_li (xs := ws) (i := p + 2) hp
    apply ev_fn
    show m__law_coefficient [iV M, .val (lI ws), .val (.str Kind.jump.s), iV p, .emp] = _
    apply ev_seq
    · apply ev_ifF
      · decreasing_with first | (with_reducible exact ek)
      · rfl
      decreasing_with fail
    apply ev_seq
    · decreasing_with first | (with_reducible exact sn) | (with_reducible exact x2)
    have ife : mIf (mT (mOp (fInD false) (mVar 2) (mFrz (mLst (mCons (mC (.str "twin")) (mCons (mC (.str "jumptwin")) mNil)))))) (mOp fAdd (mOp fIx (mVar 1) (mVar 3)) (mVar 4)) (mOp fSub (mOp fIx (mVar 1) (mVar 3)) (mVar 4)) [iV M, .val (lI ws), .val (.str Kind.jump.s), iV p, iV (ws.getD (p + 2) 0)] = .ok (.int (ws.getD p 0 - ws.getD (p + 2) 0), [iV M, .val (lI ws), .val (.str Kind.jump.s), iV p, iV (ws.getD (p + 2) 0)]) := by
      apply ev_ifeF
      · decreasing_with first | (with_reducible exact inn)
      · rfl
      decreasing_with first | (with_reducible exact x1)
    have mo' : fMod (.int (ws.getD p 0 - ws.getD (p + 2) 0)) (.int M) = .ok (.int (coefP M ws .jump p)) := modM h
    have fi : fInt [.int (ws.getD p 0 - ws.getD (p + 2) 0)] = .ok (iV (ws.getD p 0 - ws.getD (p + 2) 0)) := rfl
    decreasing_with first | (with_reducible exact ife) | (with_reducible exact fi) | (with_reducible exact mo')
  | twin =>
    have inn : fInD false (.str Kind.twin.s) (.list [.str "twin", .str "jumptwin"]) = .ok (.bool true) := by kernel_rfl
    have sn : F__law_span [.val (.str Kind.twin.s)] = .ok (iV (1 : Nat), [.val (.str Kind.twin.s)]) := ty__law_span
    have x2 : fIx (lI ws) (.int ((p : Int) + ((1 : Nat) : Int))) = .ok (.int (ws.getD (p + 1) 0)) := fIx_li (xs := ws) (i := p + 1) hp
    apply ev_fn
    show m__law_coefficient [iV M, .val (lI ws), .val (.str Kind.twin.s), iV p, .emp] = _
    apply ev_seq
    · apply ev_ifF
      · decreasing_with first | (with_reducible exact ek)
      · rfl
      decreasing_with fail
    apply ev_seq
    · decreasing_with first | (with_reducible exact sn) | (with_reducible exact x2)
    have ife : mIf (mT (mOp (fInD false) (mVar 2) (mFrz (mLst (mCons (mC (.str "twin")) (mCons (mC (.str "jumptwin")) mNil)))))) (mOp fAdd (mOp fIx (mVar 1) (mVar 3)) (mVar 4)) (mOp fSub (mOp fIx (mVar 1) (mVar 3)) (mVar 4)) [iV M, .val (lI ws), .val (.str Kind.twin.s), iV p, iV (ws.getD (p + 1) 0)] = .ok (.int (ws.getD p 0 + ws.getD (p + 1) 0), [iV M, .val (lI ws), .val (.str Kind.twin.s), iV p, iV (ws.getD (p + 1) 0)]) := by
      apply ev_ifeT
      · decreasing_with first | (with_reducible exact inn)
      · rfl
      decreasing_with first | (with_reducible exact x1)
    have mo' : fMod (.int (ws.getD p 0 + ws.getD (p + 1) 0)) (.int M) = .ok (.int (coefP M ws .twin p)) := modM h
    have fi : fInt [.int (ws.getD p 0 + ws.getD (p + 1) 0)] = .ok (iV (ws.getD p 0 + ws.getD (p + 1) 0)) := rfl
    decreasing_with first | (with_reducible exact ife) | (with_reducible exact fi) | (with_reducible exact mo')
  | jumptwin =>
    have inn : fInD false (.str Kind.jumptwin.s) (.list [.str "twin", .str "jumptwin"]) = .ok (.bool true) := by kernel_rfl
    have sn : F__law_span [.val (.str Kind.jumptwin.s)] = .ok (iV (2 : Nat), [.val (.str Kind.jumptwin.s)]) := ty__law_span
    have x2 : fIx (lI ws) (.int ((p : Int) + ((2 : Nat) : Int))) = .ok (.int (ws.getD (p + 2) 0)) := fIx_li (xs := ws) (i := p + 2) hp
    apply ev_fn
    show m__law_coefficient [iV M, .val (lI ws), .val (.str Kind.jumptwin.s), iV p, .emp] = _
    apply ev_seq
    · apply ev_ifF
      · decreasing_with first | (with_reducible exact ek)
      · rfl
      decreasing_with fail
    apply ev_seq
    · decreasing_with first | (with_reducible exact sn) | (with_reducible exact x2)
    have ife : mIf (mT (mOp (fInD false) (mVar 2) (mFrz (mLst (mCons (mC (.str "twin")) (mCons (mC (.str "jumptwin")) mNil)))))) (mOp fAdd (mOp fIx (mVar 1) (mVar 3)) (mVar 4)) (mOp fSub (mOp fIx (mVar 1) (mVar 3)) (mVar 4)) [iV M, .val (lI ws), .val (.str Kind.jumptwin.s), iV p, iV (ws.getD (p + 2) 0)] = .ok (.int (ws.getD p 0 + ws.getD (p + 2) 0), [iV M, .val (lI ws), .val (.str Kind.jumptwin.s), iV p, iV (ws.getD (p + 2) 0)]) := by
      apply ev_ifeT
      · decreasing_with first | (with_reducible exact inn)
      · rfl
      decreasing_with first | (with_reducible exact x1)
    have mo' : fMod (.int (ws.getD p 0 + ws.getD (p + 2) 0)) (.int M) = .ok (.int (coefP M ws .jumptwin p)) := modM h
    have fi : fInt [.int (ws.getD p 0 + ws.getD (p + 2) 0)] = .ok (iV (ws.getD p 0 + ws.getD (p + 2) 0)) := rfl
    decreasing_with first | (with_reducible exact ife) | (with_reducible exact fi) | (with_reducible exact mo')
/-! texts of wide numbers -/
structure Bg (d : PyData) : Prop where
  ls : d.leavesShort 100 = true
  sw : d.showable = true
  nd : d.hasDict = false
  dp : d.depth ≤ 10
  bk : d.bulk ≤ 1000
theorem bg_int {i : Int} (h : i.natAbs < 10 ^ 70) : (PyData.int i).leavesShort 100 = true ∧ (PyData.int i).showable = true := by
  have e := int_text_length_le10 (a := i) (k := 70) (by decide) h
  have e2 : (PyData.shown (.int i)).length = (toString i).length := by simp only [PyData.shown]; exact PySem.ofString_length _
  have lg : i.natAbs.log2 < 1920 := by
    by_cases z : i.natAbs = 0
    · rw [z]; decide
    · exact Nat.lt_trans (show i.natAbs.log2 < 240 from (Nat.log2_lt z).mpr (Nat.lt_of_lt_of_le h (by decide))) (by decide)
  exact ⟨by simp only [PyData.leavesShort]; exact decide_eq_true (by omega), by simp only [PyData.showable]; exact decide_eq_true lg⟩
theorem bg_ints : ∀ {xs : List Int}, (∀ x ∈ xs, x.natAbs < 10 ^ 70) → PyData.leavesShortAll 100 (xs.map .int) = true ∧ PyData.showableAll (xs.map .int) = true
  | [], _ => by simp [PyData.leavesShortAll, PyData.showableAll]
  | x :: xs, h => by
    have ⟨a, b⟩ := bg_ints (xs := xs) fun y hy => h y (List.mem_cons_of_mem _ hy)
    have ⟨c, d⟩ := bg_int (h x (List.mem_cons_self ..))
    rw [List.map_cons]
    unfold PyData.leavesShortAll PyData.showableAll
    rw [a, b, c, d]
    exact ⟨rfl, rfl⟩
theorem Bg.rep {d : PyData} (h : Bg d) : ∃ z, fRepr [d] = .ok (.val (.str z)) := by
  have z := PyData.shown_le_bulk 100 (by decide) d h.ls
  have b := h.bk
  exact ⟨_, fRepr_go h.sw h.nd (by have := h.dp; omega) (by rw [sizeLine_eq]; omega)⟩
theorem bg_lin {M s t : Int} {ws : List Int} (hM : M.natAbs < 10 ^ 70) (hs : s.natAbs < 10 ^ 70) (ht : t.natAbs < 10 ^ 70) (hw : ∀ x ∈ ws, x.natAbs < 10 ^ 70) (hl : ws.length ≤ 200) : Bg (linD M s ws t) := by
  have ⟨a, b⟩ := bg_int hM
  have ⟨c, d⟩ := bg_int hs
  have ⟨e, f⟩ := bg_int ht
  have ⟨u, v⟩ := bg_ints hw
  refine ⟨?_, ?_, ?_, ?_, ?_⟩
  · simp only [PyData.leavesShort, PyData.leavesShortAll] at *
    simp [a, c, e, u]
  · simp only [PyData.showable, PyData.showableAll] at *
    simp [b, d, f, v]
  · simp [PyData.hasDict, PyData.hasDictAll, noDict_ints]
  · simp [PyData.depth, PyData.depthAll, depth_ints]
  · simp [PyData.bulk, PyData.bulkAll, bulk_ints]; omega
theorem bg_two {L : List Int} (h : ∀ x ∈ L, x.natAbs < 10 ^ 70) (hl : L.length ≤ 100) : Bg (.list [tI L, tI L]) := by
  have ⟨u, v⟩ := bg_ints h
  refine ⟨?_, ?_, ?_, ?_, ?_⟩
  · simp only [PyData.leavesShort, PyData.leavesShortAll, u]; rfl
  · simp only [PyData.showable, PyData.showableAll, v]; rfl
  · simp [PyData.hasDict, PyData.hasDictAll, noDict_ints]
  · simp [PyData.depth, PyData.depthAll, depth_ints]
  · simp [PyData.bulk, PyData.bulkAll, bulk_ints]; omega
theorem m70 {M x : Int} (h : ModOk M) (h0 : 0 ≤ x) (h1 : x ≤ M) : x.natAbs < 10 ^ 70 := Nat.lt_trans (below100 h h0 h1) (by decide)
theorem coefP_lt {M s t : Int} {ws : List Int} {κ : Kind} {p : Nat} (h : LinOk M s ws t) (hp : p + κ.span < ws.length) : coefP M ws κ p < M := by
  have lo := h.m.lo
  have e0 : ws.getD p 0 < M := by
    have z := h.at_ (ws.getD p 0) (by rw [List.getD_eq_getElem?_getD, List.getElem?_eq_getElem (show p < ws.length by omega)]; exact List.getElem_mem _)
    omega
  cases κ <;> first | exact e0 | exact Int.emod_lt_of_pos _ (by omega)
theorem rep_lin34 {M s t : Int} {ws : List Int} (h : LinOk M s ws t) (hl : ws.length ≤ 200) : ∃ z, fRepr [linD M s ws t] = .ok (.val (.str z)) := by
  have lo := h.m.lo
  have s0 := h.s0
  have s1 := h.s1
  have t0 := h.t0
  have t1 := h.t1
  exact (bg_lin (m70 h.m (by omega) (by omega)) (m70 h.m (by omega) s1) (m70 h.m t0 (by omega)) (fun x hx => m70 h.m (by have := h.at_ x hx; omega) (by have := h.at_ x hx; omega)) hl).rep
theorem rp34 (x : PyData) : fRepN (.list [x]) (.int 2) = .ok (.own [x, x]) := by
  unfold fRepN
  exact if_pos (by rw [sizeLine_eq]; simp)
theorem fi0 {xs : List Int} {y : Int} (h : xs.head? = some y) : fIx (lI xs) (.int 0) = .ok (.int y) := by
  cases xs with
  | nil => cases h
  | cons x xs =>
    cases h
    exact ix34 (f := PyData.int) (xs := y :: xs) (i := 0) (by simp)
abbrev srE (g : List PyData) (L : PyData) (z : Str) (P : List (Kind × Nat)) (a4 a5 a6 a7 a8 a9 a10 : Sl) : Ev := [.io 0 g, .val L, .val (.str z), .val (.list (P.map plD)), a4, a5, a6, a7, a8, a9, a10, .emp]
theorem sr_turn {M s t : Int} {ws : List Int} {B : Int} {g : List PyData} {z : Str} {a4 a5 a6 a7 a8 a9 a10 : Sl} (h : LinOk M s ws t) (hM : M ≤ 40) (hs : s ≤ 14) (hl : ws.length ≤ 6) (hg : GenOk (B + 4) g) (hB : 0 ≤ B) (hz : fRepr [linD M s ws t] = .ok (.val (.str z))) :
    ∃ g' a5' a6' a7' a8' a9' a10', GenOk B g' ∧ b__law_small_right_0 (srE g (linD M s ws t) z (plL ws.length) a4 a5 a6 a7 a8 a9 a10) = .ok (.nx, srE g' (linD M s ws t) z (plL ws.length) a4 a5' a6' a7' a8' a9' a10') := by
  have l2 := h.len
  have lo := h.m.lo
  have s0 := h.s0
  have pp := plL_pos (n := ws.length) (by omega)
  have pf := plL_few (n := ws.length) (by omega)
  obtain ⟨k, g1, k0, k1, hg1, e1⟩ := ty__law_randomB (B := B) (bound := ((plL ws.length).length : Int)) hg (by omega) (by omega) hB
  obtain ⟨n, rfl⟩ : ∃ n : Nat, k = (n : Int) := ⟨k.toNat, by omega⟩
  have hn : n < (plL ws.length).length := by omega
  have lp : fLen [.list ((plL ws.length).map plD)] = .ok (iV (plL ws.length).length) := len34
  have ix := ix34 (f := plD) (xs := plL ws.length) hn
  have mem : (plL ws.length)[n] ∈ plL ws.length := List.getElem_mem hn
  generalize (plL ws.length)[n] = kp at ix mem
  obtain ⟨κ, p⟩ := kp
  have hp : p + κ.span < ws.length := mem_plL mem
  have i0 : fIx (linD M s ws t) (.int 0) = .ok (.int M) := rfl
  have i2 : fIx (linD M s ws t) (.int 2) = .ok (lI ws) := rfl
  have ⟨g0, g1'⟩ := st34 h.m (coefP M ws κ p)
  have c0 := coefP_range h hp
  have c1 := coefP_lt h hp
  have le := lwP_eq (s := s) (p := p) (κ := κ) (ws := ws) lo hM s0 hs c0 c1 hp g0 g1'
  have lpr := ty__law_pairs h hp hs
  have few := lwP_le (s := s) (cd := cdP M ws κ p) hs
  rw [le] at lpr few
  have pl := prP_len (s := s) (by omega) g0
  have ct : ctP M s ws κ p = ((prP s (stN M (coefP M ws κ p))).length : Int) := pl.symm
  have lc0 := ty__law_coefficient (ws := ws) (p := p) (κ := κ) h.m hp
  have tp := ty_pairs_by h hp (by omega)
  have hmb := ty_how_many_big h hp
  rw [ct] at hmb
  have tc := ty_coefficient h hp
  have ts := ty_step_of h hp
  obtain ⟨z1, r1⟩ := rep_prP (s := s) h.m h.s1 g0 (by omega)
  obtain ⟨z2, r2⟩ := rep_one (a := ((prP s (stN M (coefP M ws κ p))).length : Int)) (by omega)
  obtain ⟨z3, r3⟩ := rep_one (a := coefP M ws κ p) (by omega)
  obtain ⟨z4, r4⟩ := rep_two (a := stN M (coefP M ws κ p)) (b := stN M (coefP M ws κ p)) (by omega) (by omega)
  have lq : fLen [.list ((prP s (stN M (coefP M ws κ p))).map ppD)] = .ok (iV (prP s (stN M (coefP M ws κ p))).length) := len34
  have ap := ap34 (xs := (prP s (stN M (coefP M ws κ p))).map ppD) (d := .none) (by rw [List.length_map]; omega)
  have fa := (finA34 M (mem_rngI.mpr (by omega)) _ (mem_rngI.mpr (show 0 ≤ coefP M ws κ p ∧ coefP M ws κ p < 0 + (M.toNat : Int) by omega))).2
  have fx := fi0 fa
  have rp := rp34 (.int (stN M (coefP M ws κ p)))
  have hm := h.m
  have st1 : stN M (coefP M ws κ p) ≤ 40 := by omega
  generalize hC : coefP M ws κ p = C at *
  have lc := lcL_pure (g := cg__law_small_right_0) (tt := ct__law_small_right_0) (te := ce__law_small_right_0) (vs := [11]) PyData.int (fun k => C * k % M == 0) PyData.int (srE g1 (linD M s ws t) z (plL ws.length) a4 (.val (.str κ.s)) (iV p) (.val (.list ((prP s (stN M C)).map ppD))) (iV C) (.own ((prP s (stN M C)).map ppD ++ [.none])) a10) (rngI 1 M.toNat) [] (by rw [sizeLine_eq, rngI_len]; show 0 + _ ≤ _; omega) (by
    intro w hw
    have r := mem_rngI.mp hw
    have mu : fMulI (.int C) (.int w) = .ok (.int (C * w)) := fMulI_ok (.inr (by omega))
    have mo : fMod (.int (C * w)) (.int M) = .ok (.int (C * w % M)) := modM hm
    have fi : fInt [.int (C * w)] = .ok (iV (C * w)) := rfl
    have fe : fEq (.int (C * w % M)) (.int 0) = .ok (.bool (C * w % M == 0)) := fEq_i
    refine ⟨[.io 0 g1, .val (linD M s ws t), .val (.str z), .val (.list ((plL ws.length).map plD)), a4, .val (.str κ.s), iV p, .val (.list ((prP s (stN M C)).map ppD)), iV C, .own ((prP s (stN M C)).map ppD ++ [.none]), a10, iV w], rfl, ?_, fun _ => rfl, rfl⟩
    generalize (plL ws.length).map plD = PL at *
    generalize (prP s (stN M C)).map ppD = PP at *
    show ct__law_small_right_0 [.io 0 g1, .val (linD M s ws t), .val (.str z), .val (.list PL), a4, .val (.str κ.s), iV p, .val (.list PP), iV C, .own (PP ++ [.none]), a10, iV w] = _
    decreasing_with first | (with_reducible exact i0) | (with_reducible exact mu) | (with_reducible exact fi) | (with_reducible exact mo) | (with_reducible exact fe))
  rw [List.nil_append] at lc
  have ro : (rOk (1 : Int) && rOk (M + 1)) = true := by rw [rOk_small (by omega) (by omega), rOk_small (by omega) (by omega)]; rfl
  have s1' := ty__law_same r1
  have s2' := ty__law_same r2
  have s3' := ty__law_same r3
  have s4' := ty__law_same r4
  generalize ((prP s (stN M C)).length : Int) = LN at *
  generalize (prP s (stN M C)).map ppD = PP at *
  generalize hS : stN M C = S at *
  generalize hF : (rngI 1 M.toNat).filter (fun k => C * k % M == 0) = FL at *
  replace lc : lcL cg__law_small_right_0 ct__law_small_right_0 ce__law_small_right_0 [11] (rngD 1 (M + 1 - 1).toNat) [] [.io 0 g1, .val (linD M s ws t), .val (.str z), .val (.list ((plL ws.length).map plD)), a4, .val (.str κ.s), iV p, .val (.list PP), iV C, .own (PP ++ [.none]), a10, .emp] = .ok (FL.map .int, [.io 0 g1, .val (linD M s ws t), .val (.str z), .val (.list ((plL ws.length).map plD)), a4, .val (.str κ.s), iV p, .val (.list PP), iV C, .own (PP ++ [.none]), a10, .emp]) := by
    rw [show M + 1 - 1 = M by omega, rngD_I]
    exact lc
  refine ⟨g1, .val (.str κ.s), iV p, .val (.list PP), iV C, .val (.list [.int S, .int S]), iV S, hg1, ?_⟩
  unfold srE
  generalize (plL ws.length).map plD = PL at *
  generalize ((plL ws.length).length : Int) = pn at *
  have ixv : fIx (.list PL) (.int (n : Int)) = .ok (.tuple [.str κ.s, .int (p : Int)]) := ix
  apply ev_seq
  · decreasing_with first | (with_reducible exact lp) | (with_reducible exact e1) | (with_reducible exact ixv)
  apply ev_seq
  · decreasing_with first | (with_reducible exact lpr) | (with_reducible exact i0) | (with_reducible exact i2) | (with_reducible exact lc0)
  apply ev_seq
  · decreasing_with first | (with_reducible exact tp)
  apply ev_seq
  · apply ev_ifF
    · apply ev_orF
      · decreasing_with first | (with_reducible exact s1')
      · rfl
      decreasing_with first | (with_reducible exact hmb) | (with_reducible exact lq) | (with_reducible exact s2')
    · rfl
    decreasing_with fail
  apply ev_seq
  · apply ev_ifF
    · decreasing_with first | (with_reducible exact tc) | (with_reducible exact s3')
    · rfl
    decreasing_with fail
  apply ev_seq
  · decreasing_with first | (with_reducible exact ap)
  apply ev_seq
  · apply ev_ifF
    · apply ev_orF
      · decreasing_with first | (with_reducible exact tp) | (with_reducible exact s1')
      · rfl
      decreasing_with first | (with_reducible exact hz) | (with_reducible exact fNe_str)
    · rfl
    decreasing_with fail
  apply ev_seq
  · decreasing_with first | (with_reducible exact i0) | (with_reducible exact ro) | (focus ((with_reducible show lcL _ _ _ _ _ _ _ = _); exact lc)) | (with_reducible exact fx)
  apply ev_seq
  · decreasing_with first | (with_reducible exact ts)
  apply ev_ifF
  · decreasing_with first | (with_reducible exact rp) | (with_reducible exact s4')
  · rfl
  decreasing_with fail
theorem cut34 {M s t : Int} {ws : List Int} (h : LinOk M s ws t) : LinOk M (if 14 < s then 14 else s) ws t :=
  ⟨h.m, by have := h.s0; split <;> omega, by have := h.s1; split <;> omega, h.len, h.few, h.at_, h.t0, h.t1⟩
theorem ty__law_small_right {g : List PyData} (hg : GenOk 100000 g) : ∃ g', F__law_small_right [.io 0 g] = .ok (.val (.bool true), [.io 0 g']) := by
  obtain ⟨M, s, t, ws, g1, h0, hM, hl, hg1, e1⟩ := ty__law_linear (B := 1000) (b := false) (hg.less (by omega)) (by omega)
  replace hM : M ≤ 40 := hM
  have h := cut34 h0
  have mn : fMin2 [.int s, .int 14] = .ok (iV (if 14 < s then 14 else s)) := rfl
  have hs : (if 14 < s then 14 else s) ≤ 14 := by split <;> omega
  have i0 : fIx (linD M s ws t) (.int 0) = .ok (.int M) := rfl
  have i1 : fIx (linD M s ws t) (.int 1) = .ok (.int s) := rfl
  have i2 : fIx (linD M s ws t) (.int 2) = .ok (lI ws) := rfl
  have i3 : fIx (linD M s ws t) (.int 3) = .ok (.int t) := rfl
  generalize (if 14 < s then 14 else s) = S at *
  obtain ⟨z, hz⟩ := rep_lin34 h (by omega)
  have lp := ty__law_places h (by omega)
  obtain ⟨δ', e, g2, b4, b5, b6, b7, b8, b9, b10, hg2, rfl⟩ := forL_rngZ 4 (g := g__law_small_right_0) (b := b__law_small_right_0) (fun k δ => ∃ g' b4 b5 b6 b7 b8 b9 b10, GenOk (1000 - 4 * (k : Int)) g' ∧ δ = srE g' (linD M S ws t) z (plL ws.length) b4 b5 b6 b7 b8 b9 b10) (n := 4) (δ := srE g1 (linD M S ws t) z (plL ws.length) .emp .emp .emp .emp .emp .emp .emp) ⟨g1, _, _, _, _, _, _, _, hg1.less (by omega), rfl⟩ (by
    rintro k δ hk ⟨g', b4, b5, b6, b7, b8, b9, b10, hg', rfl⟩
    obtain ⟨g2, c5, c6, c7, c8, c9, c10, hg2, e⟩ := sr_turn (a4 := iV (k : Int)) (a5 := b5) (a6 := b6) (a7 := b7) (a8 := b8) (a9 := b9) (a10 := b10) (B := 1000 - 4 * ((k + 1 : Nat) : Int)) h hM hs hl (hg'.less (by omega)) (by omega) hz
    exact ⟨_, _, rfl, e, g2, _, _, _, _, _, _, _, hg2, rfl⟩)
  unfold srE at e
  generalize (plL ws.length).map plD = PL at *
  refine ⟨g2, ?_⟩
  apply ev_fn (δ1 := [.io 0 g2, .val (linD M S ws t), .val (.str z), .val (.list PL), b4, b5, b6, b7, b8, b9, b10, .emp])
  · show m__law_small_right [.io 0 g, .emp, .emp, .emp, .emp, .emp, .emp, .emp, .emp, .emp, .emp, .emp] = _
    apply ev_seq
    · decreasing_with first | (with_reducible exact e1)
    apply ev_seq
    · decreasing_with first | (with_reducible exact i0) | (with_reducible exact i1) | (with_reducible exact i2) | (with_reducible exact i3) | (with_reducible exact mn)
    apply ev_seq
    · decreasing_with first | (with_reducible exact hz) | (with_reducible exact lp)
    apply ev_seq
    · decreasing_with first | ((show rOk 4 = true; rfl)) | (with_reducible apply ev_for (h2 := e))
    decreasing_with fail
  rfl
theorem common_loop : ∀ (m n : Nat), n ≤ 1000 → m ≤ 1000 → ∃ k j, whN wc__law_common_0 wb__law_common_0 k [iV (n : Int), iV (m : Int)] = .ok (.nx, [iV ((Nat.gcd m n : Nat) : Int), iV j]) := by
  intro m
  induction m using Nat.strongRecOn with
  | _ m ih =>
    intro n hn hm
    have tc : wc__law_common_0 [iV (n : Int), iV (m : Int)] = .ok (decide ((m : Int) > 0), [iV (n : Int), iV (m : Int)]) := by decreasing_with fail
    by_cases z : m = 0
    · subst z
      refine ⟨1, ((0 : Nat) : Int), ?_⟩
      rw [Nat.gcd_zero_left]
      exact whN_done tc
    · have e : decide ((m : Int) > 0) = true := decide_eq_true (by omega)
      rw [e] at tc
      obtain ⟨k, j, e1⟩ := ih (n % m) (Nat.mod_lt _ (by omega)) m hm (by have := Nat.mod_lt n (show 0 < m by omega); omega)
      have mo : ((n : Int) % (m : Int)) = ((n % m : Nat) : Int) := rfl
      have tb : wb__law_common_0 [iV (n : Int), iV (m : Int)] = .ok (.nx, [iV (m : Int), iV ((n % m : Nat) : Int)]) := by
        rw [← mo]
        decreasing_with first | ((focus ((with_reducible show _ ∧ _); simp only [List.length_cons, List.length_nil]; omega)))
      refine ⟨k + 1, j, ?_⟩
      rw [whN_step tc tb, Nat.gcd_rec]
      exact e1
theorem ty__law_common {n m : Nat} (hn : n ≤ 1000) (hm : m ≤ 1000) : F__law_common [iV (n : Int), iV (m : Int)] = .ok (iV ((Nat.gcd m n : Nat) : Int), [iV (n : Int), iV (m : Int)]) := by
  obtain ⟨k, j, e⟩ := common_loop m n hn hm
  have w := mWhile_of e
  apply ev_fn (δ1 := [iV ((Nat.gcd m n : Nat) : Int), iV j])
  · show m__law_common [iV (n : Int), iV (m : Int)] = _
    decreasing_with first | (with_reducible exact w)
  rfl
theorem ap_turn {M s g : Int} {low : Nat} {acc : List (Int × Int)} (h : ModOk M) (g1 : 1 ≤ g) (g2 : g ≤ M) (hl : low < (s - g).toNat) (hb : acc.length + (upP s g low).length ≤ 2000) :
    b__law_apart_0 [iV s, iV g, .val (.list (acc.map ppD)), iV (low : Int), .emp] = .ok (.nx, [iV s, iV g, .val (.list ((acc ++ upP s g low).map ppD)), iV (low : Int), .emp]) := by
  have ⟨r1, r2⟩ := rngL34 h g1 g2 hl
  have en := upP_enc (s := s) (g := g) (low := low) rfl
  rw [List.map_append]
  have lb : (acc.map ppD).length + ((upP s g low).map ppD).length ≤ 16777216 := by rw [List.length_map, List.length_map]; omega
  have ad := fAdd_l lb
  have lc := lcL_all (g := cg__law_apart_0) (te := ce__law_apart_0) (vs := [4]) (fun i : Nat => PyData.int ((low : Int) + g + (i : Int) * g)) (fun i : Nat => ppD ((low : Int), (low : Int) + g + (i : Int) * g)) [iV s, iV g, .val (.list (acc.map ppD)), iV (low : Int), .emp] (List.range (upP s g low).length) (by rw [sizeLine_eq, List.length_range]; omega) (by
    intro i hi
    refine ⟨[iV s, iV g, .val (.list (acc.map ppD)), iV (low : Int), iV ((low : Int) + g + (i : Int) * g)], rfl, ?_, rfl⟩
    show ce__law_apart_0 [iV s, iV g, .val (.list (acc.map ppD)), iV (low : Int), iV ((low : Int) + g + (i : Int) * g)] = _
    decreasing_with fail)
  rw [en] at lc
  replace lc : lcL cg__law_apart_0 ct__law_apart_0 ce__law_apart_0 [4] (rngC ((low : Int) + g) g (upP s g low).length) [] [iV s, iV g, .val (.list (acc.map ppD)), iV (low : Int), .emp] = .ok ((upP s g low).map ppD, [iV s, iV g, .val (.list (acc.map ppD)), iV (low : Int), .emp]) := lc
  have it : mRngL (mCons (mOp fAdd (mVar 3) (mVar 1)) (mCons (mVar 0) (mCons (mVar 1) mNil))) [iV s, iV g, .val (.list (acc.map ppD)), iV (low : Int), .emp] = .ok (rngC ((low : Int) + g) g (upP s g low).length, [iV s, iV g, .val (.list (acc.map ppD)), iV (low : Int), .emp]) := by
    refine ev_rngL (i := (low : Int) + g) (j := s) (c := g) ?_ r1 (by rw [r2])
    decreasing_with fail
  generalize (upP s g low).map ppD = U at *
  generalize rngC ((low : Int) + g) g (upP s g low).length = RR at *
  generalize acc.map ppD = AA at *
  decreasing_with first | (with_reducible exact it) | (focus ((with_reducible show lcL _ _ _ _ _ _ _ = _); exact lc)) | (with_reducible exact ad)
theorem ty__law_apart {M s g : Int} (h : ModOk M) (g1 : 1 ≤ g) (g2 : g ≤ M) (hb : (prP s g).length ≤ 2000) : F__law_apart [iV s, iV g] = .ok (.val (.list ((prP s g).map ppD)), [iV s, iV g]) := by
  obtain ⟨δ', e, b3, rfl⟩ := forL_app (g := g__law_apart_0) (b := b__law_apart_0) (fun i : Nat => PyData.int (i : Int)) (upP s g) 2000 (fun acc δ => ∃ b3, δ = [iV s, iV g, .val (.list (acc.map ppD)), b3, .emp]) (List.range (s - g).toNat) (acc := []) (δ := [iV s, iV g, .val (.list []), .emp, .emp]) (by simpa [prP] using hb) ⟨.emp, rfl⟩ (by
    rintro low hl acc δ hb ⟨b3, rfl⟩
    exact ⟨_, _, rfl, ap_turn h g1 g2 (List.mem_range.mp hl) hb, iV (low : Int), rfl⟩)
  rw [List.nil_append] at e
  replace e : forL g__law_apart_0 b__law_apart_0 (rngD 0 (((s - g).toNat : Nat) : Int).toNat) [iV s, iV g, .val (.list []), .emp, .emp] = .ok (.nx, [iV s, iV g, .val (.list ((prP s g).map ppD)), b3, .emp]) := by
    rw [Int.toNat_natCast, rngD_nat]
    exact e
  have few := prP_few (s := s) g1
  have mx := max34 (s - g)
  have ro : rOk (((s - g).toNat : Nat) : Int) = true := rOk_small (by omega) (by omega)
  generalize (prP s g).map ppD = PP at *
  generalize (((s - g).toNat : Nat) : Int) = N at *
  apply ev_fn (δ1 := [iV s, iV g, .val (.list PP), b3, .emp])
  · show m__law_apart [iV s, iV g, .emp, .emp, .emp] = _
    apply ev_seq
    · decreasing_with fail
    apply ev_seq
    · decreasing_with first | (with_reducible exact mx) | (with_reducible exact ro) | (with_reducible apply ev_for (h2 := e))
    decreasing_with fail
  rfl
theorem common37 : ∀ (m n : Nat), ∃ k j, whN wc__law_common_0 wb__law_common_0 k [iV (n : Int), iV (m : Int)] = .ok (.nx, [iV ((Nat.gcd m n : Nat) : Int), iV j]) := by
  intro m
  induction m using Nat.strongRecOn with
  | _ m ih =>
    intro n
    have tc : wc__law_common_0 [iV (n : Int), iV (m : Int)] = .ok (decide ((m : Int) > 0), [iV (n : Int), iV (m : Int)]) := by decreasing_with fail
    by_cases z : m = 0
    · subst z
      refine ⟨1, ((0 : Nat) : Int), ?_⟩
      rw [Nat.gcd_zero_left]
      exact whN_done tc
    · have e : decide ((m : Int) > 0) = true := decide_eq_true (by omega)
      rw [e] at tc
      obtain ⟨k, j, e1⟩ := ih (n % m) (Nat.mod_lt _ (by omega)) m
      have mo : ((n : Int) % (m : Int)) = ((n % m : Nat) : Int) := rfl
      have tb : wb__law_common_0 [iV (n : Int), iV (m : Int)] = .ok (.nx, [iV (m : Int), iV ((n % m : Nat) : Int)]) := by
        rw [← mo]
        decreasing_with first | ((focus ((with_reducible show _ ∧ _); simp only [List.length_cons, List.length_nil]; omega)))
      refine ⟨k + 1, j, ?_⟩
      rw [whN_step tc tb, Nat.gcd_rec]
      exact e1
theorem ty_comI {M x : Int} (hM : 0 ≤ M) (h0 : 0 ≤ x) : F__law_common [iV M, iV x] = .ok (iV (gN M x : Nat), [iV M, iV x]) := by
  obtain ⟨k, j, e⟩ := common37 x.toNat M.toNat
  rw [Nat.gcd_comm, gN_nat hM h0, show ((M.toNat : Nat) : Int) = M by omega, show ((x.toNat : Nat) : Int) = x by omega] at e
  have w := mWhile_of e
  apply ev_fn (δ1 := [iV (gN M x : Nat), iV j])
  · show m__law_common [iV M, iV x] = _
    decreasing_with first | (with_reducible exact w)
  rfl
theorem ty_comM {M : Int} (h : ModOk M) (x : Int) : F__law_common [iV M, iV (x % M)] = .ok (iV (gN M x : Nat), [iV M, iV (x % M)]) := by
  have lo := h.lo
  have z := ty_comI (M := M) (x := x % M) (by omega) (Int.emod_nonneg _ (by omega))
  rwa [gN_mod] at z
theorem cnt_hi {M s g : Int} (h : ModOk M) (s0 : 1 ≤ s) (s1 : s ≤ M) (g0 : 1 ≤ g) : (cntI s g).natAbs < 10 ^ 70 := by
  have nn := cnt_nn s0 g0
  have ⟨q0, q1, p0, p1⟩ := q_range s0 g0
  have le : cntI s g ≤ (s - 1) / g * s := by
    unfold cntI
    have x0 : 0 ≤ g * ((s - 1) / g) * ((s - 1) / g + 1) := Int.mul_nonneg p0 (by omega)
    generalize g * ((s - 1) / g) * ((s - 1) / g + 1) = X at *
    omega
  have le2 : (s - 1) / g * s ≤ 1267650600228229401496703205376 * 1267650600228229401496703205376 :=
    Int.mul_le_mul (by have := h.hi; omega) (by have := h.hi; omega) (by omega) (by omega)
  have e : (1267650600228229401496703205376 * 1267650600228229401496703205376 : Int) < 10 ^ 70 := by decide
  have e2 : ((10 ^ 70 : Nat) : Int) = 10 ^ 70 := by decide
  have : cntI s g < ((10 ^ 70 : Nat) : Int) := by rw [e2]; exact Int.lt_of_le_of_lt (Int.le_trans le le2) e
  omega
theorem gr_turn {M s t : Int} {ws : List Int} {κ : Kind} {p : Nat} {G SH WS a6 a7 a8 a9 a10 : Sl} (h : LinOk M s ws t) (hp : p + κ.span < ws.length) :
    ∃ b6 b7 b8 b9 b10, b__law_great_right_0 [G, .val (linD M s ws t), SH, WS, .val (.str κ.s), iV p, a6, a7, a8, a9, a10, .emp, .emp] = .ok (.nx, [G, .val (linD M s ws t), SH, WS, .val (.str κ.s), iV p, b6, b7, b8, b9, b10, .emp, .emp]) := by
  have lo := h.m.lo
  have hi := h.m.hi
  have s0 := h.s0
  have s1 := h.s1
  have i0 : fIx (linD M s ws t) (.int 0) = .ok (.int M) := rfl
  have i1 : fIx (linD M s ws t) (.int 1) = .ok (.int s) := rfl
  have i2 : fIx (linD M s ws t) (.int 2) = .ok (lI ws) := rfl
  have lc0 := ty__law_coefficient (ws := ws) (p := p) (κ := κ) h.m hp
  have c0 := coefP_range h hp
  have c1 := coefP_lt h hp
  have co := ty_comI (M := M) (x := coefP M ws κ p) (by omega) c0
  have dv := divM h.m (coefP M ws κ p)
  have ⟨g0, g1⟩ := st34 h.m (coefP M ws κ p)
  have hmb := ty_how_many_big h hp
  have tc := ty_coefficient h hp
  have ts := ty_step_of h hp
  obtain ⟨z1, r1⟩ := rep_two (a := coefP M ws κ p) (b := stN M (coefP M ws κ p)) (m70 h.m c0 (by omega)) (m70 h.m (by omega) g1)
  have ch := cnt_hi (s := s) h.m (by omega) s1 g0
  obtain ⟨z2, r2⟩ := rep_two ch ch
  obtain ⟨z3, r3⟩ := rep_one ch
  have cn := cnt_nn (s := s) (by omega) g0
  have pl := prP_len (s := s) (by omega) g0
  have tm := fun hc => ty__law_many (z := z3) h hp hc r3
  have tp := fun hc => ty_pairs_by h hp hc
  have ta := fun hc => ty__law_apart (s := s) h.m g0 g1 hc
  have rp' := fun hc => rep_prP (s := s) h.m h.s1 g0 hc
  have alt := due_alt (s := s) (g := stN M (coefP M ws κ p)) rfl
  have ⟨q0, q1, p0, p1⟩ := q_range (s := s) (by omega) g0
  have d1 : fDiv (.int (s - 1)) (.int (stN M (coefP M ws κ p))) = .ok (.int ((s - 1) / stN M (coefP M ws κ p))) := fDiv_ok (by omega) (Nat.lt_trans (log_lt (j := stN M (coefP M ws κ p)) (n := 100) (by omega) (by rw [show ((2 ^ 100 : Nat) : Int) = 1267650600228229401496703205376 by decide]; omega) (by omega)) (by omega))
  have dc : ∀ n : Nat, (s - 1) / stN M (coefP M ws κ p) = (n : Int) → (dueL s (stN M (coefP M ws κ p)) n).sum = cntI s (stN M (coefP M ws κ p)) := fun n hn => due_cnt hn
  have mQ1 : ∀ {q : Int}, q = (s - 1) / stN M (coefP M ws κ p) → fMulI (.int q) (.int s) = .ok (.int (q * s)) := fun e => mulM h.m (by omega) (by omega) (by omega) s1
  have mQ2 : ∀ {q : Int}, q = (s - 1) / stN M (coefP M ws κ p) → fMulI (.int q) (.int (q + 1)) = .ok (.int (q * (q + 1))) := fun e => mulM h.m (by omega) (by omega) (by omega) (by omega)
  have hT : ∀ {q : Int}, q = (s - 1) / stN M (coefP M ws κ p) → 0 ≤ q * (q + 1) / 2 ∧ fMulI (.int (stN M (coefP M ws κ p))) (.int (q * (q + 1) / 2)) = .ok (.int (stN M (coefP M ws κ p) * (q * (q + 1) / 2))) := fun {q} e => by
    have nn : 0 ≤ q * (q + 1) := Int.mul_nonneg (by omega) (by omega)
    have le2 : q * (q + 1) ≤ 1267650600228229401496703205376 * 1267650600228229401496703205376 := Int.mul_le_mul (by omega) (by omega) (by omega) (by omega)
    have n2 : (q * (q + 1) / 2).natAbs < 2 ^ 200 := by
      have e3 : ((2 ^ 200 : Nat) : Int) = 1267650600228229401496703205376 * 1267650600228229401496703205376 := by decide
      generalize q * (q + 1) = X at *
      generalize (2 : Nat) ^ 200 = Y at *
      omega
    exact ⟨by generalize q * (q + 1) = X at *; omega, fMulI_wide 100 200 (below100 h.m (by omega) g1) n2 (by decide) (by decide) (by decide)⟩
  have sm1 := ty__law_same r1
  have sm2 := ty__law_same r2
  have rp := rp34 (.int (cntI s (stN M (coefP M ws κ p))))
  have hm := h.m
  unfold ctP at *
  generalize coefP M ws κ p = C at *
  generalize hS : stN M C = S at *
  generalize hQ : (s - 1) / S = Q at *
  generalize hK : cntI s S = CT at *
  -- the law's own sum
  have s9 : ∃ d9, mSet 9 (mVal (mIf (mT (mOp fLtI (mVar 8) (mC (.int 50)))) (mFrz (mCall fSum (mCons (mFrz (mLc (mRng2 (mCons (mC (.int 1)) (mCons (mOp fAdd (mVar 8) (mC (.int 1))) mNil))) cg__law_great_right_1 ct__law_great_right_1 ce__law_great_right_1 [12])) mNil))) (mC .none))) [G, .val (linD M s ws t), SH, WS, .val (.str κ.s), iV p, iV C, iV S, iV Q, a9, a10, .emp, .emp] = .ok (.nx, [G, .val (linD M s ws t), SH, WS, .val (.str κ.s), iV p, iV C, iV S, iV Q, .val d9, a10, .emp, .emp]) ∧ (d9 = .int CT ∨ d9 = .none) := by
    by_cases q5 : Q < 50
    · refine ⟨.int CT, ?_, .inl rfl⟩
      obtain ⟨n, rfl⟩ : ∃ n : Nat, Q = (n : Int) := ⟨Q.toNat, by omega⟩
      have lc := lcL_ints (g := cg__law_great_right_1) (te := ce__law_great_right_1) (vs := [12]) (fun i : Nat => PyData.int (1 + (i : Int))) (fun i : Nat => s - S * (1 + (i : Int))) [G, .val (linD M s ws t), SH, WS, .val (.str κ.s), iV p, iV C, iV S, iV (n : Int), a9, a10, .emp, .emp] (List.range n) (by rw [sizeLine_eq, List.length_range]; omega) (by
        intro i hi'
        have hi2 := List.mem_range.mp hi'
        have mu : fMulI (.int S) (.int (1 + (i : Int))) = .ok (.int (S * (1 + (i : Int)))) := fMulI_ok (.inr (by omega))
        refine ⟨[G, .val (linD M s ws t), SH, WS, .val (.str κ.s), iV p, iV C, iV S, iV (n : Int), a9, a10, .emp, iV (1 + (i : Int))], rfl, ?_, rfl⟩
        show ce__law_great_right_1 [G, .val (linD M s ws t), SH, WS, .val (.str κ.s), iV p, iV C, iV S, iV (n : Int), a9, a10, .emp, iV (1 + (i : Int))] = _
        decreasing_with first | (with_reducible exact i1) | (with_reducible exact mu))
      have eL : (List.range n).map (fun i : Nat => s - S * (1 + (i : Int))) = dueL s S n := by
        unfold dueL
        apply List.map_congr_left
        intro i _
        rw [Int.add_comm 1]
      rw [eL] at lc
      replace lc : lcL cg__law_great_right_1 ct__law_great_right_1 ce__law_great_right_1 [12] (rngD 1 ((n : Int) + 1 - 1).toNat) [] [G, .val (linD M s ws t), SH, WS, .val (.str κ.s), iV p, iV C, iV S, iV (n : Int), a9, a10, .emp, .emp] = .ok ((dueL s S n).map .int, [G, .val (linD M s ws t), SH, WS, .val (.str κ.s), iV p, iV C, iV S, iV (n : Int), a9, a10, .emp, .emp]) := by
        rw [show ((n : Int) + 1 - 1).toNat = n by omega]
        exact lc
      have su := fSum_ints (dueL s S n)
      rw [dc n rfl] at su
      have ro : (rOk (1 : Int) && rOk ((n : Int) + 1)) = true := by rw [rOk_small (by omega) (by omega), rOk_small (by omega) (by omega)]; rfl
      generalize (dueL s S n).map PyData.int = DD at *
      have ie : mIf (mT (mOp fLtI (mVar 8) (mC (.int 50)))) (mFrz (mCall fSum (mCons (mFrz (mLc (mRng2 (mCons (mC (.int 1)) (mCons (mOp fAdd (mVar 8) (mC (.int 1))) mNil))) cg__law_great_right_1 ct__law_great_right_1 ce__law_great_right_1 [12])) mNil))) (mC .none) [G, .val (linD M s ws t), SH, WS, .val (.str κ.s), iV p, iV C, iV S, iV (n : Int), a9, a10, .emp, .emp] = .ok (.int CT, [G, .val (linD M s ws t), SH, WS, .val (.str κ.s), iV p, iV C, iV S, iV (n : Int), a9, a10, .emp, .emp]) := by
        apply ev_ifeT
        · decreasing_with fail
        · exact decide_eq_true q5
        decreasing_with first | (with_reducible exact ro) | (focus ((with_reducible show lcL _ _ _ _ _ _ _ = _); exact lc)) | (with_reducible exact su)
      decreasing_with first | (with_reducible exact ie)
    · refine ⟨.none, ?_, .inr rfl⟩
      have ie : mIf (mT (mOp fLtI (mVar 8) (mC (.int 50)))) (mFrz (mCall fSum (mCons (mFrz (mLc (mRng2 (mCons (mC (.int 1)) (mCons (mOp fAdd (mVar 8) (mC (.int 1))) mNil))) cg__law_great_right_1 ct__law_great_right_1 ce__law_great_right_1 [12])) mNil))) (mC .none) [G, .val (linD M s ws t), SH, WS, .val (.str κ.s), iV p, iV C, iV S, iV Q, a9, a10, .emp, .emp] = .ok (.none, [G, .val (linD M s ws t), SH, WS, .val (.str κ.s), iV p, iV C, iV S, iV Q, a9, a10, .emp, .emp]) := by
        apply ev_ifeF
        · decreasing_with fail
        · exact decide_eq_false q5
        decreasing_with fail
      decreasing_with first | (with_reducible exact ie)
  obtain ⟨d9, e9, hd9⟩ := s9
  refine ⟨iV C, iV S, iV Q, iV CT, iV CT, ?_⟩
  apply ev_seq
  · decreasing_with first | (with_reducible exact i0) | (with_reducible exact i2) | (with_reducible exact lc0)
  apply ev_seq
  · decreasing_with first | (with_reducible exact i0) | (with_reducible exact co) | (with_reducible exact dv)
  apply ev_seq
  · decreasing_with first | (with_reducible exact i1) | (with_reducible exact d1)
  apply ev_seq
  · exact e9
  apply ev_seq
  · decreasing_with first | (with_reducible exact hmb)
  apply ev_seq
  · apply ev_ifF
    · decreasing_with first | (with_reducible exact tc) | (with_reducible exact ts) | (with_reducible exact sm1)
    · rfl
    decreasing_with fail
  refine ev_seq (δ1 := [G, .val (linD M s ws t), SH, WS, .val (.str κ.s), iV p, iV C, iV S, iV Q, iV CT, iV CT, .emp, .emp]) ?_ ?_
  · rcases hd9 with rfl | rfl
    · have n1 : fIsN (.int CT) .none = .ok (.bool false) := rfl
      apply ev_ifF
      · decreasing_with first | (with_reducible exact n1)
      · rfl
      decreasing_with fail
    · have n1 : fIsN .none .none = .ok (.bool true) := rfl
      have m1 := mQ1 rfl
      have m2 := mQ2 rfl
      have ⟨x0, m3⟩ := hT rfl
      have dd : fDiv (.int (Q * (Q + 1))) (.int 2) = .ok (.int (Q * (Q + 1) / 2)) := fDiv_s (by omega) (by omega)
      have sb : fSub (.int (Q * s)) (.int (S * (Q * (Q + 1) / 2))) = .ok (.int CT) := by rw [← alt]; rfl
      apply ev_ifT
      · decreasing_with first | (with_reducible exact n1)
      · rfl
      decreasing_with first | (with_reducible exact i1) | (with_reducible exact m1) | (with_reducible exact m2) | (with_reducible exact m3) | (with_reducible exact dd) | (with_reducible exact sb)
  apply ev_seq
  · apply ev_ifF
    · decreasing_with first | (with_reducible exact hmb) | (with_reducible exact rp) | (with_reducible exact sm2)
    · rfl
    decreasing_with fail
  by_cases big : 2000 < CT
  · have g2 : fGtI (.int CT) (.int 2000) = .ok (.bool true) := by rw [fGtI_i, decide_eq_true big]
    have g3 : fLeI (.int CT) (.int 2000) = .ok (.bool false) := by rw [fLeI_i, decide_eq_false (by omega)]
    have tm' := tm big
    apply ev_seq
    · apply ev_ifF (p := false)
      · apply ev_andT (p := true)
        · decreasing_with first | (with_reducible exact g2)
        · rfl
        decreasing_with first | (with_reducible exact tm')
      · rfl
      decreasing_with fail
    apply ev_ifF (p := false)
    · apply ev_andF (p := false)
      · decreasing_with first | (with_reducible exact g3)
      · rfl
    · rfl
    decreasing_with fail
  · have g2 : fGtI (.int CT) (.int 2000) = .ok (.bool false) := by rw [fGtI_i, decide_eq_false big]
    have g3 : fLeI (.int CT) (.int 2000) = .ok (.bool true) := by rw [fLeI_i, decide_eq_true (by omega)]
    have tp' := tp (by omega)
    have ta' := ta (by omega)
    obtain ⟨z4, r4⟩ := rp' (by omega)
    have sm4 := ty__law_same r4
    generalize (prP s S).map ppD = PP at *
    apply ev_seq
    · apply ev_ifF (p := false)
      · apply ev_andF (p := false)
        · decreasing_with first | (with_reducible exact g2)
        · rfl
      · rfl
      decreasing_with fail
    apply ev_ifF (p := false)
    · apply ev_andT (p := true)
      · decreasing_with first | (with_reducible exact g3)
      · rfl
      decreasing_with first | (with_reducible exact tp') | (with_reducible exact i1) | (with_reducible exact ta') | (with_reducible exact sm4)
    · rfl
    decreasing_with fail
theorem lin_up {M s t sh : Int} {ws vs : List Int} (h : LinOk M s ws t) (hM : M ≤ 10000000000000000000000000001) (h2 : 2 ≤ sh) (h3 : sh ≤ 61) (hl : vs.length = ws.length) (hv : ∀ x ∈ vs, 1 ≤ x ∧ x ≤ M * sh - 1) : LinOk (M * sh) s vs t := by
  have lo := h.m.lo
  have e1 : M * 1 ≤ M * sh := Int.mul_le_mul_of_nonneg_left (by omega) (by omega)
  have e2 : M * sh ≤ 10000000000000000000000000001 * 61 := Int.mul_le_mul hM h3 (by omega) (by omega)
  have := h.s1
  have := h.t1
  rw [Int.mul_one] at e1
  exact ⟨mod34 (by omega) (by omega), h.s0, by omega, by rw [hl]; exact h.len, by rw [hl]; exact h.few, hv, h.t0, by omega⟩
theorem ty__law_great_right {g : List PyData} (hg : GenOk 100000 g) : ∃ g', F__law_great_right [.io 0 g] = .ok (.val (.bool true), [.io 0 g']) := by
  obtain ⟨M, s, t, ws, g1, h0, hM, hl, hg1, e1⟩ := ty__law_linear (B := 1000) (b := true) (hg.less (by omega)) (by omega)
  replace hM : M ≤ 10000000000000000000000000001 := hM
  have lo := h0.m.lo
  obtain ⟨r, g2, r0, r1, hg2, e2⟩ := ty__law_randomB (B := 900) (bound := 60) (hg1.less (by omega)) (by omega) (by omega) (by omega)
  have i0 : fIx (linD M s ws t) (.int 0) = .ok (.int M) := rfl
  have i1 : fIx (linD M s ws t) (.int 1) = .ok (.int s) := rfl
  have i2 : fIx (linD M s ws t) (.int 2) = .ok (lI ws) := rfl
  have i3 : fIx (linD M s ws t) (.int 3) = .ok (.int t) := rfl
  generalize hsh : 2 + r = sh at *
  have ad : fAdd (.int 2) (.int r) = .ok (.int sh) := by rw [fAdd_i, hsh]
  obtain ⟨ys, δ', lc, xs, g5, rfl, xl, xr, hg5, rfl⟩ := lcL_inv (g := cg__law_great_right_0) (tt := ct__law_great_right_0) (te := ce__law_great_right_0) (vs := [11]) (fun k acc δ => ∃ (xs : List Int) (g' : List PyData), acc = xs.map .int ∧ xs.length = k ∧ (∀ x ∈ xs, 1 ≤ x ∧ x ≤ M * sh - 1) ∧ GenOk (900 - 4 * k) g' ∧ δ = [.io 0 g', .val (linD M s ws t), iV sh, .emp, .emp, .emp, .emp, .emp, .emp, .emp, .emp, .emp, .emp]) (ds := ws.map .int) (acc := []) (δ := [.io 0 g2, .val (linD M s ws t), iV sh, .emp, .emp, .emp, .emp, .emp, .emp, .emp, .emp, .emp, .emp]) 0 (by rw [sizeLine_eq, List.length_map]; show 0 + _ ≤ _; omega) ⟨[], g2, rfl, rfl, (fun _ h => (nomatch h)), hg2.less (by omega), rfl⟩ (by
    rintro i d acc δ hd ⟨xs, g', rfl, xl, xr, hg', rfl⟩
    rw [List.getElem?_map] at hd
    cases hq : ws[i]? with
    | none => rw [hq] at hd; cases hd
    | some w =>
      rw [hq] at hd
      replace hd : PyData.int w = d := Option.some.inj hd
      subst hd
      obtain ⟨hi, hw⟩ := List.getElem?_eq_some_iff.mp hq
      have wr := h0.at_ w (by rw [← hw]; exact List.getElem_mem hi)
      obtain ⟨k, g6, k0, k1, hg6, e6⟩ := ty__law_randomB (B := 900 - 4 * ((0 + i + 1 : Nat) : Int)) (bound := 2) (hg'.less (by omega)) (by omega) (by omega) (by omega)
      obtain ⟨c, hc0, hc1, ixc⟩ : ∃ c : Int, 1 ≤ c ∧ c ≤ sh ∧ fIx (.list [.int 1, .int sh]) (.int k) = .ok (.int c) := by
        rcases (show k = 0 ∨ k = 1 by omega) with rfl | rfl
        · exact ⟨1, by omega, by omega, rfl⟩
        · exact ⟨sh, by omega, by omega, rfl⟩
      have mu : fMulI (.int w) (.int c) = .ok (.int (w * c)) := fMulI_ok (.inr (by omega))
      have m1 : w * 1 ≤ w * c := Int.mul_le_mul_of_nonneg_left hc0 (by omega)
      have m2 : w * c ≤ (M - 1) * sh := Int.mul_le_mul wr.2 hc1 (by omega) (by omega)
      have m3 : (M - 1) * sh = M * sh - sh := by rw [Int.sub_mul, Int.one_mul]
      refine ⟨[.io 0 g', .val (linD M s ws t), iV sh, .emp, .emp, .emp, .emp, .emp, .emp, .emp, .emp, iV w, .emp], [.io 0 g', .val (linD M s ws t), iV sh, .emp, .emp, .emp, .emp, .emp, .emp, .emp, .emp, iV w, .emp], true, rfl, rfl, fun _ => ⟨.int (w * c), [.io 0 g6, .val (linD M s ws t), iV sh, .emp, .emp, .emp, .emp, .emp, .emp, .emp, .emp, iV w, .emp], ?_, xs ++ [w * c], g6, by rw [List.map_append]; rfl, by rw [List.length_append, xl]; rfl, ?_, hg6, rfl⟩, fun z => nomatch z⟩
      · show ce__law_great_right_0 [.io 0 g', .val (linD M s ws t), iV sh, .emp, .emp, .emp, .emp, .emp, .emp, .emp, .emp, iV w, .emp] = _
        decreasing_with first | (with_reducible exact e6) | (with_reducible exact ixc) | (with_reducible exact mu)
      · intro x hx
        rcases List.mem_append.mp hx with hx | hx
        · exact xr x hx
        · rw [List.mem_singleton] at hx
          omega)
  rw [List.length_map] at xl
  have mm : fMulI (.int M) (.int sh) = .ok (.int (M * sh)) := fMulI_ok (.inr (by omega))
  have h := lin_up h0 hM (by omega) (by omega) (by omega) xr
  generalize M * sh = N at *
  have lp := ty__law_places h (by omega)
  obtain ⟨δ', e, b4, b5, b6, b7, b8, b9, b10, rfl⟩ := forL_list (g := g__law_great_right_0) (b := b__law_great_right_0) plD (fun _ δ => ∃ b4 b5 b6 b7 b8 b9 b10, δ = [.io 0 g5, .val (linD N s xs t), iV sh, .val (lI xs), b4, b5, b6, b7, b8, b9, b10, .emp, .emp]) (xs := plL xs.length) (δ := [.io 0 g5, .val (linD N s xs t), iV sh, .val (lI xs), .emp, .emp, .emp, .emp, .emp, .emp, .emp, .emp, .emp]) ⟨_, _, _, _, _, _, _, rfl⟩ (by
    rintro k ⟨κ, p⟩ δ hk ⟨b4, b5, b6, b7, b8, b9, b10, rfl⟩
    obtain ⟨c6, c7, c8, c9, c10, e⟩ := gr_turn (G := .io 0 g5) (SH := iV sh) (WS := .val (lI xs)) (a6 := b6) (a7 := b7) (a8 := b8) (a9 := b9) (a10 := b10) h (mem_plL (List.mem_of_getElem? hk))
    exact ⟨_, _, rfl, e, _, _, _, _, _, _, _, rfl⟩)
  have tc : F_coefficient [.val (linD N s xs t), .val (.str "single"), iV 0] = .ok (iV (xs.getD 0 0), [.val (linD N s xs t), .val (.str "single"), iV 0]) := ty_coefficient (κ := .single) (p := 0) h (by have := h.len; show 0 + 0 < _; omega)
  have j2 : fIx (linD N s xs t) (.int 2) = .ok (lI xs) := rfl
  have j0 : fIx (lI xs) (.int 0) = .ok (.int (xs.getD 0 0)) := fIx_li (xs := xs) (i := 0) (by have := h.len; omega)
  have fe : fEq (.int (xs.getD 0 0)) (.int (xs.getD 0 0)) = .ok (.bool true) := by rw [fEq_i]; simp
  generalize (plL xs.length).map plD = PL at *
  refine ⟨g5, ?_⟩
  apply ev_fn (δ1 := [.io 0 g5, .val (linD N s xs t), iV sh, .val (lI xs), b4, b5, b6, b7, b8, b9, b10, .emp, .emp])
  · show m__law_great_right [.io 0 g, .emp, .emp, .emp, .emp, .emp, .emp, .emp, .emp, .emp, .emp, .emp, .emp] = _
    apply ev_seq
    · decreasing_with first | (with_reducible exact e1)
    apply ev_seq
    · decreasing_with first | (with_reducible exact e2) | (with_reducible exact ad)
    apply ev_seq
    · decreasing_with first | (with_reducible exact i2) | (focus ((with_reducible show lcL _ _ _ _ _ _ _ = _); exact lc))
    apply ev_seq
    · decreasing_with first | (with_reducible exact i0) | (with_reducible exact i1) | (with_reducible exact i3) | (with_reducible exact mm)
    apply ev_seq
    · decreasing_with first | (with_reducible exact lp) | (with_reducible apply ev_for (h2 := e))
    decreasing_with first | (with_reducible exact tc) | (with_reducible exact j2) | (with_reducible exact j0) | (with_reducible exact fe)
  rfl
def cellI (ns : List Int) (i : Nat) : Int := if h : i < ns.length then ns[i] else (ns.take 1).sum % 1000003
theorem ty__law_cell {ns : List Int} {i : Nat} : F__law_cell [.val (lI ns), iV i] = .ok (iV (cellI ns i), [.val (lI ns), iV i]) := by
  refine ev_fn (δ1 := [.val (lI ns), iV i]) ?_ rfl
  show m__law_cell [.val (lI ns), iV i] = _
  unfold cellI
  by_cases h : i < ns.length
  · rw [dif_pos h]
    have e : fIx (lI ns) (.int i) = .ok (.int ns[i]) := by
      show (match atI (ns.map PyData.int) (i : Int) with | some d => Res.ok d | none => .no) = _
      rw [atI_map _ _ _ h]
    refine ev_seqR ?_
    apply ev_ifT
    decreasing_with fail
    · simpa using h
    decreasing_with first | (with_reducible exact e)
  · rw [dif_neg h]
    have e : fSum [.list (cutD (ns.map .int) none (some 1))] = .ok (.val (.int (ns.take 1).sum)) := by
      rw [show (1 : Int) = ((1 : Nat) : Int) from rfl, cut_take, ← List.map_take, fSum_ints]
    apply ev_seq
    · apply ev_ifF
      decreasing_with fail
      · simpa using h
      decreasing_with fail
    decreasing_with first | (with_reducible exact e)
theorem pow18 : fPow (.int 10) (.int 18) = .ok (.int 1000000000000000000) := by kernel_rfl
theorem pow60 : fPow (.int 10) (.int 60) = .ok (.int (10 ^ 60)) := by kernel_rfl
theorem pow600 : fPow (.int (10 ^ 60)) (.int 10) = .ok (.int ((10 ^ 60) ^ 10)) := by kernel_rfl
theorem ty__law_generator {ns : List Int} {i : Nat} (hi : i ≤ 1000) : ∃ g, GenOk 100000 g ∧ F__law_generator [.val (lI ns), iV i] = .ok (.own g, [.val (lI ns), iV i]) := by
  have hp : (0 : Int) < (10 ^ 60) ^ 10 := Int.pow_pos (Int.pow_pos (by decide))
  refine ⟨[.int ((if 0 > cellI ns i - 1000000000000000000 then 0 else cellI ns i - 1000000000000000000) % ((10 ^ 60) ^ 10)), .int (cellI ns i % 2147483647), .int (1000 * i)], ⟨_, _, _, rfl, Int.emod_nonneg _ (by omega), Int.emod_nonneg _ (by decide), by omega, by omega⟩, ?_⟩
  have fm : fMod (.int (if 0 > cellI ns i - 1000000000000000000 then 0 else cellI ns i - 1000000000000000000)) (.int ((10 ^ 60) ^ 10)) = .ok (.int ((if 0 > cellI ns i - 1000000000000000000 then 0 else cellI ns i - 1000000000000000000) % ((10 ^ 60) ^ 10))) := fMod_ok hp
  apply ev_fn
  show m__law_generator [.val (lI ns), iV i, .emp] = _
  decreasing_with first | (with_reducible exact ty__law_cell) | (with_reducible exact pow18) | (with_reducible exact pow60) | (with_reducible exact pow600) | (with_reducible exact fm)
abbrev tenD : PyData := .tuple [.int 10, .int 10, .list [.int 1, .int 3, .int 1, .int 3], .int 0]
theorem tenO : LinOk 10 10 [1, 3, 1, 3] 0 := ⟨mod34 (by decide) (by decide), by decide, by decide, by decide, by decide, by decide, by decide, by decide⟩
abbrev isbD : PyData := .tuple [.int 11, .int 11, .list [.int 10, .int 9, .int 8, .int 7, .int 6, .int 5, .int 4, .int 3, .int 2, .int 1], .int 0]
theorem isbO : LinOk 11 11 [10, 9, 8, 7, 6, 5, 4, 3, 2, 1] 0 := ⟨mod34 (by decide) (by decide), by decide, by decide, by decide, by decide, by decide, by decide, by decide⟩
abbrev mnyD : PyData := .tuple [.int 100000000000000000000000000000, .int 64, .list [.int 1, .int 1], .int 0]
theorem mnyO : LinOk 100000000000000000000000000000 64 [1, 1] 0 := ⟨mod34 (by decide) (by decide), by decide, by decide, by decide, by decide, by decide, by decide, by decide⟩
abbrev mn3D : PyData := .tuple [.int 100000000000000000000000000000, .int 63, .list [.int 1, .int 1], .int 0]
theorem mn3O : LinOk 100000000000000000000000000000 63 [1, 1] 0 := ⟨mod34 (by decide) (by decide), by decide, by decide, by decide, by decide, by decide, by decide, by decide⟩
abbrev t36D : PyData := .tuple [.int 36, .int 36, .list [.int 1, .int 5, .int 31], .int 0]
theorem t36O : LinOk 36 36 [1, 5, 31] 0 := ⟨mod34 (by decide) (by decide), by decide, by decide, by decide, by decide, by decide, by decide, by decide⟩
abbrev t4kD : PyData := .tuple [.int 4000, .int 4000, .list [.int 1, .int 3], .int 0]
theorem t4kO : LinOk 4000 4000 [1, 3] 0 := ⟨mod34 (by decide) (by decide), by decide, by decide, by decide, by decide, by decide, by decide, by decide⟩
def q63 : List PyData := (prP 63 1).map ppD
def q36 : List PyData := (prP 36 9).map ppD
def q4k : List PyData := (prP 4000 2000).map ppD
theorem l1 : F_coefficient [.val tenD, .val (.str "swap"), iV 0] = .ok (iV 8, [.val tenD, .val (.str "swap"), iV 0]) := by
  have z := ty_coefficient (κ := .swap) (p := 0) tenO (by decide)
  rw [show coefP 10 [1, 3, 1, 3] .swap 0 = 8 by decide +kernel] at z
  exact z
theorem l2 : F_step_of [.val tenD, .val (.str "swap"), iV 0] = .ok (iV 5, [.val tenD, .val (.str "swap"), iV 0]) := by
  have z := ty_step_of (κ := .swap) (p := 0) tenO (by decide)
  rw [show stN 10 (coefP 10 [1, 3, 1, 3] .swap 0) = 5 by decide +kernel] at z
  exact z
theorem l3 : F_how_many_by [.val tenD, .val (.str "swap"), iV 0] = .ok (iV 5, [.val tenD, .val (.str "swap"), iV 0]) := by
  have z := ty_how_many_big (κ := .swap) (p := 0) tenO (by decide)
  rw [show ctP 10 10 [1, 3, 1, 3] .swap 0 = 5 by decide +kernel] at z
  exact z
theorem l4 : F_pairs_by [.val tenD, .val (.str "swap"), iV 0] = .ok (.own [.tuple [.int 0, .int 5], .tuple [.int 1, .int 6], .tuple [.int 2, .int 7], .tuple [.int 3, .int 8], .tuple [.int 4, .int 9]], [.val tenD, .val (.str "swap"), iV 0]) := by
  have z := ty_pairs_by (κ := .swap) (p := 0) tenO (by decide) (by decide +kernel)
  rw [show prP 10 (stN 10 (coefP 10 [1, 3, 1, 3] .swap 0)) = [(0, 5), (1, 6), (2, 7), (3, 8), (4, 9)] by decide +kernel] at z
  exact z
theorem l5 : F_how_many_by [.val tenD, .val (.str "jump"), iV 0] = .ok (iV 45, [.val tenD, .val (.str "jump"), iV 0]) := by
  have z := ty_how_many_big (κ := .jump) (p := 0) tenO (by decide)
  rw [show ctP 10 10 [1, 3, 1, 3] .jump 0 = 45 by decide +kernel] at z
  exact z
theorem l6 : F_step_of [.val tenD, .val (.str "jump"), iV 1] = .ok (iV 1, [.val tenD, .val (.str "jump"), iV 1]) := by
  have z := ty_step_of (κ := .jump) (p := 1) tenO (by decide)
  rw [show stN 10 (coefP 10 [1, 3, 1, 3] .jump 1) = 1 by decide +kernel] at z
  exact z
theorem l7 : F_pairs_by [.val mn3D, .val (.str "swap"), iV 0] = .ok (.own q63, [.val mn3D, .val (.str "swap"), iV 0]) := by
  have z := ty_pairs_by (κ := .swap) (p := 0) mn3O (by decide) (by decide +kernel)
  rw [show stN 100000000000000000000000000000 (coefP 100000000000000000000000000000 [1, 1] .swap 0) = 1 by decide +kernel] at z
  exact z
theorem l8 : F_pairs_by [.val t36D, .val (.str "swap"), iV 0] = .ok (.own q36, [.val t36D, .val (.str "swap"), iV 0]) := by
  have z := ty_pairs_by (κ := .swap) (p := 0) t36O (by decide) (by decide +kernel)
  rw [show stN 36 (coefP 36 [1, 5, 31] .swap 0) = 9 by decide +kernel] at z
  exact z
theorem l9 : F_pairs_by [.val t4kD, .val (.str "swap"), iV 0] = .ok (.own q4k, [.val t4kD, .val (.str "swap"), iV 0]) := by
  have z := ty_pairs_by (κ := .swap) (p := 0) t4kO (by decide) (by decide +kernel)
  rw [show stN 4000 (coefP 4000 [1, 3] .swap 0) = 2000 by decide +kernel] at z
  exact z
theorem l10 : F__law_many [.val mnyD, .val (.str "swap"), iV 0, iV 2016] = .ok (.val (.bool true), [.val mnyD, .val (.str "swap"), iV 0, iV 2016]) := by
  have e : ctP 100000000000000000000000000000 64 [1, 1] .swap 0 = 2016 := by decide +kernel
  obtain ⟨z, hz⟩ := rep_one (a := 2016) (by decide)
  have z := ty__law_many (κ := .swap) (p := 0) (z := z) mnyO (by decide) (by rw [e]; decide) (by rw [e]; exact hz)
  rw [e] at z
  exact z
theorem isb0 : ∀ p, p < 9 → ctP 11 11 [10, 9, 8, 7, 6, 5, 4, 3, 2, 1] .swap p = 0 := by decide +kernel
theorem l11 {p : Nat} (h : p < 9) : F_how_many_by [.val isbD, .val (.str "swap"), iV (p : Int)] = .ok (iV 0, [.val isbD, .val (.str "swap"), iV (p : Int)]) := by
  have z := ty_how_many_big (κ := .swap) (p := p) isbO (by show p + 1 < 10; omega)
  rw [isb0 p h] at z
  exact z
theorem p4k : prP 4000 2000 = (List.range 2000).map fun low : Nat => ((low : Int), (low : Int) + 2000) := by decide +kernel
theorem q4k_eq : (List.range 2000).map (fun i : Nat => ppD ((i : Int), (i : Int) + 2000)) = q4k := by
  unfold q4k
  rw [p4k, List.map_map]; rfl
theorem m4k : ModOk 4000 := mod34 (by decide) (by decide)
theorem n63 : (prP 63 1).length ≤ 2000 := by
  have n := prP_len (s := 63) (g := 1) (by decide) (by decide)
  rw [show cntI 63 1 = 1953 by decide +kernel] at n
  omega
theorem n36 : (prP 36 9).length ≤ 2000 := by
  have n := prP_len (s := 36) (g := 9) (by decide) (by decide)
  rw [show cntI 36 9 = 54 by decide +kernel] at n
  omega
theorem n4k : (prP 4000 2000).length ≤ 2000 := by
  have n := prP_len (s := 4000) (g := 2000) (by decide) (by decide)
  rw [show cntI 4000 2000 = 2000 by decide +kernel] at n
  omega
theorem ap63 : F__law_apart [iV 63, iV 1] = .ok (.val (.list q63), [iV 63, iV 1]) := ty__law_apart m4k (by decide) (by decide) n63
theorem ap36 : F__law_apart [iV 36, iV 9] = .ok (.val (.list q36), [iV 36, iV 9]) := ty__law_apart m4k (by decide) (by decide) n36
theorem s63 : F__law_same [.val (.list q63), .val (.list q63)] = .ok (.val (.bool true), [.val (.list q63), .val (.list q63)]) := by
  obtain ⟨z, r⟩ := rep_prP (s := 63) (g := 1) m4k (by decide) (by decide) n63
  exact ty__law_same r
theorem s36 : F__law_same [.val (.list q36), .val (.list q36)] = .ok (.val (.bool true), [.val (.list q36), .val (.list q36)]) := by
  obtain ⟨z, r⟩ := rep_prP (s := 36) (g := 9) m4k (by decide) (by decide) n36
  exact ty__law_same r
theorem s4k : F__law_same [.val (.list q4k), .val (.list q4k)] = .ok (.val (.bool true), [.val (.list q4k), .val (.list q4k)]) := by
  obtain ⟨z, r⟩ := rep_prP (s := 4000) (g := 2000) m4k (by decide) (by decide) n4k
  exact ty__law_same r
abbrev tD34 : PyData := .list [.int 8, .int 5, .int 5, .list [.tuple [.int 0, .int 5], .tuple [.int 1, .int 6], .tuple [.int 2, .int 7], .tuple [.int 3, .int 8], .tuple [.int 4, .int 9]], .int 45, .int 1, .list [.int 0, .int 0, .int 0, .int 0, .int 0, .int 0, .int 0, .int 0, .int 0]]
theorem tD_rep : fRepr [tD34] = .ok (.val (.str tD34.shown)) := fRepr_ok (by decide +kernel) (by decide +kernel) (by decide +kernel)
abbrev slL (ns : List Int) (a1 a2 a3 a4 a5 a6 : Sl) : Ev := [.val (lI ns), a1, a2, a3, a4, a5, a6, .emp, .emp]
theorem small_turn {ns : List Int} {i : Nat} (hi : i ≤ 10) : b_law_0 (slL ns (iV i) .emp .emp .emp .emp .emp) = .ok (.nx, slL ns (iV i) .emp .emp .emp .emp .emp) := by
  obtain ⟨g, G, e1⟩ := ty__law_generator (ns := ns) (i := i) (by omega)
  obtain ⟨g2, e2⟩ := ty__law_small_right G
  show b_law_0 [.val (lI ns), iV i, .emp, .emp, .emp, .emp, .emp, .emp, .emp] = _
  apply ev_ifF
  · decreasing_with first | (with_reducible exact e1) | (with_reducible exact e2)
  · rfl
  decreasing_with fail
theorem great_turn {ns : List Int} {i : Nat} (hi : i ≤ 10) : b_law_1 (slL ns (iV i) .emp .emp .emp .emp .emp) = .ok (.nx, slL ns (iV i) .emp .emp .emp .emp .emp) := by
  obtain ⟨g, G, e1⟩ := ty__law_generator (ns := ns) (i := i) (by omega)
  obtain ⟨g2, e2⟩ := ty__law_great_right G
  show b_law_1 [.val (lI ns), iV i, .emp, .emp, .emp, .emp, .emp, .emp, .emp] = _
  apply ev_ifF
  · decreasing_with first | (with_reducible exact e1) | (with_reducible exact e2)
  · rfl
  decreasing_with fail
theorem ty_law {ns : List Int} : ∃ as', F_law [.val (lI ns)] = .ok (.val (.bool true), as') := by
  obtain ⟨δ', el, j1, rfl⟩ := forL_rngZ (g := g_law_0) (b := b_law_0) 4 (n := 4) (fun i δ => ∃ j1, δ = slL ns j1 .emp .emp .emp .emp .emp) (δ := slL ns .emp .emp .emp .emp .emp .emp) ⟨_, rfl⟩ (by
    rintro i δ hi ⟨j1, rfl⟩
    exact ⟨slL ns (iV i) .emp .emp .emp .emp .emp, _, rfl, small_turn (by omega), _, rfl⟩)
  have eg : forL g_law_1 b_law_1 (rngD 4 ((6 : Int) - 4).toNat) (slL ns j1 .emp .emp .emp .emp .emp) = .ok (.nx, slL ns (iV 5) .emp .emp .emp .emp .emp) := by
    show forL g_law_1 b_law_1 [.int ((4 : Nat) : Int), .int ((5 : Nat) : Int)] _ = _
    rw [forL_cons (δ1 := slL ns (iV ((4 : Nat) : Int)) .emp .emp .emp .emp .emp) rfl (great_turn (by omega))]
    rw [forL_cons (δ1 := slL ns (iV ((5 : Nat) : Int)) .emp .emp .emp .emp .emp) rfl (great_turn (by omega))]
    rfl
  have p29 : fPow (.int 10) (.int 29) = .ok (.int 100000000000000000000000000000) := by kernel_rfl
  have sl1 : fSl mnyD none (some 1) = .ok (.val (.tuple [.int 100000000000000000000000000000])) := by kernel_rfl
  have ad1 : fAdd (.tuple [.int 100000000000000000000000000000]) (.tuple [.int 63, .list [.int 1, .int 1], .int 0]) = .ok mn3D := by kernel_rfl
  have a1 : fAdd (.list [.int 8, .int 5]) (.list [.int 5, .list [.tuple [.int 0, .int 5], .tuple [.int 1, .int 6], .tuple [.int 2, .int 7], .tuple [.int 3, .int 8], .tuple [.int 4, .int 9]]]) = .ok (.list [.int 8, .int 5, .int 5, .list [.tuple [.int 0, .int 5], .tuple [.int 1, .int 6], .tuple [.int 2, .int 7], .tuple [.int 3, .int 8], .tuple [.int 4, .int 9]]]) := fAdd_l (by simp)
  have a2 : fAdd (.list [.int 8, .int 5, .int 5, .list [.tuple [.int 0, .int 5], .tuple [.int 1, .int 6], .tuple [.int 2, .int 7], .tuple [.int 3, .int 8], .tuple [.int 4, .int 9]]]) (.list [.int 45, .int 1]) = .ok (.list [.int 8, .int 5, .int 5, .list [.tuple [.int 0, .int 5], .tuple [.int 1, .int 6], .tuple [.int 2, .int 7], .tuple [.int 3, .int 8], .tuple [.int 4, .int 9]], .int 45, .int 1]) := fAdd_l (by simp)
  have a3 : fAdd (.list [.int 8, .int 5, .int 5, .list [.tuple [.int 0, .int 5], .tuple [.int 1, .int 6], .tuple [.int 2, .int 7], .tuple [.int 3, .int 8], .tuple [.int 4, .int 9]], .int 45, .int 1]) (.list [.list [.int 0, .int 0, .int 0, .int 0, .int 0, .int 0, .int 0, .int 0, .int 0]]) = .ok tD34 := fAdd_l (by simp)
  have rp9 : fRepN (.list [.int 0]) (.int 9) = .ok (.own [.int 0, .int 0, .int 0, .int 0, .int 0, .int 0, .int 0, .int 0, .int 0]) := rep34 (n := 9) (by omega)
  have lc0 := lcL_all (g := cg_law_0) (te := ce_law_0) (vs := [7]) (fun i : Nat => PyData.int (i : Int)) (fun _ => PyData.int 0) [.val (lI ns), iV 5, .val tenD, .val isbD, .val (.list [.int 8, .int 5, .int 5, .list [.tuple [.int 0, .int 5], .tuple [.int 1, .int 6], .tuple [.int 2, .int 7], .tuple [.int 3, .int 8], .tuple [.int 4, .int 9]], .int 45, .int 1]), .emp, .emp, .emp, .emp] (List.range 9) (by rw [sizeLine_eq, List.length_range]; omega) (by
    intro i hi
    have hi' := List.mem_range.mp hi
    refine ⟨[.val (lI ns), iV 5, .val tenD, .val isbD, .val (.list [.int 8, .int 5, .int 5, .list [.tuple [.int 0, .int 5], .tuple [.int 1, .int 6], .tuple [.int 2, .int 7], .tuple [.int 3, .int 8], .tuple [.int 4, .int 9]], .int 45, .int 1]), .emp, .emp, iV (i : Int), .emp], rfl, ?_, rfl⟩
    show ce_law_0 [.val (lI ns), iV 5, .val tenD, .val isbD, .val (.list [.int 8, .int 5, .int 5, .list [.tuple [.int 0, .int 5], .tuple [.int 1, .int 6], .tuple [.int 2, .int 7], .tuple [.int 3, .int 8], .tuple [.int 4, .int 9]], .int 45, .int 1]), .emp, .emp, iV (i : Int), .emp] = _
    decreasing_with first | (with_reducible exact l11 hi'))
  replace lc0 : lcL cg_law_0 ct_law_0 ce_law_0 [7] (rngD 0 (Int.toNat 9)) [] [.val (lI ns), iV 5, .val tenD, .val isbD, .val (.list [.int 8, .int 5, .int 5, .list [.tuple [.int 0, .int 5], .tuple [.int 1, .int 6], .tuple [.int 2, .int 7], .tuple [.int 3, .int 8], .tuple [.int 4, .int 9]], .int 45, .int 1]), .emp, .emp, .emp, .emp] = .ok ([.int 0, .int 0, .int 0, .int 0, .int 0, .int 0, .int 0, .int 0, .int 0], [.val (lI ns), iV 5, .val tenD, .val isbD, .val (.list [.int 8, .int 5, .int 5, .list [.tuple [.int 0, .int 5], .tuple [.int 1, .int 6], .tuple [.int 2, .int 7], .tuple [.int 3, .int 8], .tuple [.int 4, .int 9]], .int 45, .int 1]), .emp, .emp, .emp, .emp]) := by
    rw [rngD_nat]
    exact lc0
  have lc1 := lcL_all (g := cg_law_1) (te := ce_law_1) (vs := [8]) (fun i : Nat => PyData.int (i : Int)) (fun i : Nat => ppD ((i : Int), (i : Int) + 2000)) [.val (lI ns), iV 5, .val tenD, .val isbD, .val tD34, .val tD34, .val mnyD, .emp, .emp] (List.range 2000) (by rw [sizeLine_eq, List.length_range]; omega) (by
    intro i hi
    refine ⟨[.val (lI ns), iV 5, .val tenD, .val isbD, .val tD34, .val tD34, .val mnyD, .emp, iV (i : Int)], rfl, ?_, rfl⟩
    generalize tD34 = T
    show ce_law_1 [.val (lI ns), iV 5, .val tenD, .val isbD, .val T, .val T, .val mnyD, .emp, iV (i : Int)] = _
    decreasing_with fail)
  rw [q4k_eq] at lc1
  replace lc1 : lcL cg_law_1 ct_law_1 ce_law_1 [8] (rngD 0 (Int.toNat 2000)) [] [.val (lI ns), iV 5, .val tenD, .val isbD, .val tD34, .val tD34, .val mnyD, .emp, .emp] = .ok (q4k, [.val (lI ns), iV 5, .val tenD, .val isbD, .val tD34, .val tD34, .val mnyD, .emp, .emp]) := by
    rw [show Int.toNat 2000 = 2000 from rfl, rngD_nat]
    exact lc1
  have mc : mLc (mRng1 (mCons (mC (.int 2000)) mNil)) cg_law_1 ct_law_1 ce_law_1 [8] [.val (lI ns), iV 5, .val tenD, .val isbD, .val tD34, .val tD34, .val mnyD, .emp, .emp] = .ok (.own q4k, [.val (lI ns), iV 5, .val tenD, .val isbD, .val tD34, .val tD34, .val mnyD, .emp, .emp]) := by
    refine ev_lc (ev_rng1 (k := 2000) (δ1 := [.val (lI ns), iV 5, .val tenD, .val isbD, .val tD34, .val tD34, .val mnyD, .emp, .emp]) rfl (by decide)) rfl rfl lc1 rfl
  clear lc1
  have s4 := ty__law_same tD_rep
  refine ⟨_, ev_fn (δ1 := [.val (lI ns), iV 5, .val tenD, .val isbD, .val tD34, .val tD34, .val mnyD, .emp, .emp]) (δ2 := [.val (lI ns)]) ?_ rfl⟩
  show m_law [.val (lI ns), .emp, .emp, .emp, .emp, .emp, .emp, .emp, .emp] = _
  refine ev_seq (δ1 := slL ns j1 .emp .emp .emp .emp .emp) ?_ ?_
  · decreasing_with first | ((show rOk 4 = true; rfl)) | (with_reducible apply ev_for (h2 := el))
  refine ev_seq (δ1 := [.val (lI ns), iV 5, .emp, .emp, .emp, .emp, .emp, .emp, .emp]) ?_ ?_
  · show mFor _ g_law_1 b_law_1 [.val (lI ns), j1, .emp, .emp, .emp, .emp, .emp, .emp, .emp] = _
    decreasing_with first | ((show (rOk 4 && rOk 6) = true; rfl)) | (with_reducible apply ev_for (h2 := eg))
  apply ev_seq
  · decreasing_with fail
  apply ev_seq
  · decreasing_with first | (with_reducible exact l1) | (with_reducible exact l2)
  apply ev_seq
  · decreasing_with first | (with_reducible exact l3) | (with_reducible exact l4) | (with_reducible exact a1)
  apply ev_seq
  · decreasing_with first | (with_reducible exact l5) | (with_reducible exact l6) | (with_reducible exact a2)
  apply ev_seq
  · decreasing_with first | ((show rOk 9 = true; rfl)) | (focus ((with_reducible show lcL _ _ _ _ _ _ _ = _); exact lc0)) | (with_reducible exact a3)
  apply ev_seq
  · decreasing_with first | (with_reducible exact rp9)
  apply ev_seq
  · decreasing_with first | (with_reducible exact p29)
  apply ev_seq
  · apply ev_ifF
    · decreasing_with first | (with_reducible exact sl1) | (with_reducible exact ad1) | (with_reducible exact l7) | (with_reducible exact ap63) | (with_reducible exact s63)
    · rfl
    decreasing_with fail
  apply ev_seq
  · apply ev_ifF
    · decreasing_with first | (with_reducible exact l8) | (with_reducible exact ap36) | (with_reducible exact s36)
    · rfl
    decreasing_with fail
  apply ev_seq
  · apply ev_ifF
    · decreasing_with first | (with_reducible exact l9) | (with_reducible exact mc) | (with_reducible exact s4k)
    · rfl
    decreasing_with fail
  have e1 : mFrz (mCallV 2 F__law_same (mCons (mVar 4) (mCons (mVar 5) mNil))) [.val (lI ns), iV 5, .val tenD, .val isbD, .val tD34, .val tD34, .val mnyD, .emp, .emp] = .ok (.bool true, [.val (lI ns), iV 5, .val tenD, .val isbD, .val tD34, .val tD34, .val mnyD, .emp, .emp]) := by
    generalize tD34 = T at *
    decreasing_with first | (with_reducible exact s4)
  have e2 : mFrz (mCallV 4 F__law_many (mCons (mVar 6) (mCons (mC (.str "swap")) (mCons (mC (.int 0)) (mCons (mC (.int 2016)) mNil))))) [.val (lI ns), iV 5, .val tenD, .val isbD, .val tD34, .val tD34, .val mnyD, .emp, .emp] = .ok (.bool true, [.val (lI ns), iV 5, .val tenD, .val isbD, .val tD34, .val tD34, .val mnyD, .emp, .emp]) := by
    generalize tD34 = T at *
    decreasing_with first | (with_reducible exact l10)
  have an := ev_andV e1 (fun _ => e2)
  rw [Bool.and_self] at an
  generalize tD34 = T at *
  decreasing_with first | (with_reducible exact an)
end N34

namespace N34
open PySem PySem.Spec PyProof.Rows L2 CW
theorem mkFx {P : Program} {w : World} {K : PySem.W.Frag} {h : Heap} {mg : Str → Option Value} (X : K.In h) (G : h.Ns mainGlobals mg) (c : He.SaysD faL fnL K) (cx : exR K = true) (ct : tsR.map (fun t => He.dicW K (t.1 K)) = tsR.map fun t => some (He.keysIn w.params t.2)) (hfl : P.main.file = "/claim/cut.py") (htp : (P.main.scope.names.lookup ("super" : Str)).isSome = false) : Nonempty (Fx P w K mg) := by
  obtain ⟨fd_is_whole, D_is_whole⟩ := c.def_ 0 (d := d_is_whole) rfl
  obtain ⟨fd_is_between, D_is_between⟩ := c.def_ 1 (d := d_is_between) rfl
  obtain ⟨fd_linear_fits, D_linear_fits⟩ := c.def_ 3 (d := d_linear_fits) rfl
  obtain ⟨fd_check_linear, D_check_linear⟩ := c.def_ 4 (d := d_check_linear) rfl
  obtain ⟨fd_check_place, D_check_place⟩ := c.def_ 5 (d := d_check_place) rfl
  obtain ⟨fd_coefficient_in, D_coefficient_in⟩ := c.def_ 6 (d := d_coefficient_in) rfl
  obtain ⟨fd_coefficient, D_coefficient⟩ := c.def_ 9 (d := d_coefficient) rfl
  obtain ⟨fd_divisor_of, D_divisor_of⟩ := c.def_ 2 (d := d_divisor_of) rfl
  obtain ⟨fd_step_in, D_step_in⟩ := c.def_ 7 (d := d_step_in) rfl
  obtain ⟨fd_step_of, D_step_of⟩ := c.def_ 10 (d := d_step_of) rfl
  obtain ⟨fd__law_same, D__law_same⟩ := c.def_ 17 (d := d__law_same) rfl
  obtain ⟨fd_count_in, D_count_in⟩ := c.def_ 8 (d := d_count_in) rfl
  obtain ⟨fd_pairs_by, D_pairs_by⟩ := c.def_ 12 (d := d_pairs_by) rfl
  obtain ⟨fd__law_many, D__law_many⟩ := c.def_ 29 (d := d__law_many) rfl
  obtain ⟨fd__law_hash, D__law_hash⟩ := c.def_ 13 (d := d__law_hash) rfl
  obtain ⟨fd__law_random, D__law_random⟩ := c.def_ 14 (d := d__law_random) rfl
  obtain ⟨fd__law_linear, D__law_linear⟩ := c.def_ 18 (d := d__law_linear) rfl
  obtain ⟨fd__law_span, D__law_span⟩ := c.def_ 21 (d := d__law_span) rfl
  obtain ⟨fd__law_places, D__law_places⟩ := c.def_ 25 (d := d__law_places) rfl
  obtain ⟨fd__law_slipped, D__law_slipped⟩ := c.def_ 23 (d := d__law_slipped) rfl
  obtain ⟨fd__law_weighted, D__law_weighted⟩ := c.def_ 20 (d := d__law_weighted) rfl
  obtain ⟨fd__law_pairs, D__law_pairs⟩ := c.def_ 24 (d := d__law_pairs) rfl
  obtain ⟨fd__law_coefficient, D__law_coefficient⟩ := c.def_ 22 (d := d__law_coefficient) rfl
  obtain ⟨fd_how_many_by, D_how_many_by⟩ := c.def_ 11 (d := d_how_many_by) rfl
  obtain ⟨fd__law_small_right, D__law_small_right⟩ := c.def_ 26 (d := d__law_small_right) rfl
  obtain ⟨fd__law_common, D__law_common⟩ := c.def_ 19 (d := d__law_common) rfl
  obtain ⟨fd__law_apart, D__law_apart⟩ := c.def_ 27 (d := d__law_apart) rfl
  obtain ⟨fd__law_great_right, D__law_great_right⟩ := c.def_ 28 (d := d__law_great_right) rfl
  obtain ⟨fd__law_cell, D__law_cell⟩ := c.def_ 15 (d := d__law_cell) rfl
  obtain ⟨fd__law_generator, D__law_generator⟩ := c.def_ 16 (d := d__law_generator) rfl
  unfold exR at cx
  try simp only [Bool.and_eq_true] at cx
  exact ⟨⟨hfl,
    htp,
    He.glo_ok X G (c.fact 47 (f := .glo "TooMany") rfl),
    CW.excB_ok cx.2,
    fd_is_whole, D_is_whole, He.glo_ok X G (c.fact 0 (f := .glo "is_whole") rfl),
    fd_is_between, D_is_between, He.glo_ok X G (c.fact 1 (f := .glo "is_between") rfl),
    fd_linear_fits, D_linear_fits, He.glo_ok X G (c.fact 3 (f := .glo "linear_fits") rfl),
    fd_check_linear, D_check_linear, He.glo_ok X G (c.fact 4 (f := .glo "check_linear") rfl),
    fd_check_place, D_check_place, He.glo_ok X G (c.fact 5 (f := .glo "check_place") rfl),
    fd_coefficient_in, D_coefficient_in, He.glo_ok X G (c.fact 6 (f := .glo "coefficient_in") rfl),
    fd_coefficient, D_coefficient, He.glo_ok X G (c.fact 9 (f := .glo "coefficient") rfl),
    fd_divisor_of, D_divisor_of, He.glo_ok X G (c.fact 2 (f := .glo "divisor_of") rfl),
    fd_step_in, D_step_in, He.glo_ok X G (c.fact 7 (f := .glo "step_in") rfl),
    fd_step_of, D_step_of, He.glo_ok X G (c.fact 10 (f := .glo "step_of") rfl),
    fd__law_same, D__law_same, He.glo_ok X G (c.fact 17 (f := .glo "_law_same") rfl),
    fd_count_in, D_count_in, He.glo_ok X G (c.fact 8 (f := .glo "count_in") rfl),
    fd_pairs_by, D_pairs_by, He.glo_ok X G (c.fact 12 (f := .glo "pairs_by") rfl),
    fd__law_many, D__law_many, He.glo_ok X G (c.fact 29 (f := .glo "_law_many") rfl),
    fd__law_hash, D__law_hash, He.glo_ok X G (c.fact 13 (f := .glo "_law_hash") rfl),
    fd__law_random, D__law_random, He.glo_ok X G (c.fact 14 (f := .glo "_law_random") rfl),
    fd__law_linear, D__law_linear, He.glo_ok X G (c.fact 18 (f := .glo "_law_linear") rfl),
    fd__law_span, D__law_span, He.glo_ok X G (c.fact 21 (f := .glo "_law_span") rfl),
    fd__law_places, D__law_places, He.glo_ok X G (c.fact 25 (f := .glo "_law_places") rfl),
    fd__law_slipped, D__law_slipped, He.glo_ok X G (c.fact 23 (f := .glo "_law_slipped") rfl),
    fd__law_weighted, D__law_weighted, He.glo_ok X G (c.fact 20 (f := .glo "_law_weighted") rfl),
    fd__law_pairs, D__law_pairs, He.glo_ok X G (c.fact 24 (f := .glo "_law_pairs") rfl),
    fd__law_coefficient, D__law_coefficient, He.glo_ok X G (c.fact 22 (f := .glo "_law_coefficient") rfl),
    fd_how_many_by, D_how_many_by, He.glo_ok X G (c.fact 11 (f := .glo "how_many_by") rfl),
    fd__law_small_right, D__law_small_right, He.glo_ok X G (c.fact 26 (f := .glo "_law_small_right") rfl),
    fd__law_common, D__law_common, He.glo_ok X G (c.fact 19 (f := .glo "_law_common") rfl),
    fd__law_apart, D__law_apart, He.glo_ok X G (c.fact 27 (f := .glo "_law_apart") rfl),
    fd__law_great_right, D__law_great_right, He.glo_ok X G (c.fact 28 (f := .glo "_law_great_right") rfl),
    fd__law_cell, D__law_cell, He.glo_ok X G (c.fact 15 (f := .glo "_law_cell") rfl),
    fd__law_generator, D__law_generator, He.glo_ok X G (c.fact 16 (f := .glo "_law_generator") rfl),
    He.free_ok X G (c.fact 31 (f := .free "bool") rfl),
    He.free_ok X G (c.fact 32 (f := .free "int") rfl),
    He.free_ok X G (c.fact 33 (f := .free "isinstance") rfl),
    He.free_ok X G (c.fact 34 (f := .free "len") rfl),
    He.free_ok X G (c.fact 35 (f := .free "list") rfl),
    He.free_ok X G (c.fact 36 (f := .free "max") rfl),
    He.free_ok X G (c.fact 37 (f := .free "min") rfl),
    He.free_ok X G (c.fact 38 (f := .free "range") rfl),
    He.free_ok X G (c.fact 39 (f := .free "repr") rfl),
    He.free_ok X G (c.fact 40 (f := .free "str") rfl),
    He.free_ok X G (c.fact 41 (f := .free "sum") rfl),
    He.free_ok X G (c.fact 42 (f := .free "super") rfl),
    He.free_ok X G (c.fact 43 (f := .free "tuple") rfl),
    He.free_ok X G (c.fact 44 (f := .free "zip") rfl),
    He.int_ok X G (c.fact 45 (f := .int "MOST_LISTED" 2000) rfl),
    He.glo_ok X G (c.fact 46 (f := .glo "SPANS") rfl),
    ktab_of (tab_at ct 0) cx.1⟩⟩
theorem lawFacts {P : Program} {w : World} {K : PySem.W.Frag} {h : Heap} {mg : Str → Option Value} {fa : Addr} (X : K.In h) (G : h.Ns mainGlobals mg) (hfa : mg ("law" : Str) = some (.ref fa)) (c : He.SaysD faL fnL K) (cx : exR K = true) (ct : tsR.map (fun t => He.dicW K (t.1 K)) = tsR.map fun t => some (He.keysIn w.params t.2)) (hfl : P.main.file = "/claim/cut.py") (htp : (P.main.scope.names.lookup ("super" : Str)).isSome = false) :
    ∃ fd : FuncData, (∀ (s : Shared) (v : Value), BindsTo s fd ⟨[v], []⟩ [("script", v)]) ∧ ∀ base : Heap, K.In base → base.Ns mainGlobals mg → FnG P w K mg base CX0 9 fa fd ["script"] (spD K mg 1 F_law) := by
  obtain ⟨x⟩ := mkFx (P := P) X G c cx ct hfl htp
  obtain ⟨fd, D⟩ := c.def_ 30 (d := d_law) rfl
  have e := hfa.symm.trans (He.glo_ok X G (c.fact 30 (f := .glo "law") rfl))
  cases e
  have b := FunD.bindsA (ps := ["script"]) D fun _ _ _ _ _ _ us hl => match us, hl with | [_], _ => rfl
  exact ⟨fd, fun s v => b s [v] rfl, fun base _ _ => fn_law x D⟩
end N34
open PySem PySem.W PySem.Calls PyProof.Rows
theorem PySem.Challenge.cw_checkwright_k34_whole_steps_holds : PySem.Challenge.rw_checkwright_k34_whole_steps.Holds := by
  w_on; o_law
  refine HandSHeadRun.head_any (r := OpenLaw.row PySem.Challenge.rw_checkwright_k34_whole_steps) (q := view (OpenLaw.row PySem.Challenge.rw_checkwright_k34_whole_steps).prog [41]) (H := N34.hkR) (ob := N34.obR) (M := 6000) (loose := N34.looseR) (d := HandSHeadRun.topDef (OpenLaw.row PySem.Challenge.rw_checkwright_k34_whole_steps).prog 41) (kwd := []) N34.obR_eq
    (by kernel_rfl) (fun s => by kernel_rfl) N34.runR (by kernel_rfl) (by kernel_rfl) (by kernel_rfl) (by rfl) (by first | assumption | decide +kernel) (by decide +kernel) ⟨rfl, rfl, rfl, rfl, rfl, by decide +kernel⟩ ?hw ?hc
  case hw => w_witness2
  case hc =>
    refine CW.walk_ofG (l := PySem.Challenge.rw_checkwright_k34_whole_steps) (n := 63) (k := 9) (x := "script") rfl (by decide) (by kernel_rfl) ⟨rfl, by decide, by decide⟩ ?F
    intro w mg fa h Y G hmg0
    obtain ⟨K, KX, c, cx, ct⟩ := Y
    have hmg : mg ("law" : PySem.Str) = some (.ref fa) := by
      have e : (HandSHeadRun.topDef (OpenLaw.row PySem.Challenge.rw_checkwright_k34_whole_steps).prog 41).name = ("law" : PySem.Str) := by kernel_rfl
      rw [← e]
      exact hmg0
    obtain ⟨fd, hb, hF⟩ := N34.lawFacts (P := (PySem.Challenge.rw_checkwright_k34_whole_steps).prog) (w := w) KX G hmg c cx ct (by kernel_rfl) (by kernel_rfl)
    refine ⟨K, fd, CW.spD K mg 1 N34.F_law, KX, hb, fun H a ns hl _ hS => ?_, hF⟩
    obtain ⟨as', e⟩ := N34.ty_law (ns := ns)
    exact CW.law_sp e hS
