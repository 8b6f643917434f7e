import PyProof.Rows.All
import Wide.All
import OpenK.AllK
import Wide.FinOn
import HandS.ForExc
import HandS.Comp
import HandS.Dict
import HandS.Iter
import HandS.Walk
import HandS.Text
import HandS.Sort
import HandS.SortRule
import HandS.SortInts
import HandS.Flow
import HandS.Wide
import HandS.TupAny
import HandS.TupMul
import HandS.Zip
import HandS.IsInst
import HandS.Conv
import HandS.Defaults
import HandS.HeadHook4
import HandS.HeadWalk
import HandS.Head3
import KE.SortData
import KE.GoesEnum
import KE.GoesZip
import KE.GoesMore
import HandS.TupLe
import PyProof.DictUpdate
import HandS.Style
import PySem.Challenge.RW_pacewide_k10_codes_known
set_option Elab.async false
set_option linter.all false
set_option maxRecDepth 100000
set_option maxHeartbeats 4000000
/-! A layer of data over HandS: slots hold data (PyData), mutable objects stand in a list M, judgements over the text itself (JE, JT, JA, JS, JB). -/
namespace DL
open PySem PySem.Spec PyProof.Rows L2

abbrev Frag := PySem.W.Frag
abbrev St := L2.St

/-! ### data at a value -/
mutual
inductive Rp (K : Frag) (B : Hp) : V → PyData → Prop
  | non : Rp K B .non .none
  | bl (b : Bool) : Rp K B (.bl b) (.bool b)
  | int (i : Int) : Rp K B (.int i) (.int i)
  | str (x : Str) : Rp K B (.str x) (.str x)
  | lst {a : Addr} {xs : List V} {ds : List PyData} : SqL K B a xs → RpAll K B xs ds → Rp K B (.ref a) (.list ds)
  | tup {a : Addr} {xs : List V} {ds : List PyData} : SqT K B a xs → RpAll K B xs ds → Rp K B (.ref a) (.tuple ds)
  | dct {a : Addr} : B a = some (.dK []) → Rp K B (.ref a) (.dict [])
inductive RpAll (K : Frag) (B : Hp) : List V → List PyData → Prop
  | nil : RpAll K B [] []
  | cons {v : V} {vs : List V} {d : PyData} {ds : List PyData} : Rp K B v d → RpAll K B vs ds → RpAll K B (v :: vs) (d :: ds)
end

theorem sql_le {K : Frag} {B B' : Hp} {a : Addr} {xs : List V} (e : Same B B') (h : SqL K B a xs) : SqL K B' a xs := e.seq h
theorem sqt_le {K : Frag} {B B' : Hp} {a : Addr} {xs : List V} (e : Same B B') (h : SqT K B a xs) : SqT K B' a xs := by
  rcases h with (h | ⟨o, h⟩) | h
  · exact .inl (.inl (e _ _ h))
  · exact .inl (.inr ⟨o, e _ _ h⟩)
  · exact .inr h
mutual
theorem Rp.le {K : Frag} {B B' : Hp} (e : Same B B') : ∀ {v : V} {d : PyData}, Rp K B v d → Rp K B' v d
  | _, _, .non => .non
  | _, _, .bl b => .bl b
  | _, _, .int i => .int i
  | _, _, .str x => .str x
  | _, _, .lst h a => .lst (sql_le e h) (RpAll.le e a)
  | _, _, .tup h a => .tup (sqt_le e h) (RpAll.le e a)
  | _, _, .dct h => .dct (e _ _ h)
theorem RpAll.le {K : Frag} {B B' : Hp} (e : Same B B') : ∀ {vs : List V} {ds : List PyData}, RpAll K B vs ds → RpAll K B' vs ds
  | _, _, .nil => .nil
  | _, _, .cons h a => .cons (Rp.le e h) (RpAll.le e a)
end
section
variable {K : Frag} {B : Hp} {v : V} {d : PyData} {vs ws : List V} {ds es : List PyData}
theorem RpAll.length : ∀ {vs : List V} {ds : List PyData}, RpAll K B vs ds → vs.length = ds.length
  | _, _, .nil => rfl
  | _, _, .cons _ a => congrArg Nat.succ (RpAll.length a)
theorem RpAll.append : ∀ {vs : List V} {ds : List PyData}, RpAll K B vs ds → RpAll K B ws es → RpAll K B (vs ++ ws) (ds ++ es)
  | _, _, .nil, b => b
  | _, _, .cons h a, b => .cons h (RpAll.append a b)
theorem RpAll.get : ∀ {vs : List V} {ds : List PyData} {i : Nat} {v : V}, RpAll K B vs ds → vs[i]? = some v → ∃ d, ds[i]? = some d ∧ Rp K B v d
  | _, _, _, _, .nil, e => by simp at e
  | _, _, 0, _, .cons h _, e => by
    simp at e
    subst e
    exact ⟨_, rfl, h⟩
  | _, _, i + 1, _, .cons _ a, e => by
    obtain ⟨d, h1, h2⟩ := RpAll.get (i := i) a (by simpa using e)
    exact ⟨d, by simpa using h1, h2⟩
theorem RpAll.getD : ∀ {vs : List V} {ds : List PyData} {i : Nat} {d : PyData}, RpAll K B vs ds → ds[i]? = some d → ∃ v, vs[i]? = some v ∧ Rp K B v d
  | _, _, _, _, .nil, e => by simp at e
  | _, _, 0, _, .cons h _, e => by
    simp at e
    subst e
    exact ⟨_, rfl, h⟩
  | _, _, i + 1, _, .cons _ a, e => by
    obtain ⟨v, h1, h2⟩ := RpAll.getD (i := i) a (by simpa using e)
    exact ⟨v, by simpa using h1, h2⟩
theorem RpAll.take : ∀ (n : Nat) {vs : List V} {ds : List PyData}, RpAll K B vs ds → RpAll K B (vs.take n) (ds.take n)
  | 0, _, _, _ => .nil
  | _ + 1, _, _, .nil => .nil
  | n + 1, _, _, .cons h a => .cons h (RpAll.take n a)
theorem RpAll.drop : ∀ (n : Nat) {vs : List V} {ds : List PyData}, RpAll K B vs ds → RpAll K B (vs.drop n) (ds.drop n)
  | 0, _, _, a => a
  | _ + 1, _, _, .nil => .nil
  | n + 1, _, _, .cons _ a => RpAll.drop n a
theorem RpAll.set : ∀ (i : Nat) {vs : List V} {ds : List PyData}, Rp K B v d → RpAll K B vs ds → RpAll K B (vs.set i v) (ds.set i d)
  | _, _, _, _, .nil => .nil
  | 0, _, _, q, .cons _ a => .cons q a
  | i + 1, _, _, q, .cons h a => .cons h (RpAll.set i q a)
theorem RpAll.eraseIdx : ∀ (i : Nat) {vs : List V} {ds : List PyData}, RpAll K B vs ds → RpAll K B (vs.eraseIdx i) (ds.eraseIdx i)
  | _, _, _, .nil => .nil
  | 0, _, _, .cons _ a => a
  | i + 1, _, _, .cons h a => .cons h (RpAll.eraseIdx i a)
theorem RpAll.replicate (h : Rp K B v d) : ∀ n, RpAll K B (List.replicate n v) (List.replicate n d)
  | 0 => .nil
  | n + 1 => .cons h (RpAll.replicate h n)
theorem RpAll.dropLast : ∀ {vs : List V} {ds : List PyData}, RpAll K B vs ds → RpAll K B vs.dropLast ds.dropLast
  | _, _, .nil => .nil
  | _, _, .cons h .nil => .nil
  | _, _, .cons h (.cons g a) => .cons h (RpAll.dropLast (.cons g a))
theorem RpAll.one (h : Rp K B v d) : RpAll K B [v] [d] := .cons h .nil
theorem RpAll.ints : ∀ (ns : List Int), RpAll K B (ns.map V.int) (ns.map PyData.int)
  | [] => .nil
  | _ :: r => .cons (.int _) (RpAll.ints r)
end
/-- the value of what is no object -/
theorem Rp.inv_int {K : Frag} {B : Hp} {v : V} {i : Int} (h : Rp K B v (.int i)) : v = .int i := by cases h; rfl
theorem Rp.inv_bl {K : Frag} {B : Hp} {v : V} {b : Bool} (h : Rp K B v (.bool b)) : v = .bl b := by cases h; rfl
theorem Rp.inv_non {K : Frag} {B : Hp} {v : V} (h : Rp K B v .none) : v = .non := by cases h; rfl
theorem Rp.inv_str {K : Frag} {B : Hp} {v : V} {x : Str} (h : Rp K B v (.str x)) : v = .str x := by cases h; rfl
theorem Rp.inv_tup {K : Frag} {B : Hp} {v : V} {ds : List PyData} (h : Rp K B v (.tuple ds)) : ∃ a xs, v = .ref a ∧ SqT K B a xs ∧ RpAll K B xs ds := by cases h with | tup h a => exact ⟨_, _, rfl, h, a⟩
theorem Rp.inv_lst {K : Frag} {B : Hp} {v : V} {ds : List PyData} (h : Rp K B v (.list ds)) : ∃ a xs, v = .ref a ∧ SqL K B a xs ∧ RpAll K B xs ds := by cases h with | lst h a => exact ⟨_, _, rfl, h, a⟩

/-! ### slots, mutable objects -/
/-- what a slot holds: nothing known; data; a value as it is -/
inductive SD where
  | un | dat (d : PyData) | raw (v : V)
abbrev SD.int (i : Int) : SD := .dat (.int i)
abbrev SD.bl (b : Bool) : SD := .dat (.bool b)
abbrev SD.str (x : Str) : SD := .dat (.str x)
abbrev SD.non : SD := .dat .none
/-- a mutable object: a list of data; a dict of ints and texts to data; any other -/
inductive MO where
  | lst (ds : List PyData) | dK (kvs : List (Key × PyData)) | ob (o : HO)
abbrev MS := List (Addr × MO)
abbrev dom (M : MS) : List Addr := M.map (·.1)
def SlotOk (K : Frag) (B : Hp) : SD → Option V → Prop
  | .un, _ => True
  | .dat d, o => ∃ v, o = some v ∧ Rp K B v d
  | .raw v, o => o = some v
abbrev Slots (K : Frag) (B : Hp) : List SD → St → Prop := Paired (SlotOk K B)
def KvOk (K : Frag) (B : Hp) : List (Key × V) → List (Key × PyData) → Prop := Paired fun p q => p.1 = q.1 ∧ Rp K B p.2 q.2
def MoOk (K : Frag) (B H : Hp) (a : Addr) : MO → Prop
  | .lst ds => ∃ xs, H a = some (.lst xs) ∧ RpAll K B xs ds
  | .dK kvs => ∃ ks, H a = some (.dK ks) ∧ KvOk K B ks kvs
  | .ob o => H a = some o
structure Wd (K : Frag) (B H : Hp) (M : MS) : Prop where
  le : Same B H
  mo : ∀ p ∈ M, B p.1 = none ∧ MoOk K B H p.1 p.2
  nd : (dom M).Nodup
/-- from the heap H with its still part B and mutable objects at A to another -/
structure Stp (B H : Hp) (A : List Addr) (B' H' : Hp) (A' : List Addr) : Prop where
  bb : Same B B'
  fb : ∀ a, B' a ≠ none → B a ≠ none ∨ H a = none ∨ a ∈ A
  fm : ∀ a, a ∈ A' → a ∈ A ∨ H a = none
  fr : ∀ a o, H a = some o → a ∉ A → H' a = some o
theorem Stp.refl {B H : Hp} {A : List Addr} : Stp B H A B H A := ⟨Same.refl _, fun _ h => .inl h, fun _ h => .inl h, fun _ _ h _ => h⟩
theorem Stp.trans {B H B1 H1 B2 H2 : Hp} {A A1 A2 : List Addr} (x : Stp B H A B1 H1 A1) (y : Stp B1 H1 A1 B2 H2 A2) : Stp B H A B2 H2 A2 := by
  have back : ∀ a, H1 a = none → H a = none ∨ a ∈ A := fun a h => by
    cases q : H a with
    | none => exact .inl rfl
    | some o =>
      by_cases ha : a ∈ A
      · exact .inr ha
      · rw [x.fr a o q ha] at h; cases h
  refine ⟨x.bb.trans y.bb, fun a h => ?_, fun a h => ?_, fun a o h ha => y.fr a o (x.fr a o h ha) fun z => ?_⟩
  · rcases y.fb a h with z | z | z
    · exact x.fb a z
    · exact .inr (back a z)
    · rcases x.fm a z with z | z
      · exact .inr (.inr z)
      · exact .inr (.inl z)
  · rcases y.fm a h with z | z
    · exact x.fm a z
    · rcases back a z with z | z
      · exact .inr z
      · exact .inl z
  · rcases x.fm a z with z | z
    · exact ha z
    · rw [z] at h; cases h
section
variable {K : Frag} {B B' H H' : Hp}
theorem SlotOk.le (e : Same B B') {s : SD} {o : Option V} (h : SlotOk K B s o) : SlotOk K B' s o := by
  cases s with
  | un => trivial
  | dat d => obtain ⟨v, h1, h2⟩ := h; exact ⟨v, h1, h2.le e⟩
  | raw v => exact h
theorem Slots.le (e : Same B B') {S : List SD} {σ : St} (h : Slots K B S σ) : Slots K B' S σ := Paired.mapP h fun _ _ q => q.le e
theorem KvOk.le (e : Same B B') {ks : List (Key × V)} {kvs : List (Key × PyData)} (h : KvOk K B ks kvs) : KvOk K B' ks kvs := Paired.mapP h fun _ _ q => ⟨q.1, q.2.le e⟩
theorem MoOk.le (e : Same B B') {a : Addr} {o : MO} (h : MoOk K B H a o) : MoOk K B' H a o := by
  cases o with
  | lst ds => obtain ⟨xs, h1, h2⟩ := h; exact ⟨xs, h1, h2.le e⟩
  | dK kvs => obtain ⟨xs, h1, h2⟩ := h; exact ⟨xs, h1, h2.le e⟩
  | ob o => exact h
theorem MoOk.ex {a : Addr} {o : MO} (h : MoOk K B H a o) : ∃ u, H a = some u := by
  cases o with
  | lst ds => obtain ⟨xs, h1, h2⟩ := h; exact ⟨_, h1⟩
  | dK kvs => obtain ⟨xs, h1, h2⟩ := h; exact ⟨_, h1⟩
  | ob o => exact ⟨_, h⟩
theorem MoOk.heap {a : Addr} {o : MO} (h : MoOk K B H a o) (e : ∀ u, H a = some u → H' a = some u) : MoOk K B H' a o := by
  cases o with
  | lst ds => obtain ⟨xs, h1, h2⟩ := h; exact ⟨xs, e _ h1, h2⟩
  | dK kvs => obtain ⟨xs, h1, h2⟩ := h; exact ⟨xs, e _ h1, h2⟩
  | ob o => exact e _ h
theorem Paired.getL {α β : Type} {F : α → β → Prop} : ∀ {l : List α} {r : List β} {i : Nat} {a : α}, Paired F l r → l[i]? = some a → ∃ b, r[i]? = some b ∧ F a b
  | _, _, _, _, .nil, e => by simp at e
  | _, _, 0, _, .cons h _, e => by
    simp at e
    subst e
    exact ⟨_, rfl, h⟩
  | _, _, i + 1, _, .cons _ t, e => by
    obtain ⟨b, h1, h2⟩ := Paired.getL (i := i) t (by simpa using e)
    exact ⟨b, by simpa using h1, h2⟩
theorem Paired.setP {α β : Type} {F : α → β → Prop} {a : α} {b : β} (h : F a b) : ∀ {l : List α} {r : List β} (i : Nat), Paired F l r → Paired F (l.set i a) (r.set i b)
  | _, _, _, .nil => .nil
  | _, _, 0, .cons _ t => .cons h t
  | _, _, i + 1, .cons q t => .cons q (Paired.setP h i t)
theorem Slots.get {S : List SD} {σ : St} {i : Nat} {s : SD} (h : Slots K B S σ) (e : S[i]? = some s) : ∃ o, σ[i]? = some o ∧ SlotOk K B s o := Paired.getL h e
theorem Slots.set {S : List SD} {σ : St} {i : Nat} {s : SD} {v : V} (h : Slots K B S σ) (q : SlotOk K B s (some v)) : Slots K B (S.set i s) (σ.set i (some v)) := Paired.setP q i h
theorem Slots.setN {S : List SD} {σ : St} {i : Nat} {o : Option V} (h : Slots K B S σ) : Slots K B (S.set i .un) (σ.set i o) := Paired.setP (F := SlotOk K B) (a := SD.un) (b := o) trivial i h
/-- a slot's value -/
theorem SlotOk.val {s : SD} {o : Option V} (h : SlotOk K B s o) (n : s ≠ .un) : ∃ v, o = some v ∧ SlotOk K B s (some v) := by
  cases s with
  | un => exact absurd rfl n
  | dat d => obtain ⟨v, h1, h2⟩ := h; exact ⟨v, h1, v, rfl, h2⟩
  | raw v => exact ⟨v, h, rfl⟩
theorem SlotOk.dat {d : PyData} {v : V} (h : SlotOk K B (.dat d) (some v)) : Rp K B v d := by obtain ⟨u, e, q⟩ := h; cases e; exact q
theorem SlotOk.of {d : PyData} {v : V} (h : Rp K B v d) : SlotOk K B (.dat d) (some v) := ⟨v, rfl, h⟩
theorem SlotOk.raw {u v : V} (h : SlotOk K B (.raw u) (some v)) : v = u := Option.some.inj h
/-- the still part and the mutable objects behind a step that keeps the mutable ones at A as they are -/
theorem Wd.step {M : MS} (w : Wd K B H M) (bb : Same B B') (bh : Same B' H') (fb : ∀ a, B' a ≠ none → B a ≠ none ∨ H a = none) (fr : ∀ a o, H a = some o → H' a = some o) : Wd K B' H' M := by
  refine ⟨bh, fun p hp => ?_, w.nd⟩
  obtain ⟨h1, h2⟩ := w.mo p hp
  refine ⟨?_, MoOk.heap (MoOk.le bb h2) fun u q => fr _ _ q⟩
  cases q : B' p.1 with
  | none => rfl
  | some o =>
    obtain ⟨u, hu⟩ := MoOk.ex h2
    rcases fb p.1 (by rw [q]; simp) with z | z
    · exact absurd h1 z
    · rw [hu] at z; cases z
/-- a new still object -/
theorem Wd.new {M : MS} {a : Addr} {o : HO} (w : Wd K B H M) (hn : H a = none) : Wd K (upd B a o) (upd H a o) M ∧ Stp B H (dom M) (upd B a o) (upd H a o) (dom M) := by
  have bn : B a = none := by
    cases q : B a with
    | none => rfl
    | some u => rw [w.le _ _ q] at hn; cases hn
  have bb : Same B (upd B a o) := fun b u q => by rw [upd_ne (ne_of_none q bn)]; exact q
  have hh : Same H (upd H a o) := fun b u q => by rw [upd_ne (ne_of_none q hn)]; exact q
  have fb : ∀ b, upd B a o b ≠ none → B b ≠ none ∨ H b = none := fun b q => by
    by_cases e : b = a
    · subst e; exact .inr hn
    · rw [upd_ne e] at q; exact .inl q
  refine ⟨w.step bb (fun b u q => ?_) fb hh, ⟨bb, fun b q => (fb b q).elim .inl fun z => .inr (.inl z), fun b q => .inl q, fun b u q _ => hh b u q⟩⟩
  by_cases e : b = a
  · subst e; rw [upd_same] at q ⊢; exact q
  · rw [upd_ne e] at q ⊢; exact w.le _ _ q
/-- a new mutable object -/
theorem Wd.newM {M : MS} {a : Addr} {o : HO} {m : MO} (w : Wd K B H M) (hn : H a = none) (hm : MoOk K B (upd H a o) a m) : Wd K B (upd H a o) ((a, m) :: M) ∧ Stp B H (dom M) B (upd H a o) (a :: dom M) := by
  have bn : B a = none := by
    cases q : B a with
    | none => rfl
    | some u => rw [w.le _ _ q] at hn; cases hn
  have hh : Same H (upd H a o) := fun b u q => by rw [upd_ne (ne_of_none q hn)]; exact q
  have na : a ∉ dom M := fun z => by
    obtain ⟨p, hp, e⟩ := List.mem_map.mp z
    obtain ⟨u, hu⟩ := MoOk.ex (w.mo p hp).2
    rw [e, hn] at hu; cases hu
  refine ⟨⟨fun b u q => hh _ _ (w.le _ _ q), fun p hp => ?_, List.nodup_cons.mpr ⟨na, w.nd⟩⟩, ⟨Same.refl _, fun b q => .inl q, fun b q => ?_, fun b u q _ => hh b u q⟩⟩
  · rcases List.mem_cons.mp hp with e | hp
    · subst e; exact ⟨bn, hm⟩
    · exact ⟨(w.mo p hp).1, MoOk.heap (w.mo p hp).2 fun u q => hh _ _ q⟩
  · rcases List.mem_cons.mp q with e | q
    · subst e; exact .inr hn
    · exact .inl q
end

/-! ### ends over data -/
def QD (K : Frag) (B H : Hp) (M : MS) (R : SD → MS → Prop) : VK := fun v H' => ∃ B' r M', Stp B H (dom M) B' H' (dom M') ∧ Wd K B' H' M' ∧ SlotOk K B' r (some v) ∧ R r M'
def QA (K : Frag) (B H : Hp) (M : MS) (R : List SD → MS → Prop) : List V → Hp → Prop := fun vs H' => ∃ B' rs M', Stp B H (dom M) B' H' (dom M') ∧ Wd K B' H' M' ∧ Paired (fun r v => SlotOk K B' r (some v)) rs vs ∧ R rs M'
def QT (K : Frag) (B H : Hp) (M : MS) (R : Bool → MS → Prop) : Bool → Hp → Prop := fun b H' => ∃ B' M', Stp B H (dom M) B' H' (dom M') ∧ Wd K B' H' M' ∧ R b M'
def QN (K : Frag) (B H : Hp) (M : MS) (R : List SD → MS → Prop) : St → Hp → Prop := fun σ H' => ∃ B' S M', Stp B H (dom M) B' H' (dom M') ∧ Wd K B' H' M' ∧ Slots K B' S σ ∧ R S M'
/-- .. where a target has been stored: only the slots at ws may be others -/
def QG (K : Frag) (B H : Hp) (M : MS) (ws : List Nat) (σ0 : St) (R : List SD → MS → Prop) : St → Hp → Prop := fun σ H' => wipe σ ws = wipe σ0 ws ∧ QN K B H M R σ H'
theorem wipe_get (σ : St) (i : Nat) : ∀ ws : List Nat, (wipe σ ws)[i]? = if i ∈ ws ∧ i < σ.length then some none else σ[i]?
  | [] => by simp [wipe]
  | v :: ws => by
    unfold wipe
    rw [List.getElem?_set, wipe_length, wipe_get σ i ws]
    by_cases e : v = i
    · subst e
      by_cases hl : v < σ.length
      · simp [hl]
      · simp [hl, List.getElem?_eq_none (Nat.le_of_not_lt hl)]
    · have e' : ¬ i = v := fun z => e z.symm
      simp [e, e', List.mem_cons]
theorem wipe_set {σ : St} {i : Nat} {o : Option V} {ws : List Nat} (h : i ∈ ws) : wipe (σ.set i o) ws = wipe σ ws := by
  refine List.ext_getElem? fun j => ?_
  rw [wipe_get, wipe_get, List.length_set]
  by_cases e : j = i
  · subst e
    by_cases hl : j < σ.length
    · simp [h, hl]
    · have hl' := Nat.le_of_not_lt hl
      simp [hl, List.getElem?_eq_none hl', List.getElem?_eq_none (show (σ.set j o).length ≤ j by simpa using hl')]
  · rw [List.getElem?_set_ne (fun z => e z.symm)]
section
variable {K : Frag} {B H B1 H1 : Hp} {M M1 : MS}
theorem QD.back {R R' : SD → MS → Prop} (x : Stp B H (dom M) B1 H1 (dom M1)) (h : ∀ r M', R r M' → R' r M') {v : V} {H' : Hp} (q : QD K B1 H1 M1 R v H') : QD K B H M R' v H' := by
  obtain ⟨B', r, M', a, b, c, d⟩ := q
  exact ⟨B', r, M', x.trans a, b, c, h _ _ d⟩
theorem QA.back {R R' : List SD → MS → Prop} (x : Stp B H (dom M) B1 H1 (dom M1)) (h : ∀ r M', R r M' → R' r M') {v : List V} {H' : Hp} (q : QA K B1 H1 M1 R v H') : QA K B H M R' v H' := by
  obtain ⟨B', r, M', a, b, c, d⟩ := q
  exact ⟨B', r, M', x.trans a, b, c, h _ _ d⟩
theorem QT.back {R R' : Bool → MS → Prop} (x : Stp B H (dom M) B1 H1 (dom M1)) (h : ∀ r M', R r M' → R' r M') {v : Bool} {H' : Hp} (q : QT K B1 H1 M1 R v H') : QT K B H M R' v H' := by
  obtain ⟨B', M', a, b, d⟩ := q
  exact ⟨B', M', x.trans a, b, h _ _ d⟩
theorem QN.back {R R' : List SD → MS → Prop} (x : Stp B H (dom M) B1 H1 (dom M1)) (h : ∀ r M', R r M' → R' r M') {v : St} {H' : Hp} (q : QN K B1 H1 M1 R v H') : QN K B H M R' v H' := by
  obtain ⟨B', r, M', a, b, c, d⟩ := q
  exact ⟨B', r, M', x.trans a, b, c, h _ _ d⟩
theorem QD.here (w : Wd K B H M) {R : SD → MS → Prop} {r : SD} {v : V} (s : SlotOk K B r (some v)) (h : R r M) : QD K B H M R v H := ⟨B, r, M, .refl, w, s, h⟩
end
structure DEnds where
  nx : List SD → MS → Prop
  rt : SD → MS → Prop
  bk : List SD → MS → Prop := fun _ _ => False
  ct : List SD → MS → Prop := fun _ _ => False
def DE (K : Frag) (B H : Hp) (M : MS) (P : DEnds) : Ends := { nx := QN K B H M P.nx, rt := QD K B H M P.rt, bk := QN K B H M P.bk, ct := QN K B H M P.ct }

/-! ### the judgements over the text -/
def TW (X : Cx) (e : Expr) : TE := fun σ H Q => ∀ pins s, Inv X pins σ H s → wpAny (model X.prog X.w) X.A (eval e X.env) (EP X pins σ Q) X.xe s
def TTW (X : Cx) (e : Expr) : TT := fun σ H Q => ∀ pins s, Inv X pins σ H s → wpAny (model X.prog X.w) X.A (isTrue e X.env (eval e X.env)) (TP X pins σ Q) X.xe s
def TWW (X : Cx) (e : Expr) : TT := fun σ H Q => ∀ whole pins s, Inv X pins σ H s → wpAny (model X.prog X.w) X.A (isTrue e X.env whole) (TP X pins σ Q) X.xe s
def TAW (X : Cx) (es : List Expr) : TA := fun σ H Q => ∀ pos pins s, Inv X pins σ H s → wpAny (model X.prog X.w) X.A (spliced (backTo pos (starEach es X.env))) (AP X pins σ Q) X.xe s
def TSW (X : Cx) (st : Stmt) : TS := fun D σ H => ∀ pins s, Inv X pins σ H s → wpAny (model X.prog X.w) X.A (exec st X.env) (SP X pins D) X.xe s
def TBW (X : Cx) (st : List Stmt) : TS := fun D σ H => ∀ pins s, Inv X pins σ H s → wpAny (model X.prog X.w) X.A (execs st X.env) (SP X pins D) X.xe s
def TGW (X : Cx) (tg : Expr) : TG := fun v σ H Q => ∀ pins s u, Inv X pins σ H s → RelV v u → wpAny (model X.prog X.w) X.A (assign tg X.env u) (fun _ s' => ∃ σ' H', Inv X pins σ' H' s' ∧ Q σ' H') X.xe s
section
variable {X : Cx} {e : Expr} {es : List Expr} {st : Stmt} {sts : List Stmt}
theorem pe_w : PE X e (TW X e) := ⟨fun pins s _ _ _ I h => h pins s I⟩
theorem pt_w : PT X e (TTW X e) := ⟨fun pins s _ _ _ I h => h pins s I⟩
theorem pw_w : PW X e (TWW X e) := ⟨fun wh pins s _ _ _ I h => h wh pins s I⟩
theorem pa_w : PA X es (TAW X es) := ⟨fun pos pins s _ _ _ I h => h pos pins s I⟩
theorem ps_w : PS X st (TSW X st) := ⟨fun pins s _ _ _ I h => h pins s I⟩
theorem pss_w : PSs X sts (TBW X sts) := ⟨fun pins s _ _ _ I h => h pins s I⟩
theorem pg_w : PG X e (TGW X e) := ⟨fun pins s _ _ _ u _ I r h => h pins s u I r⟩
variable {σ : St} {H : Hp}
theorem of_pe {t : TE} (h : PE X e t) {Q : VK} (q : t σ H Q) : TW X e σ H Q := fun pins s I => h.run pins s σ H Q I q
theorem of_pt {t : TT} (h : PT X e t) {Q : Bool → Hp → Prop} (q : t σ H Q) : TTW X e σ H Q := fun pins s I => h.run pins s σ H Q I q
theorem of_pw {t : TT} (h : PW X e t) {Q : Bool → Hp → Prop} (q : t σ H Q) : TWW X e σ H Q := fun wh pins s I => h.run wh pins s σ H Q I q
theorem of_pa {t : TA} (h : PA X es t) {Q : List V → Hp → Prop} (q : t σ H Q) : TAW X es σ H Q := fun pos pins s I => h.run pos pins s σ H Q I q
theorem of_ps {t : TS} (h : PS X st t) {D : Ends} (q : t D σ H) : TSW X st D σ H := fun pins s I => h.run pins s σ H D I q
theorem of_pss {t : TS} (h : PSs X sts t) {D : Ends} (q : t D σ H) : TBW X sts D σ H := fun pins s I => h.run pins s σ H D I q
theorem of_pg {t : TG} (h : PG X e t) {v : V} {Q : St → Hp → Prop} (q : t v σ H Q) : TGW X e v σ H Q := fun pins s u I r => h.run pins s σ H v u Q I r q
theorem TW.mono {Q Q' : VK} (h : TW X e σ H Q) (q : ∀ v H', Q v H' → Q' v H') : TW X e σ H Q' := fun pins s I => thn (h pins s I) fun _ _ ⟨v, H', a, b, c⟩ => ⟨v, H', a, b, q _ _ c⟩
theorem TTW.mono {Q Q' : Bool → Hp → Prop} (h : TTW X e σ H Q) (q : ∀ v H', Q v H' → Q' v H') : TTW X e σ H Q' := fun pins s I => thn (h pins s I) fun _ _ ⟨H', a, c⟩ => ⟨H', a, q _ _ c⟩
theorem TWW.mono {Q Q' : Bool → Hp → Prop} (h : TWW X e σ H Q) (q : ∀ v H', Q v H' → Q' v H') : TWW X e σ H Q' := fun wh pins s I => thn (h wh pins s I) fun _ _ ⟨H', a, c⟩ => ⟨H', a, q _ _ c⟩
theorem TAW.mono {Q Q' : List V → Hp → Prop} (h : TAW X es σ H Q) (q : ∀ v H', Q v H' → Q' v H') : TAW X es σ H Q' := fun pos pins s I => thn (h pos pins s I) fun _ _ ⟨v, H', a, b, c⟩ => ⟨v, H', a, b, q _ _ c⟩
theorem TGW.mono {v : V} {Q Q' : St → Hp → Prop} (h : TGW X e v σ H Q) (q : ∀ v H', Q v H' → Q' v H') : TGW X e v σ H Q' := fun pins s u I r => thn (h pins s u I r) fun _ _ ⟨v, H', a, c⟩ => ⟨v, H', a, q _ _ c⟩
theorem SP.monoD {pins : List (Addr × Obj)} {D D' : Ends} (h1 : ∀ σ H, D.nx σ H → D'.nx σ H) (h2 : ∀ v H, D.rt v H → D'.rt v H) (h3 : ∀ σ H, D.bk σ H → D'.bk σ H) (h4 : ∀ σ H, D.ct σ H → D'.ct σ H) {f : Flow} {s' : Shared} (q : SP X pins D f s') : SP X pins D' f s' := by
  cases f with
  | next => obtain ⟨σ', H', a, b⟩ := q; exact ⟨σ', H', a, h1 _ _ b⟩
  | brk => obtain ⟨σ', H', a, b⟩ := q; exact ⟨σ', H', a, h3 _ _ b⟩
  | cont => obtain ⟨σ', H', a, b⟩ := q; exact ⟨σ', H', a, h4 _ _ b⟩
  | ret u => obtain ⟨v, σ', H', a, b, c⟩ := q; exact ⟨v, σ', H', a, b, h2 _ _ c⟩
theorem TSW.mono {D D' : Ends} (h : TSW X st D σ H) (h1 : ∀ σ H, D.nx σ H → D'.nx σ H) (h2 : ∀ v H, D.rt v H → D'.rt v H) (h3 : ∀ σ H, D.bk σ H → D'.bk σ H) (h4 : ∀ σ H, D.ct σ H → D'.ct σ H) : TSW X st D' σ H := fun pins s I => thn (h pins s I) fun _ _ q => SP.monoD h1 h2 h3 h4 q
theorem TBW.mono {D D' : Ends} (h : TBW X sts D σ H) (h1 : ∀ σ H, D.nx σ H → D'.nx σ H) (h2 : ∀ v H, D.rt v H → D'.rt v H) (h3 : ∀ σ H, D.bk σ H → D'.bk σ H) (h4 : ∀ σ H, D.ct σ H → D'.ct σ H) : TBW X sts D' σ H := fun pins s I => thn (h pins s I) fun _ _ q => SP.monoD h1 h2 h3 h4 q
end
structure JE (X : Cx) (e : Expr) (S : List SD) (M : MS) (R : SD → MS → Prop) : Prop where
  run : ∀ (σ : St) (H B : Hp), Wd X.K B H M → Slots X.K B S σ → TW X e σ H (QD X.K B H M R)
structure JT (X : Cx) (e : Expr) (S : List SD) (M : MS) (R : Bool → MS → Prop) : Prop where
  run : ∀ (σ : St) (H B : Hp), Wd X.K B H M → Slots X.K B S σ → TTW X e σ H (QT X.K B H M R)
structure JW (X : Cx) (e : Expr) (S : List SD) (M : MS) (R : Bool → MS → Prop) : Prop where
  run : ∀ (σ : St) (H B : Hp), Wd X.K B H M → Slots X.K B S σ → TWW X e σ H (QT X.K B H M R)
structure JA (X : Cx) (es : List Expr) (S : List SD) (M : MS) (R : List SD → MS → Prop) : Prop where
  run : ∀ (σ : St) (H B : Hp), Wd X.K B H M → Slots X.K B S σ → TAW X es σ H (QA X.K B H M R)
structure JS (X : Cx) (st : Stmt) (S : List SD) (M : MS) (P : DEnds) : Prop where
  run : ∀ (σ : St) (H B : Hp), Wd X.K B H M → Slots X.K B S σ → TSW X st (DE X.K B H M P) σ H
structure JB (X : Cx) (st : List Stmt) (S : List SD) (M : MS) (P : DEnds) : Prop where
  run : ∀ (σ : St) (H B : Hp), Wd X.K B H M → Slots X.K B S σ → TBW X st (DE X.K B H M P) σ H
/-- the target takes the value r -/
structure JG (X : Cx) (tg : Expr) (ws : List Nat) (r : SD) (S : List SD) (M : MS) (R : List SD → MS → Prop) : Prop where
  run : ∀ (σ : St) (H B : Hp) (v : V), Wd X.K B H M → Slots X.K B S σ → SlotOk X.K B r (some v) → TGW X tg v σ H (QG X.K B H M ws σ R)
section
variable {X : Cx} {e : Expr} {es : List Expr} {S : List SD} {M : MS}
theorem JE.mono {R R' : SD → MS → Prop} (h : JE X e S M R) (q : ∀ r M', R r M' → R' r M') : JE X e S M R' := ⟨fun σ H B w s => (h.run σ H B w s).mono fun _ _ z => z.back .refl q⟩
theorem JT.mono {R R' : Bool → MS → Prop} (h : JT X e S M R) (q : ∀ r M', R r M' → R' r M') : JT X e S M R' := ⟨fun σ H B w s => (h.run σ H B w s).mono fun _ _ z => z.back .refl q⟩
theorem JA.mono {R R' : List SD → MS → Prop} (h : JA X es S M R) (q : ∀ r M', R r M' → R' r M') : JA X es S M R' := ⟨fun σ H B w s => (h.run σ H B w s).mono fun _ _ z => z.back .refl q⟩
end
end DL
set_option Elab.async false
set_option linter.all false
set_option maxRecDepth 100000
set_option maxHeartbeats 4000000
namespace DL
open PySem PySem.Spec PyProof.Rows L2
section
variable {X : Cx} {S : List SD} {M : MS} {R : SD → MS → Prop} {a b c e : Expr} {pos p : Pos} {x : Str}
/-! ### names, constants -/
theorem je_var {i : Nat} {r : SD} (q : R r M) (hs : S[i]? = some r := by rfl) (hn : r ≠ .un := by exact fun z => nomatch z) (hN : X.N[i]? = some x := by rfl) (hv : Vis X.env.scope x := by first | exact Or.inl rfl | exact Or.inr (Or.inl rfl) | exact Or.inr (Or.inr rfl))
    (hd : (x == ("__debug__" : Str)) = false := by decide) (hcd : (x == ("__classdict__" : Str)) = false := by decide) : JE X (.Name x pos) S M R := ⟨fun σ H B w s => by
  obtain ⟨o, e1, h1⟩ := s.get hs
  obtain ⟨v, e2, h2⟩ := h1.val hn
  subst e2
  exact of_pe (pe_var hN hv hd hcd) ⟨v, e1, .here w h2 q⟩⟩
theorem je_int {i : Int} {j} (q : R (.int i) M) : JE X (.Constant (.int i) j pos) S M R := ⟨fun σ H B w s => of_pe pe_int (QD.here w (.of (.int i)) q)⟩
theorem je_bl {i : Bool} {j} (q : R (.bl i) M) : JE X (.Constant (.bool i) j pos) S M R := ⟨fun σ H B w s => of_pe pe_bl (QD.here w (.of (.bl i)) q)⟩
theorem je_str {i : Str} {j} (q : R (.str i) M) : JE X (.Constant (.str i) j pos) S M R := ⟨fun σ H B w s => of_pe pe_str (QD.here w (.of (.str i)) q)⟩
theorem je_non {j} (q : R .non M) : JE X (.Constant .none j pos) S M R := ⟨fun σ H B w s => of_pe pe_non (QD.here w (.of .non) q)⟩
/-- a name of the module: what it holds -/
structure GlobD (K : Frag) (mg : Str → Option Value) (x : Str) (r : SD) : Prop where
  ex : ∃ v u, mg x = some u ∧ RelV v u ∧ ∀ B, SlotOk K B r (some v)
theorem je_glob {r : SD} (g : GlobD X.K X.mg x r) (q : R r M) (hg : Gl X x := by rfl) (hd : (x == ("__debug__" : Str)) = false := by decide) : JE X (.Name x pos) S M R := ⟨fun σ H B w s => by
  obtain ⟨v, u, hm, rv, ok⟩ := g.ex
  exact of_pe (pe_glob hg hm rv hd) (QD.here w (ok B) q)⟩
/-! ### operators -/
abbrev OD := SD → SD → MS → (SD → MS → Prop) → Prop
/-- an operator by values, told over data -/
structure OpJ (X : Cx) (f : Value → Value → Sem Value) (od : OD) : Prop where
  ex : ∃ r, OpR X f r ∧ ∀ (B H : Hp) (M : MS) (a b : SD) (R : SD → MS → Prop) (x y : V) (Q : VK), Wd X.K B H M → SlotOk X.K B a (some x) → SlotOk X.K B b (some y) → od a b M R → (∀ v H', QD X.K B H M R v H' → Q v H') → r x y H Q
abbrev RS (X : Cx) (od : OD) (r : R2) : Prop := ∀ (B H : Hp) (M : MS) (a b : SD) (R : SD → MS → Prop) (x y : V) (Q : VK), Wd X.K B H M → SlotOk X.K B a (some x) → SlotOk X.K B b (some y) → od a b M R → (∀ v H', QD X.K B H M R v H' → Q v H') → r x y H Q
/-- two expressions one behind the other -/
theorem two {od : OD} {r : R2} (hr : RS X od r) (h : JE X a S M fun r1 M1 => JE X b S M1 fun r2 M2 => od r1 r2 M2 R) {σ : St} {H B : Hp} (w : Wd X.K B H M) (s : Slots X.K B S σ) {Q : VK} (hQ : ∀ v H', QD X.K B H M R v H' → Q v H') :
    tOp r (TW X a) (TW X b) σ H Q := by
  refine (h.run σ H B w s).mono fun v1 H1 ⟨B1, r1, M1, st1, w1, ok1, h1⟩ => ?_
  refine (h1.run σ H1 B1 w1 (s.le st1.bb)).mono fun v2 H2 ⟨B2, r2, M2, st2, w2, ok2, h2⟩ => ?_
  exact hr B2 H2 M2 r1 r2 R v1 v2 Q w2 (ok1.le st2.bb) ok2 h2 fun v H' q => hQ _ _ (q.back (st1.trans st2) fun _ _ z => z)
theorem je_bin {op : Operator} {od : OD} (o : OpJ X (binaryOp op) od) (h : JE X a S M fun r1 M1 => JE X b S M1 fun r2 M2 => od r1 r2 M2 R) : JE X (.BinOp a op b pos) S M R := ⟨fun σ H B w s => by
  obtain ⟨r, ho, hr⟩ := o.ex
  exact of_pe (pe_op ho pe_w pe_w) (two hr h w s fun _ _ q => q)⟩
theorem je_cmp {op : CmpOp} {od : OD} (o : OpJ X (compareOp op) od) (h : JE X a S M fun r1 M1 => JE X b S M1 fun r2 M2 => od r1 r2 M2 R) (hm : behindInMarks op b = false := by first | exact nomark _ | rfl) : JE X (.Compare a [op] [b] pos) S M R := ⟨fun σ H B w s => by
  obtain ⟨r, ho, hr⟩ := o.ex
  exact of_pe (pe_cmpR ho pe_w pe_w hm) (two hr h w s fun _ _ q => q)⟩
/-- a truth value -/
abbrev isB (R : Bool → MS → Prop) : SD → MS → Prop := fun r M => ∃ k, r = .bl k ∧ R k M
variable {RT : Bool → MS → Prop}
theorem qt_of {K : Frag} {B H : Hp} {v : V} {H' : Hp} (q : QD K B H M (isB RT) v H') : ∃ k, v = .bl k ∧ QT K B H M RT k H' := by
  obtain ⟨B', r, M', st, w, ok, k, rfl, h⟩ := q
  exact ⟨k, ok.dat.inv_bl, B', M', st, w, h⟩
theorem jt_cmp {op : CmpOp} {od : OD} (o : OpJ X (compareOp op) od) (h : JE X a S M fun r1 M1 => JE X b S M1 fun r2 M2 => od r1 r2 M2 (isB RT)) (hm : behindInMarks op b = false := by first | exact nomark _ | rfl) : JT X (.Compare a [op] [b] pos) S M RT := ⟨fun σ H B w s => by
  obtain ⟨r, ho, hr⟩ := o.ex
  exact of_pt (pt_cmpR ho pe_w pe_w hm) (two hr h w s fun _ _ q => qt_of q)⟩
/-- a op b op' c -/
theorem chain {od od' : OD} {r r' : R2} (hr : RS X od r) (hr' : RS X od' r')
    (h : JE X a S M fun r1 M1 => JE X b S M1 fun r2 M2 => od r1 r2 M2 (isB fun k M3 => if k = true then JE X c S M3 fun r3 M4 => od' r2 r3 M4 R else R (.bl false) M3)) {σ : St} {H B : Hp} (w : Wd X.K B H M) (s : Slots X.K B S σ) {Q : VK} (hQ : ∀ v H', QD X.K B H M R v H' → Q v H') :
    tChain r r' (TW X a) (TW X b) (TW X c) σ H Q := by
  refine (h.run σ H B w s).mono fun v1 H1 ⟨B1, r1, M1, st1, w1, ok1, h1⟩ => ?_
  refine (h1.run σ H1 B1 w1 (s.le st1.bb)).mono fun v2 H2 ⟨B2, r2, M2, st2, w2, ok2, h2⟩ => ?_
  refine hr B2 H2 M2 r1 r2 _ v1 v2 _ w2 (ok1.le st2.bb) ok2 h2 fun v H3 ⟨B3, r3, M3, st3, w3, ok3, k, e, h3⟩ => ?_
  subst e
  refine ⟨k, ok3.dat.inv_bl, ?_⟩
  have st := (st1.trans st2).trans st3
  cases k with
  | false =>
    rw [if_neg Bool.false_ne_true] at h3 ⊢
    exact hQ _ _ ⟨B3, .bl false, M3, st, w3, .of (.bl _), h3⟩
  | true =>
    rw [if_pos rfl] at h3 ⊢
    refine (h3.run σ H3 B3 w3 (s.le st.bb)).mono fun v4 H4 ⟨B4, r4, M4, st4, w4, ok4, h4⟩ => ?_
    exact hr' B4 H4 M4 r2 r4 R v2 v4 Q w4 ((ok2.le st3.bb).le st4.bb) ok4 h4 fun v H' q => hQ _ _ (q.back (st.trans st4) fun _ _ z => z)
theorem je_chain {op op' : CmpOp} {od od' : OD} (o : OpJ X (compareOp op) od) (o' : OpJ X (compareOp op') od')
    (h : JE X a S M fun r1 M1 => JE X b S M1 fun r2 M2 => od r1 r2 M2 (isB fun k M3 => if k = true then JE X c S M3 fun r3 M4 => od' r2 r3 M4 R else R (.bl false) M3)) (hm : lastMarks [op, op'] [b, c] = false := by with_unfolding_all rfl) : JE X (.Compare a [op, op'] [b, c] pos) S M R := ⟨fun σ H B w s => by
  obtain ⟨r, ho, hr⟩ := o.ex
  obtain ⟨r', ho', hr'⟩ := o'.ex
  exact of_pe (pe_chain ho ho' pe_w pe_w pe_w hm) (chain hr hr' h w s fun _ _ q => q)⟩
theorem jt_chain {op op' : CmpOp} {od od' : OD} (o : OpJ X (compareOp op) od) (o' : OpJ X (compareOp op') od')
    (h : JE X a S M fun r1 M1 => JE X b S M1 fun r2 M2 => od r1 r2 M2 (isB fun k M3 => if k = true then JE X c S M3 fun r3 M4 => od' r2 r3 M4 (isB RT) else isB RT (.bl false) M3)) (hm : lastMarks [op, op'] [b, c] = false := by with_unfolding_all rfl) : JT X (.Compare a [op, op'] [b, c] pos) S M RT := ⟨fun σ H B w s => by
  obtain ⟨r, ho, hr⟩ := o.ex
  obtain ⟨r', ho', hr'⟩ := o'.ex
  exact of_pt (pt_chain ho ho' pe_w pe_w pe_w hm) (chain (R := isB RT) hr hr' h w s fun _ _ q => qt_of q)⟩
/-- a test that is any expression of a truth value -/
theorem jt_val (h : JE X e S M (isB RT)) (he : ∀ whole, isTrue e X.env whole = (do let v ← whole; standAt e.pos; holding [v] (truthy v)) := by intro _; rfl) : JT X e S M RT := ⟨fun σ H B w s =>
  of_pt (pt_val pe_w he) ((h.run σ H B w s).mono fun _ _ q => qt_of q)⟩
theorem jt_not (h : JT X a S M fun k M' => RT (!k) M') : JT X (.UnaryOp .Not a pos) S M RT := ⟨fun σ H B w s => of_pt (pt_not pt_w) ((h.run σ H B w s).mono fun _ _ ⟨B', M', st, w', q⟩ => ⟨B', M', st, w', q⟩)⟩
/-- chains of and, or as tests -/
theorem jt_bool {op : BoolOp} {es : List Expr} (h : JW X (.BoolOp op es pos) S M RT) : JT X (.BoolOp op es pos) S M RT := ⟨fun σ H B w s => of_pt (PW.pt pw_w) (h.run σ H B w s)⟩
theorem jw_and1 (h : JT X a S M RT) : JW X (.BoolOp .And [a] pos) S M RT := ⟨fun σ H B w s => of_pw (pw_and1 pt_w) (h.run σ H B w s)⟩
theorem jw_or1 (h : JT X a S M RT) : JW X (.BoolOp .Or [a] pos) S M RT := ⟨fun σ H B w s => of_pw (pw_or1 pt_w) (h.run σ H B w s)⟩
theorem jw_and {rest : List Expr} (h : JT X a S M fun k M' => if k = true then JW X (.BoolOp .And (b :: rest) pos) S M' RT else RT false M') : JW X (.BoolOp .And (a :: b :: rest) pos) S M RT := ⟨fun σ H B w s => by
  refine of_pw (pw_and pt_w pw_w) ((h.run σ H B w s).mono fun k H1 ⟨B1, M1, st1, w1, h1⟩ => ?_)
  cases k with
  | true =>
    rw [if_pos rfl] at h1 ⊢
    exact (h1.run σ H1 B1 w1 (s.le st1.bb)).mono fun _ _ q => q.back st1 fun _ _ z => z
  | false =>
    rw [if_neg Bool.false_ne_true] at h1 ⊢
    exact ⟨B1, M1, st1, w1, h1⟩⟩
theorem jw_or {rest : List Expr} (h : JT X a S M fun k M' => if k = true then RT true M' else JW X (.BoolOp .Or (b :: rest) pos) S M' RT) : JW X (.BoolOp .Or (a :: b :: rest) pos) S M RT := ⟨fun σ H B w s => by
  refine of_pw (pw_or pt_w pw_w) ((h.run σ H B w s).mono fun k H1 ⟨B1, M1, st1, w1, h1⟩ => ?_)
  cases k with
  | false =>
    rw [if_neg Bool.false_ne_true] at h1 ⊢
    exact (h1.run σ H1 B1 w1 (s.le st1.bb)).mono fun _ _ q => q.back st1 fun _ _ z => z
  | true =>
    rw [if_pos rfl] at h1 ⊢
    exact ⟨B1, M1, st1, w1, h1⟩⟩
/-- .. as values (truth values) -/
theorem je_one {op : BoolOp} (h : JE X a S M R) : JE X (.BoolOp op [a] pos) S M R := ⟨fun σ H B w s => of_pe (pe_one pe_w) (h.run σ H B w s)⟩
theorem je_and {rest : List Expr} (h : JE X a S M (isB fun k M' => if k = true then JE X (.BoolOp .And (b :: rest) pos) S M' R else R (.bl false) M')) : JE X (.BoolOp .And (a :: b :: rest) pos) S M R := ⟨fun σ H B w s => by
  refine of_pe (pe_and pe_w pe_w) ((h.run σ H B w s).mono fun v H1 ⟨B1, r1, M1, st1, w1, ok1, k, e, h1⟩ => ?_)
  subst e
  refine ⟨k, ok1.dat.inv_bl, ?_⟩
  cases k with
  | true =>
    rw [if_pos rfl] at h1 ⊢
    exact (h1.run σ H1 B1 w1 (s.le st1.bb)).mono fun _ _ q => q.back st1 fun _ _ z => z
  | false =>
    rw [if_neg Bool.false_ne_true] at h1 ⊢
    exact ⟨B1, _, M1, st1, w1, .of (.bl false), h1⟩⟩
theorem je_or {rest : List Expr} (h : JE X a S M (isB fun k M' => if k = true then R (.bl true) M' else JE X (.BoolOp .Or (b :: rest) pos) S M' R)) : JE X (.BoolOp .Or (a :: b :: rest) pos) S M R := ⟨fun σ H B w s => by
  refine of_pe (pe_or pe_w pe_w) ((h.run σ H B w s).mono fun v H1 ⟨B1, r1, M1, st1, w1, ok1, k, e, h1⟩ => ?_)
  subst e
  refine ⟨k, ok1.dat.inv_bl, ?_⟩
  cases k with
  | false =>
    rw [if_neg Bool.false_ne_true] at h1 ⊢
    exact (h1.run σ H1 B1 w1 (s.le st1.bb)).mono fun _ _ q => q.back st1 fun _ _ z => z
  | true =>
    rw [if_pos rfl] at h1 ⊢
    exact ⟨B1, _, M1, st1, w1, .of (.bl true), h1⟩⟩
theorem je_not (h : JE X a S M (isB fun k M' => R (.bl (!k)) M')) : JE X (.UnaryOp .Not a pos) S M R := ⟨fun σ H B w s => of_pe (pe_not pe_w) ((h.run σ H B w s).mono fun v H1 ⟨B1, r1, M1, st1, w1, ok1, k, e, h1⟩ => by
  subst e
  exact ⟨k, ok1.dat.inv_bl, B1, _, M1, st1, w1, .of (.bl (!k)), h1⟩)⟩
theorem je_neg (h : JE X a S M fun r M' => ∃ i, r = .int i ∧ R (.int (-i)) M') : JE X (.UnaryOp .USub a pos) S M R := ⟨fun σ H B w s => of_pe (pe_un un_neg pe_w) ((h.run σ H B w s).mono fun v H1 ⟨B1, r1, M1, st1, w1, ok1, i, e, h1⟩ => by
  subst e
  exact ⟨i, ok1.dat.inv_int, B1, _, M1, st1, w1, .of (.int (-i)), h1⟩)⟩
/-- a if t else b -/
theorem je_if (h : JT X c S M fun k M' => if k = true then JE X a S M' R else JE X b S M' R) : JE X (.IfExp c a b pos) S M R := ⟨fun σ H B w s => by
  refine of_pe (pe_ifExp pt_w pe_w pe_w) ((h.run σ H B w s).mono fun k H1 ⟨B1, M1, st1, w1, h1⟩ => ?_)
  cases k with
  | false =>
    rw [if_neg Bool.false_ne_true] at h1 ⊢
    exact (h1.run σ H1 B1 w1 (s.le st1.bb)).mono fun _ _ q => q.back st1 fun _ _ z => z
  | true =>
    rw [if_pos rfl] at h1 ⊢
    exact (h1.run σ H1 B1 w1 (s.le st1.bb)).mono fun _ _ q => q.back st1 fun _ _ z => z⟩
/-! ### arguments, displays -/
variable {es : List Expr} {RA : List SD → MS → Prop}
theorem ja_nil (q : RA [] M) : JA X [] S M RA := ⟨fun σ H B w s => of_pa pa_nil ⟨B, [], M, .refl, w, .nil, q⟩⟩
theorem ja_cons (h : JE X e S M fun r M1 => JA X es S M1 fun rs M2 => RA (r :: rs) M2) (hs : starEach (e :: es) X.env = (false, eval e X.env) :: starEach es X.env := by rfl) : JA X (e :: es) S M RA := ⟨fun σ H B w s => by
  refine of_pa (pa_cons pe_w pa_w hs) ((h.run σ H B w s).mono fun v1 H1 ⟨B1, r1, M1, st1, w1, ok1, h1⟩ => ?_)
  refine (h1.run σ H1 B1 w1 (s.le st1.bb)).mono fun vs H2 ⟨B2, rs, M2, st2, w2, ok2, h2⟩ => ?_
  exact ⟨B2, r1 :: rs, M2, st1.trans st2, w2, .cons (ok1.le st2.bb) ok2, h2⟩⟩
/-- all data -/
inductive Dats : List SD → List PyData → Prop
  | nil : Dats [] []
  | cons {d rs ds} : Dats rs ds → Dats (.dat d :: rs) (d :: ds)
theorem Dats.rp {K : Frag} {B : Hp} : ∀ {rs : List SD} {ds : List PyData} {vs : List V}, Dats rs ds → Paired (fun r v => SlotOk K B r (some v)) rs vs → RpAll K B vs ds
  | _, _, _, .nil, .nil => .nil
  | _, _, _, .cons t, .cons h q => .cons h.dat (Dats.rp t q)
def datsOf : List SD → Option (List PyData)
  | [] => some []
  | .dat d :: r => (datsOf r).map (d :: ·)
  | _ :: _ => none
theorem dats_of : ∀ {rs : List SD} {ds : List PyData}, datsOf rs = some ds → Dats rs ds
  | [], ds, h => by
    cases h
    exact .nil
  | .dat d :: r, ds, h => by
    have h' : (datsOf r).map (d :: ·) = some ds := h
    cases q : datsOf r with
    | none => rw [q] at h'; cases h'
    | some es =>
      rw [q] at h'
      cases h'
      exact .cons (dats_of q)
  | .un :: r, ds, h => by cases h
  | .raw v :: r, ds, h => by cases h
theorem je_tup {k} (h : JA X es S M fun rs M1 => ∃ ds, datsOf rs = some ds ∧ ds.length ≤ 1000000 ∧ R (.dat (.tuple ds)) M1) : JE X (.Tuple es k pos) S M R := ⟨fun σ H B w s => by
  refine of_pe (pe_tup pa_w) ((h.run σ H B w s).mono fun vs H1 ⟨B1, rs, M1, st1, w1, ok1, ds, hd, hz, h1⟩ => ?_)
  have rp := (dats_of hd).rp ok1
  refine ⟨by rw [rp.length, sizeLine_eq]; omega, fun p hp => ?_⟩
  obtain ⟨w2, st2⟩ := w1.new (o := .tup vs) hp
  exact ⟨_, _, M1, st1.trans st2, w2, .of (.tup (SqT.of upd_same) (rp.le st2.bb)), h1⟩⟩
theorem je_lst (h : JA X es S M fun rs M1 => ∃ ds, datsOf rs = some ds ∧ ds.length ≤ 1000000 ∧ R (.dat (.list ds)) M1) : JE X (.List es pos) S M R := ⟨fun σ H B w s => by
  refine of_pe (pe_lst pa_w) ((h.run σ H B w s).mono fun vs H1 ⟨B1, rs, M1, st1, w1, ok1, ds, hd, hz, h1⟩ => ?_)
  have rp := (dats_of hd).rp ok1
  refine ⟨by rw [rp.length, sizeLine_eq]; omega, fun p hp => ?_⟩
  obtain ⟨w2, st2⟩ := w1.new (o := .lst vs) hp
  exact ⟨_, _, M1, st1.trans st2, w2, .of (.lst (SqL.of upd_same) (rp.le st2.bb)), h1⟩⟩
/-- a written list that will be changed: a mutable object -/
theorem je_lstM (h : JA X es S M fun rs M1 => ∃ ds, datsOf rs = some ds ∧ ds.length ≤ 1000000 ∧ ∀ p, R (.raw (.ref p)) ((p, .lst ds) :: M1)) : JE X (.List es pos) S M R := ⟨fun σ H B w s => by
  refine of_pe (pe_lst pa_w) ((h.run σ H B w s).mono fun vs H1 ⟨B1, rs, M1, st1, w1, ok1, ds, hd, hz, h1⟩ => ?_)
  have rp := (dats_of hd).rp ok1
  refine ⟨by rw [rp.length, sizeLine_eq]; omega, fun p hp => ?_⟩
  obtain ⟨w2, st2⟩ := w1.newM (o := .lst vs) (m := .lst ds) hp ⟨vs, upd_same, rp⟩
  exact ⟨_, SD.raw (.ref p), _, st1.trans st2, w2, rfl, h1 p⟩⟩
/-! ### statements -/
variable {P : DEnds} {st : Stmt} {rest sts : List Stmt}
theorem DE.back {K : Frag} {B H B1 H1 : Hp} {M M1 : MS} {P : DEnds} (x : Stp B H (dom M) B1 H1 (dom M1)) {σ : St} {t : TS} (mono : ∀ D D' : Ends, (∀ σ H, D.nx σ H → D'.nx σ H) → (∀ v H, D.rt v H → D'.rt v H) → (∀ σ H, D.bk σ H → D'.bk σ H) → (∀ σ H, D.ct σ H → D'.ct σ H) → t D σ H1 → t D' σ H1) (h : t (DE K B1 H1 M1 P) σ H1) : t (DE K B H M P) σ H1 :=
  mono _ _ (fun _ _ q => QN.back x (fun _ _ z => z) q) (fun _ _ q => QD.back x (fun _ _ z => z) q) (fun _ _ q => QN.back x (fun _ _ z => z) q) (fun _ _ q => QN.back x (fun _ _ z => z) q) h
theorem jb_nil (q : P.nx S M) : JB X [] S M P := ⟨fun σ H B w s => of_pss pss_nil ⟨B, S, M, .refl, w, s, q⟩⟩
theorem jb_cons (h : JS X st S M { P with nx := fun S' M' => JB X rest S' M' P }) : JB X (st :: rest) S M P := ⟨fun σ H B w s => by
  refine of_pss (pss_cons ps_w pss_w) (TSW.mono (h.run σ H B w s) (fun σ1 H1 ⟨B1, S1, M1, st1, w1, s1, h1⟩ => ?_) (fun _ _ q => q) (fun _ _ q => q) fun _ _ q => q)
  exact DE.back st1 (fun D D' a b c d t => TBW.mono t a b c d) (h1.run σ1 H1 B1 w1 s1)⟩
theorem jb_one (h : JS X st S M P) : JB X [st] S M P := ⟨fun σ H B w s => of_pss (pss_one ps_w) (h.run σ H B w s)⟩
theorem js_pass (q : P.nx S M) : JS X (.Pass pos) S M P := ⟨fun σ H B w s => of_ps ps_pass ⟨B, S, M, .refl, w, s, q⟩⟩
theorem js_break (q : P.bk S M) : JS X (.Break pos) S M P := ⟨fun σ H B w s => of_ps ps_break ⟨B, S, M, .refl, w, s, q⟩⟩
theorem js_continue (q : P.ct S M) : JS X (.Continue pos) S M P := ⟨fun σ H B w s => of_ps ps_continue ⟨B, S, M, .refl, w, s, q⟩⟩
theorem js_ret (h : JE X e S M P.rt) : JS X (.Return (some e) pos) S M P := ⟨fun σ H B w s => of_ps (ps_ret pe_w) (h.run σ H B w s)⟩
theorem js_retN (q : P.rt .non M) : JS X (.Return none pos) S M P := ⟨fun σ H B w s => of_ps ps_retN (QD.here w (.of .non) q)⟩
theorem js_if {s1 s2 : List Stmt} (h : JT X c S M fun k M' => if k = true then JB X s1 S M' P else JB X s2 S M' P) : JS X (.If c s1 s2 pos) S M P := ⟨fun σ H B w s => by
  refine of_ps (ps_if pt_w pss_w pss_w) ((h.run σ H B w s).mono fun k H1 ⟨B1, M1, st1, w1, h1⟩ => ?_)
  cases k with
  | false =>
    rw [if_neg Bool.false_ne_true] at h1 ⊢
    exact DE.back st1 (fun D D' a b c d t => TBW.mono t a b c d) (h1.run σ H1 B1 w1 (s.le st1.bb))
  | true =>
    rw [if_pos rfl] at h1 ⊢
    exact DE.back st1 (fun D D' a b c d t => TBW.mono t a b c d) (h1.run σ H1 B1 w1 (s.le st1.bb))⟩
/-- name = e -/
theorem js_set {i : Nat} {pos' : Pos} (hN : X.N.Nodup) (h : JE X e S M fun r M' => P.nx (S.set i r) M') (hi : X.N[i]? = some x := by rfl) (hx : Loc X.env.scope x := by first | exact Or.inl rfl | exact Or.inr rfl) (hs : swapsWith e (some (.Name x pos')) pos.line X.env = pure false := by rfl)
    (hf : X.fn x = true ∨ X.env.scope.names.lookup x = some .local := by first | exact .inl rfl | exact .inr rfl) : JS X (.Assign [.Name x pos'] e pos) S M P := ⟨fun σ H B w s => of_ps (ps_set hN hi hx pe_w hs hf) ((h.run σ H B w s).mono fun v H1 ⟨B1, r, M1, st1, w1, ok1, h1⟩ => ⟨B1, _, M1, st1, w1, (s.le st1.bb).set ok1, h1⟩)⟩
theorem js_expr (h : JE X e S M fun _ M' => P.nx S M') (hs : swapsWith e none pos.line X.env = pure false := by rfl) : JS X (.Expr e pos) S M P := ⟨fun σ H B w s => of_ps (ps_expr pe_w hs) ((h.run σ H B w s).mono fun v H1 ⟨B1, r, M1, st1, w1, ok1, h1⟩ => ⟨B1, S, M1, st1, w1, s.le st1.bb, h1⟩)⟩
/-- target = e, the target of any form -/
theorem js_asg {tg : Expr} (h : JE X e S M fun r M' => JG X tg (List.range 64) r S M' P.nx) (hs : swapsWithSole [tg] e pos.line X.env = pure false := by rfl) (hw : swappedStores [tg] e X.env = pure none := by rfl)
    (h1 : (assignEach [tg] X.env).map (·.2) = [assign tg X.env] := by rfl) : JS X (.Assign [tg] e pos) S M P := ⟨fun σ H B w s => of_ps (ps_asg pe_w pg_w hs hw h1) ((h.run σ H B w s).mono fun v H1 ⟨B1, r, M1, st1, w1, ok1, h1⟩ =>
  (h1.run σ H1 B1 v w1 (s.le st1.bb) ok1).mono fun _ _ q => q.2.back st1 fun _ _ z => z)⟩
theorem jg_name {i : Nat} {r : SD} {ws : List Nat} {RN : List SD → MS → Prop} (hN : X.N.Nodup) (q : RN (S.set i r) M) (hws : i ∈ ws := by decide) (hi : X.N[i]? = some x := by rfl) (hx : Loc X.env.scope x := by first | exact Or.inl rfl | exact Or.inr rfl) (hf : X.fn x = true ∨ X.env.scope.names.lookup x = some .local := by first | exact .inl rfl | exact .inr rfl) : JG X (.Name x pos) ws r S M RN :=
  ⟨fun σ H B v w s ok => of_pg (pg_name hN hi hx hf) ⟨wipe_set hws, B, _, M, .refl, w, s.set ok, q⟩⟩
/-- several targets -/
def TGsW (X : Cx) (ts : List Expr) : TGs := fun vs σ H Q => ∀ pins s us, Inv X pins σ H s → Vals vs us → wpAny (model X.prog X.w) X.A (assignInOrder ((assignEach ts X.env).map (·.2)) us) (fun _ s' => ∃ σ' H', Inv X pins σ' H' s' ∧ Q σ' H') X.xe s
theorem pgs_w {ts : List Expr} : PGs X ts (TGsW X ts) := ⟨fun pins s _ _ _ us _ I r h => h pins s us I r⟩
theorem TGsW.mono {ts : List Expr} {vs : List V} {σ : St} {H : Hp} {Q Q' : St → Hp → Prop} (h : TGsW X ts vs σ H Q) (q : ∀ v H', Q v H' → Q' v H') : TGsW X ts vs σ H Q' := fun pins s us I r => thn (h pins s us I r) fun _ _ ⟨v, H', a, c⟩ => ⟨v, H', a, q _ _ c⟩
structure JGs (X : Cx) (ts : List Expr) (ws : List Nat) (ds : List PyData) (S : List SD) (M : MS) (R : List SD → MS → Prop) : Prop where
  run : ∀ (σ : St) (H B : Hp) (vs : List V), Wd X.K B H M → Slots X.K B S σ → RpAll X.K B vs ds → TGsW X ts vs σ H (QG X.K B H M ws σ R)
variable {ws : List Nat} {RN : List SD → MS → Prop} {ts : List Expr} {tg : Expr} {d : PyData} {ds : List PyData}
theorem of_pgs {t : TGs} (h : PGs X ts t) {vs : List V} {σ : St} {H : Hp} {Q : St → Hp → Prop} (q : t vs σ H Q) : TGsW X ts vs σ H Q := fun pins s us I r => h.run pins s σ H vs us Q I r q
theorem jgs_nil (q : RN S M) : JGs X [] ws [] S M RN := ⟨fun σ H B vs w s r => by
  cases r
  exact of_pgs pgs_nil ⟨rfl, rfl, B, S, M, .refl, w, s, q⟩⟩
theorem jgs_cons (h : JG X tg ws (.dat d) S M fun S' M' => JGs X ts ws ds S' M' RN) (hs : (assignEach (tg :: ts) X.env).map (·.2) = assign tg X.env :: (assignEach ts X.env).map (·.2) := by rfl) : JGs X (tg :: ts) ws (d :: ds) S M RN := ⟨fun σ H B vs w s r => by
  cases r with
  | cons r1 r2 =>
    refine of_pgs (pgs_cons pg_w pgs_w hs) ⟨_, _, rfl, (h.run σ H B _ w s (.of r1)).mono fun σ1 H1 ⟨wp, B1, S1, M1, st1, w1, s1, h1⟩ => ?_⟩
    exact (h1.run σ1 H1 B1 _ w1 s1 (r2.le st1.bb)).mono fun _ _ q => ⟨q.1.trans wp, q.2.back st1 fun _ _ z => z⟩⟩
theorem pgs_star {e : Expr} {es : List Expr} {t : TG} {u : TGs} (h1 : PG X e t) (h2 : PGs X es u) : PGs X (.Starred e p :: es) (gCons t u) := by
  refine ⟨fun pins s σ H vs us Q I r h => ?_⟩
  obtain ⟨v, vr, e1, h⟩ := h
  subst e1
  cases r with
  | cons r rr =>
    show wpAny _ _ (assignInOrder (assign e X.env :: (assignEach es X.env).map (·.2)) _) _ _ s
    refine assignInOrder_cons (thn (h1.run pins s σ H _ _ _ I r h) fun _ s1 ⟨σ1, H1, I1, q1⟩ => ?_)
    exact h2.run pins s1 σ1 H1 _ _ Q I1 rr q1
theorem jgs_star (h : JG X tg ws (.dat d) S M fun S' M' => JGs X ts ws ds S' M' RN) : JGs X (.Starred tg p :: ts) ws (d :: ds) S M RN := ⟨fun σ H B vs w s r => by
  cases r with
  | cons r1 r2 =>
    refine of_pgs (pgs_star pg_w pgs_w) ⟨_, _, rfl, (h.run σ H B _ w s (.of r1)).mono fun σ1 H1 ⟨wp, B1, S1, M1, st1, w1, s1, h1⟩ => ?_⟩
    exact (h1.run σ1 H1 B1 _ w1 s1 (r2.le st1.bb)).mono fun _ _ q => ⟨q.1.trans wp, q.2.back st1 fun _ _ z => z⟩⟩
theorem jg_tup {k : Nat} (hc : X.calm = true) (h : JGs X ts ws ds S M RN) (hl : ds.length = ts.length := by rfl) (hn : (assignEach ts X.env).length = ts.length := by rfl) (hst : (assignEach ts X.env).findIdx? (·.1) = none := by rfl) : JG X (.Tuple ts k pos) ws (.dat (.tuple ds)) S M RN := ⟨fun σ H B v w s ok => by
  obtain ⟨a, xs, rfl, hq, ra⟩ := ok.dat.inv_tup
  exact of_pg (pg_tup hc pgs_w hn hst) ⟨a, xs, rfl, sqt_le w.le hq, by rw [ra.length, hl], h.run σ H B xs w s ra⟩⟩
theorem jg_lst {k : Nat} (hc : X.calm = true) (h : JGs X ts ws ds S M RN) (hl : ds.length = ts.length := by rfl) (hn : (assignEach ts X.env).length = ts.length := by rfl) (hst : (assignEach ts X.env).findIdx? (·.1) = none := by rfl) : JG X (.Tuple ts k pos) ws (.dat (.list ds)) S M RN := ⟨fun σ H B v w s ok => by
  obtain ⟨a, xs, rfl, hq, ra⟩ := ok.dat.inv_lst
  exact of_pg (pg_lst hc pgs_w hn hst) ⟨a, xs, rfl, sql_le w.le hq, by rw [ra.length, hl], h.run σ H B xs w s ra⟩⟩
end
/-! ### a, *b = a tuple -/
section
variable {prog : Program} {w : World} {A : Around} {E : Value → Shared → Prop} {s : Shared}
theorem WalksS.shift {I : Addr} {fp wr : List Addr} {G : Array GenState → Array GenState → Prop} {n k : Nat} {P : Nat → Value → Prop} {St : Nat → Shared → Prop} (W : WalksS prog w A I fp wr G (n + k) P St) : WalksS prog w A I fp wr G n (fun i => P (i + k)) (fun i => St (i + k)) where
  sub := W.sub
  grefl := W.grefl
  gtrans := W.gtrans
  frame := fun i => W.frame (i + k)
  item := fun i s Q E hi st hQ => W.item (i + k) s Q E (by omega) st fun v s' p st' m => hQ v s' p (by rw [show i + 1 + k = i + k + 1 by omega]; exact st') m
  done := W.done
  self := fun i => W.self (i + k)
theorem unpack_star {t : Addr} {items : Array Value} {i : Nat} {Q : List Value → Shared → Prop} (hh : A.handled = none) (ht : IsTup s.heap t items) (hi : i ≤ items.size) (hz : items.size ≤ sizeLine)
    (hQ : ∀ (h1 h' : Heap) (tk : Nat) (p : Addr), (∀ b o, s.heap.get? b = some o → h1.get? b = some o) → h1.objs.size ≤ p → (∀ b o, h1.get? b = some o → h'.get? b = some o) → h'.get? p = some { cls := .type "list", data := .seq (items.toList.drop i).toArray } → Q (items.toList.take i ++ [.ref p]) { s with heap := h', toks := tk }) :
    wpAny (model prog w) A (unpackItems (.ref t) (i + 1) (some i)) Q E s := by
  have hlt : t ≠ s.heap.objs.size := by obtain ⟨o, ho, _⟩ := ht; exact Nat.ne_of_lt (Heap.lt_size ho)
  unfold unpackItems
  refine wpAny_bind ?_
  unfold notIterableAtAll
  refine wpAny_bind (wpAny_specialOf ht.typeIs slot_tuple_iter.lookup ?_)
  refine wpAny_pure ?_
  simp only [Bool.false_eq_true, if_false]
  refine wpAny_bind (wpAny_holding (iter_tuple ht ?_))
  refine wpAny_bind (wpAny_holding (draw_tuple hlt i 0 _ _ ⟨_, Heap.get?_push_size _ rfl, rfl, rfl⟩ (ht.push _) (by omega) fun h₁ hit₁ hs₁ => ?_))
  have hf : List.take i (List.drop 0 items.toList) = items.toList.take i := by rw [List.drop_zero]
  rw [hf, if_neg (by rw [List.length_take, Array.length_toList]; omega)]
  have ht1 : IsTup h₁ t items := (ht.push _).extBut hs₁.extBut hlt
  have hle : s.heap.objs.size < h₁.objs.size := by obtain ⟨o, ho, _⟩ := hit₁; exact Heap.lt_size ho
  obtain ⟨k, hk⟩ : ∃ k, items.size = k + i := ⟨items.size - i, by omega⟩
  have W0 := (Walks.tuple (prog := prog) (w := w) (A := A.in1) (show A.in1.handled = none from hh) s.heap.objs.size t hlt items).toS
  rw [hk] at W0
  have W := WalksS.shift (n := k) (k := i) W0
  have st0 : Heap.IsTupleIter h₁ s.heap.objs.size t (0 + i) := hit₁
  refine wpAny_bind (wpAny_holding (wpAny_collect_iter (T := "tuple_iterator") (.inr (.inr (.inr rfl))) W (fun j s' hs' => ?_) ⟨st0, ht1⟩ (fun b hb => ?_) (by simp) (fun s' acc mv hacc => ?_) (by omega)))
  · obtain ⟨⟨o, ho, hc, _⟩, _⟩ := hs'
    exact ⟨o, ho, hc⟩
  · rcases List.mem_cons.mp hb with e | hb
    · rw [e]; exact hle
    · have e : b = t := by simpa using hb
      rw [e]
      obtain ⟨o, ho, _⟩ := ht1
      exact Heap.lt_size ho
  · have ea : acc.toList = items.toList.drop i := by
      refine List.ext_getElem? fun j => ?_
      rw [List.getElem?_drop, Array.getElem?_toList, Array.getElem?_toList]
      by_cases hj : j < acc.size
      · have q := hacc.2 j acc[j] (by simp [hj])
        rw [show i + j = j + i by omega, q]
        simp [hj]
      · have hn : acc.size = k := hacc.1
        rw [Array.getElem?_eq_none (by omega), Array.getElem?_eq_none (by omega)]
    have el : acc.toList.length = k := by rw [Array.length_toList]; exact hacc.1
    show wpAny _ _ (if acc.toList.length < i + 1 - 1 - i then _ else _) _ _ _
    rw [if_neg (by omega)]
    have em : acc.toList.length - (i + 1 - 1 - i) = acc.toList.length := by omega
    rw [em, List.take_length, List.drop_length]
    unfold newList
    refine wpAny_bind (wpAny_newObj_type ?_ (by show acc.toList.length ≤ sizeLine; omega))
    refine wpAny_pure ?_
    rw [List.append_nil, ea]
    obtain ⟨hp, gs, dr, tk, os⟩ := s'
    have e1 : gs = s.gens := mv.gens
    have e2 : dr = s.drawn := mv.drawn
    have e3 : os = s.os := mv.os
    subst e1 e2 e3
    have kp : ∀ b o, s.heap.get? b = some o → hp.get? b = some o := fun b o e => by
      have nb : b ≠ s.heap.objs.size := Nat.ne_of_lt (Heap.lt_size e)
      exact mv.heap b o (by simp [nb]) ((hs₁.2 b nb).trans (Heap.get?_push_of_some _ e))
    exact hQ hp _ tk hp.objs.size kp (Nat.le_refl _) (fun b o e => Heap.get?_push_of_some _ e) (Heap.get?_push_size _ rfl)
end
section
variable {X : Cx} {pos : Pos} {es : List Expr} {k i : Nat} {t : TGs}
def gStar (K : Frag) (i : Nat) (t : TGs) : TG := fun v σ H Q => ∃ a xs, v = .ref a ∧ SqT K H a xs ∧ i ≤ xs.length ∧ ∀ p, H p = none → t (xs.take i ++ [.ref p]) σ (upd H p (.lst (xs.drop i))) Q
theorem pg_starT (hc : X.calm = true) (h : PGs X es t) (hn : (assignEach es X.env).length = i + 1 := by rfl) (hst : (assignEach es X.env).findIdx? (·.1) = some i := by rfl) : PG X (.Tuple es k pos) (gStar X.K i t) := by
  refine ⟨fun pins s σ H v u Q I r hw => ?_⟩
  obtain ⟨a, xs, e1, hq, hl, hw⟩ := hw
  subst e1
  cases r
  obtain ⟨its, rv, pt, hz⟩ := I.tuple hq
  rw [PyProof.Rows.assign_Tuple]
  refine wpAny_bind (wpAny_standAt ?_)
  unfold unpack
  rw [hn, hst]
  have hle : its.length = xs.length := rv.length.symm
  refine wpAny_bind (wpAny_holding (unpack_star (I.ok.hd hc) pt (by rw [List.size_toArray]; omega) (by rw [List.size_toArray]; omega) fun h1 h' tk p k1 hp k2 hg => ?_))
  have I1 : Inv X pins σ H { s with heap := h1, toks := tk } := I.kept k1
  have fr : H p = none := I1.hok.fresh hp
  have I2 : Inv X pins σ (upd H p (.lst (xs.drop i))) { s with heap := h', toks := tk } := I1.laid (t' := tk) k2 hp ⟨by rw [List.length_drop]; omega, its.drop i, 0, rv.drop i, by simpa using hg⟩
  have r1 : Vals [V.ref p] [Value.ref p] := .cons (show RelV (V.ref p) (Value.ref p) from rfl) .nil
  have r2 : Vals (xs.take i ++ [V.ref p]) (its.toArray.toList.take i ++ [Value.ref p]) := by simpa using (rv.take i).append r1
  exact h.run pins _ σ _ _ _ Q I2 r2 (hw p fr)
variable {S : List SD} {M : MS} {ws : List Nat} {RN : List SD → MS → Prop} {ds : List PyData}
theorem jg_star (hc : X.calm = true) (i : Nat) (hl : i ≤ ds.length) (h : JGs X es ws (ds.take i ++ [.list (ds.drop i)]) S M RN) (hn : (assignEach es X.env).length = i + 1 := by rfl) (hst : (assignEach es X.env).findIdx? (·.1) = some i := by rfl) : JG X (.Tuple es k pos) ws (.dat (.tuple ds)) S M RN := ⟨fun σ H B v w s ok => by
  obtain ⟨a, xs, rfl, hq, ra⟩ := ok.dat.inv_tup
  refine of_pg (pg_starT hc pgs_w hn hst) ⟨a, xs, rfl, sqt_le w.le hq, by rw [ra.length]; exact hl, fun p hp => ?_⟩
  obtain ⟨w2, st2⟩ := w.new (o := .lst (xs.drop i)) hp
  exact (h.run σ _ _ _ w2 (s.le st2.bb) (((ra.take i).le st2.bb).append (.one (.lst (SqL.of upd_same) ((ra.drop i).le st2.bb))))).mono fun _ _ q => ⟨q.1, q.2.back st2 fun _ _ z => z⟩⟩
end
end DL
set_option Elab.async false
set_option linter.all false
set_option maxRecDepth 100000
set_option maxHeartbeats 4000000
namespace DL
open PySem PySem.Spec PyProof.Rows L2
/-! ### data as the library reads it -/
section
variable {X : Cx} {pins : List (Addr × Obj)} {σ : L2.St} {H : Hp} {s : Shared}
mutual
theorem Rp.reads (I : Inv X pins σ H s) (sm : ∃ om, X.K.lookup sysModules = some om ∧ om.cls = .type "dict") : ∀ (d : PyData) (v : V) (u : Value), Rp X.K H v d → RelV v u → ∃ as, Reads s.heap u d as ∧ sysModules ∉ as
  | .none, _, _, h, r => by
    cases h
    cases r
    exact ⟨_, Reads.none, by simp⟩
  | .bool b, _, _, h, r => by
    cases h
    cases r
    exact ⟨_, Reads.bool b, by simp⟩
  | .int i, _, _, h, r => by
    cases h
    obtain ⟨t, rfl⟩ := r
    exact ⟨_, Reads.int i t, by simp⟩
  | .str x, _, _, h, r => by
    cases h
    obtain ⟨t, rfl⟩ := r
    exact ⟨_, Reads.str x t, by simp⟩
  | .list ds, _, _, h, r => by
    cases h with
    | lst hs ha =>
      cases r
      obtain ⟨its, rv, ⟨o, n, ho, hc, _, hd⟩, _⟩ := I.list hs
      obtain ⟨as, hr, hm⟩ := RpAll.reads I sm ds _ its ha rv
      refine ⟨_, Reads.list ho hc hd hr, fun z => ?_⟩
      rcases List.mem_cons.mp z with e | z
      · obtain ⟨om, h1, h2⟩ := sm
        rw [← e, I.kIn _ _ h1] at ho
        cases ho
        rw [h2] at hc
        exact absurd hc (by decide)
      · exact hm z
  | .tuple ds, _, _, h, r => by
    cases h with
    | tup hs ha =>
      cases r
      obtain ⟨its, rv, ⟨o, ho, hc, n, hd⟩, _⟩ := I.tuple hs
      obtain ⟨as, hr, hm⟩ := RpAll.reads I sm ds _ its ha rv
      exact ⟨_, Reads.tuple ho hc hd hr, hm⟩
  | .dict kvs, _, _, h, r => by
    cases h with
    | dct hs =>
      cases r
      obtain ⟨_, hm, vs, hv, ob, es, ep, ho, hx, hd, hl⟩ := I.hok _ _ hs
      cases hv
      have he : es.toList = [] := by
        have q := hl.2.1
        cases h : es.toList with
        | nil => rfl
        | cons e r => rw [h] at q; cases q
      refine ⟨_, Reads.dict (kvs := []) (as := []) (bs := []) ho hx.1 hd (by rw [he]; exact .nil) (by rw [he]; exact .nil), fun z => ?_⟩
      rcases List.mem_cons.mp z with e | z
      · rw [← e] at hm
        exact absurd hm (by decide)
      · exact absurd z (by simp)
theorem RpAll.reads (I : Inv X pins σ H s) (sm : ∃ om, X.K.lookup sysModules = some om ∧ om.cls = .type "dict") : ∀ (ds : List PyData) (vs : List V) (us : List Value), RpAll X.K H vs ds → Vals vs us → ∃ as, ReadsAll s.heap us ds as ∧ sysModules ∉ as
  | [], _, _, h, r => by
    cases h
    cases r
    exact ⟨_, ReadsAll.nil, by simp⟩
  | d :: ds, _, _, h, r => by
    cases h with
    | cons h1 h2 =>
      cases r with
      | cons r1 r2 =>
        obtain ⟨as, q1, m1⟩ := Rp.reads I sm d _ _ h1 r1
        obtain ⟨bs, q2, m2⟩ := RpAll.reads I sm ds _ _ h2 r2
        exact ⟨_, ReadsAll.cons q1 q2, fun z => (List.mem_append.mp z).elim m1 m2⟩
end
end
/-! ### what stands behind a slot: data, a mutable list -/
inductive IsD (M : MS) : SD → PyData → Prop
  | dat {d : PyData} : IsD M (.dat d) d
  | lst {a : Addr} {ds : List PyData} : (a, MO.lst ds) ∈ M → IsD M (.raw (.ref a)) (.list ds)
theorem IsD.rp {K : Frag} {B H : Hp} {M : MS} {r : SD} {d : PyData} {v : V} (h : IsD M r d) (w : Wd K B H M) (ok : SlotOk K B r (some v)) : Rp K H v d := by
  cases h with
  | dat => exact ok.dat.le w.le
  | lst hm =>
    obtain ⟨_, xs, h1, h2⟩ := w.mo _ hm
    rw [ok.raw]
    exact .lst (SqL.of h1) (h2.le w.le)
/-- its items (they are still) -/
theorem IsD.items {K : Frag} {B H : Hp} {M : MS} {r : SD} {ds : List PyData} {v : V} (h : IsD M r (.list ds)) (w : Wd K B H M) (ok : SlotOk K B r (some v)) : ∃ a xs, v = .ref a ∧ SqL K H a xs ∧ RpAll K B xs ds := by
  cases h with
  | dat =>
    obtain ⟨a, xs, e, h1, h2⟩ := ok.dat.inv_lst
    exact ⟨a, xs, e, sql_le w.le h1, h2⟩
  | lst hm =>
    obtain ⟨_, xs, h1, h2⟩ := w.mo _ hm
    exact ⟨_, xs, ok.raw, SqL.of h1, h2⟩
theorem Rp.flat {K : Frag} {B : Hp} {v : V} {d : PyData} (h : Rp K B v d) (f : d = .none ∨ (∃ b, d = .bool b) ∨ (∃ i, d = .int i) ∨ ∃ x, d = .str x) : flatV v = true := by
  rcases f with rfl | ⟨b, rfl⟩ | ⟨b, rfl⟩ | ⟨b, rfl⟩ <;> cases h <;> rfl
section
variable {X : Cx}
/-! ### whole numbers -/
abbrev oI (f : Int → Int → SD) : OD := fun a b M R => match a, b with
  | .dat (.int i), .dat (.int j) => R (f i j) M
  | _, _ => False
abbrev oIc (C : Int → Int → Prop) (f : Int → Int → SD) : OD := fun a b M R => match a, b with
  | .dat (.int i), .dat (.int j) => C i j ∧ R (f i j) M
  | _, _ => False
theorem ojI {f : Value → Value → Sem Value} {g : Int → Int → V} {g' : Int → Int → PyData} (ho : OpR X f (rI0 g)) (hg : ∀ (K : Frag) (B : Hp) i j, Rp K B (g i j) (g' i j)) : OpJ X f (oI fun i j => .dat (g' i j)) := ⟨_, ho, fun B H M a b R x y Q w oa ob h hq => by
  cases a with
  | dat d => cases b with
    | dat e => cases d with
      | int i => cases e with
        | int j => exact ⟨i, j, oa.dat.inv_int, ob.dat.inv_int, hq _ _ (.here w (.of (hg _ _ i j)) h)⟩
        | _ => exact h.elim
      | _ => exact h.elim
    | _ => cases d <;> exact h.elim
  | _ => exact h.elim⟩
theorem ojIc {f : Value → Value → Sem Value} {C : Int → Int → Prop} {g : Int → Int → V} {g' : Int → Int → PyData} (ho : OpR X f (rI C g)) (hg : ∀ (K : Frag) (B : Hp) i j, Rp K B (g i j) (g' i j)) : OpJ X f (oIc C fun i j => .dat (g' i j)) := ⟨_, ho, fun B H M a b R x y Q w oa ob h hq => by
  cases a with
  | dat d => cases b with
    | dat e => cases d with
      | int i => cases e with
        | int j => exact ⟨i, j, oa.dat.inv_int, ob.dat.inv_int, h.1, hq _ _ (.here w (.of (hg _ _ i j)) h.2)⟩
        | _ => exact h.elim
      | _ => exact h.elim
    | _ => cases d <;> exact h.elim
  | _ => exact h.elim⟩
theorem oj_add : OpJ X (binaryOp .Add) (oI fun i j => .int (i + j)) := ojI op_add fun _ _ _ _ => .int _
theorem oj_sub : OpJ X (binaryOp .Sub) (oI fun i j => .int (i - j)) := ojI op_sub fun _ _ _ _ => .int _
theorem oj_mul : OpJ X (binaryOp .Mult) (oIc CMulW fun i j => .int (i * j)) := ojIc op_mulW fun _ _ _ _ => .int _
theorem oj_fdiv : OpJ X (binaryOp .FloorDiv) (oIc CDivW fun i j => .int (i / j)) := ojIc op_fdivW fun _ _ _ _ => .int _
theorem oj_mod : OpJ X (binaryOp .Mod) (oIc (fun _ j => 0 < j) fun i j => .int (i % j)) := ojIc op_mod fun _ _ _ _ => .int _
def CPowW (i j : Int) : Prop := 0 ≤ j ∧ (Builtin.Int.intBits i : Int) * j ≤ 2 ^ 27
theorem op_powW : OpR X (binaryOp .Pow) (rI CPowW fun i j => .int (i ^ j.toNat)) := opI fun _ _ _ _ _ _ _ hc q => pow_int hc.1 hc.2 q
theorem oj_pow : OpJ X (binaryOp .Pow) (oIc CPowW fun i j => .int (i ^ j.toNat)) := ojIc op_powW fun _ _ _ _ => .int _
theorem oj_lt : OpJ X (compareOp .Lt) (oI fun i j => .bl (decide (i < j))) := ojI op_lt fun _ _ _ _ => .bl _
theorem oj_le : OpJ X (compareOp .LtE) (oI fun i j => .bl (decide (i ≤ j))) := ojI op_le fun _ _ _ _ => .bl _
theorem oj_gt : OpJ X (compareOp .Gt) (oI fun i j => .bl (decide (j < i))) := ojI op_gt fun _ _ _ _ => .bl _
theorem oj_ge : OpJ X (compareOp .GtE) (oI fun i j => .bl (decide (j ≤ i))) := ojI op_ge fun _ _ _ _ => .bl _
/-! ### == of scalars, of data -/
abbrev oEqS (neg : Bool) : OD := fun a b M R => match a, b with
  | .dat (.int i), .dat (.int j) => R (.bl (if neg then !decide (i = j) else decide (i = j))) M
  | .dat (.str i), .dat (.str j) => R (.bl (if neg then !decide (i = j) else decide (i = j))) M
  | .dat (.bool i), .dat (.bool j) => R (.bl (if neg then !decide (i = j) else decide (i = j))) M
  | _, _ => False
theorem oj_eqS : OpJ X (compareOp .Eq) (oEqS false) := ⟨_, op_eq, fun B H M a b R x y Q w oa ob h hq => by
  cases a with
  | dat d => cases b with
    | dat e => cases d with
      | int i => cases e with
        | int j =>
          obtain rfl := oa.dat.inv_int
          obtain rfl := ob.dat.inv_int
          refine ⟨rfl, ?_⟩
          rw [show decide (V.int i = V.int j) = decide (i = j) by rw [dec_int]; rfl]
          exact hq _ _ (.here w (.of (.bl _)) h)
        | _ => exact h.elim
      | str i => cases e with
        | str j =>
          obtain rfl := oa.dat.inv_str
          obtain rfl := ob.dat.inv_str
          refine ⟨rfl, ?_⟩
          rw [show decide (V.str i = V.str j) = decide (i = j) by simp]
          exact hq _ _ (.here w (.of (.bl _)) h)
        | _ => exact h.elim
      | bool i => cases e with
        | bool j =>
          obtain rfl := oa.dat.inv_bl
          obtain rfl := ob.dat.inv_bl
          refine ⟨rfl, ?_⟩
          rw [show decide (V.bl i = V.bl j) = decide (i = j) by simp]
          exact hq _ _ (.here w (.of (.bl _)) h)
        | _ => exact h.elim
      | _ => exact h.elim
    | _ => cases d <;> exact h.elim
  | _ => exact h.elim⟩
theorem oj_neS : OpJ X (compareOp .NotEq) (oEqS true) := ⟨_, op_ne, fun B H M a b R x y Q w oa ob h hq => by
  cases a with
  | dat d => cases b with
    | dat e => cases d with
      | int i => cases e with
        | int j =>
          obtain rfl := oa.dat.inv_int
          obtain rfl := ob.dat.inv_int
          refine ⟨rfl, ?_⟩
          rw [show decide (V.int i = V.int j) = decide (i = j) by rw [dec_int]; rfl]
          exact hq _ _ (.here w (.of (.bl _)) h)
        | _ => exact h.elim
      | str i => cases e with
        | str j =>
          obtain rfl := oa.dat.inv_str
          obtain rfl := ob.dat.inv_str
          refine ⟨rfl, ?_⟩
          rw [show decide (V.str i = V.str j) = decide (i = j) by simp]
          exact hq _ _ (.here w (.of (.bl _)) h)
        | _ => exact h.elim
      | bool i => cases e with
        | bool j =>
          obtain rfl := oa.dat.inv_bl
          obtain rfl := ob.dat.inv_bl
          refine ⟨rfl, ?_⟩
          rw [show decide (V.bl i = V.bl j) = decide (i = j) by simp]
          exact hq _ _ (.here w (.of (.bl _)) h)
        | _ => exact h.elim
      | _ => exact h.elim
    | _ => cases d <;> exact h.elim
  | _ => exact h.elim⟩
/-- == of any data without a dict -/
abbrev oEqD (neg : Bool) : OD := fun a b M R => ∃ d e, IsD M a d ∧ IsD M b e ∧ SeqAt.shaped d = true ∧ SeqAt.shaped e = true ∧ R (.bl (if neg then !PyData.eqv d e else PyData.eqv d e)) M
def rEqR (K : Frag) (neg : Bool) : R2 := fun x y H Q => ∃ d e, Rp K H x d ∧ Rp K H y e ∧ SeqAt.shaped d = true ∧ SeqAt.shaped e = true ∧ Q (.bl (if neg then !PyData.eqv d e else PyData.eqv d e)) H
theorem op_eqR (sm : ∃ om, X.K.lookup sysModules = some om ∧ om.cls = .type "dict") (hu : X.A.units + 64 < cLine) : OpR X (compareOp .Eq) (rEqR X.K false) := by
  intro pins s σ H x y v u Q I rx ry h
  obtain ⟨d, e, hd, he, sd, se, q⟩ := h
  obtain ⟨as, r1, _⟩ := Rp.reads I sm d x v hd rx
  obtain ⟨bs, r2, _⟩ := Rp.reads I sm e y u he ry
  exact SeqAt.compareEq_shaped r1 r2 sd se hu ⟨.bl _, H, I, rfl, q⟩
theorem op_neR (sm : ∃ om, X.K.lookup sysModules = some om ∧ om.cls = .type "dict") (hu : X.A.units + 64 < cLine) : OpR X (compareOp .NotEq) (rEqR X.K true) := by
  intro pins s σ H x y v u Q I rx ry h
  obtain ⟨d, e, hd, he, sd, se, q⟩ := h
  obtain ⟨as, r1, _⟩ := Rp.reads I sm d x v hd rx
  obtain ⟨bs, r2, _⟩ := Rp.reads I sm e y u he ry
  exact SeqAt.compareNe_shaped r1 r2 sd se hu ⟨.bl _, H, I, rfl, q⟩
theorem rEqR_J {neg : Bool} : RS X (oEqD neg) (rEqR X.K neg) := fun B H M a b R x y Q w oa ob h hq => by
  obtain ⟨d, e, h1, h2, s1, s2, q⟩ := h
  exact ⟨d, e, h1.rp w oa, h2.rp w ob, s1, s2, hq _ _ (.here w (.of (.bl _)) q)⟩
theorem oj_eqD (sm : ∃ om, X.K.lookup sysModules = some om ∧ om.cls = .type "dict") (hu : X.A.units + 64 < cLine) : OpJ X (compareOp .Eq) (oEqD false) := ⟨_, op_eqR sm hu, rEqR_J⟩
theorem oj_neD (sm : ∃ om, X.K.lookup sysModules = some om ∧ om.cls = .type "dict") (hu : X.A.units + 64 < cLine) : OpJ X (compareOp .NotEq) (oEqD true) := ⟨_, op_neR sm hu, rEqR_J⟩
/-! ### is None, is True -/
def isNone : PyData → Bool
  | .none => true
  | _ => false
theorem Rp.isNone {K : Frag} {B : Hp} {v : V} {d : PyData} (h : Rp K B v d) : decide (v = V.non) = isNone d := by
  cases h <;> first | rfl | exact decide_eq_false (fun z => nomatch z)
abbrev oIsN (neg : Bool) : OD := fun a b M R => match a, b with
  | .dat d, .dat .none => R (.bl (if neg then !isNone d else isNone d)) M
  | _, _ => False
theorem oj_isN : OpJ X (compareOp .Is) (oIsN false) := ⟨_, op_isN, fun B H M a b R x y Q w oa ob h hq => by
  cases a with
  | dat d => cases b with
    | dat e => cases e with
      | none =>
        refine ⟨ob.dat.inv_non, ?_⟩
        rw [oa.dat.isNone]
        exact hq _ _ (.here w (.of (.bl _)) h)
      | _ => exact h.elim
    | _ => exact h.elim
  | _ => exact h.elim⟩
theorem oj_notN : OpJ X (compareOp .IsNot) (oIsN true) := ⟨_, op_notN, fun B H M a b R x y Q w oa ob h hq => by
  cases a with
  | dat d => cases b with
    | dat e => cases e with
      | none =>
        refine ⟨ob.dat.inv_non, ?_⟩
        rw [oa.dat.isNone]
        exact hq _ _ (.here w (.of (.bl _)) h)
      | _ => exact h.elim
    | _ => exact h.elim
  | _ => exact h.elim⟩
abbrev oIsB (neg : Bool) : OD := fun a b M R => match a, b with
  | .dat (.bool i), .dat (.bool j) => R (.bl (if neg then !decide (i = j) else decide (i = j))) M
  | _, _ => False
/-! ### tuples, lists -/
abbrev oAddT : OD := fun a b M R => match a, b with
  | .dat (.tuple xs), .dat (.tuple ys) => xs.length + ys.length ≤ 1000000 ∧ R (.dat (.tuple (xs ++ ys))) M
  | _, _ => False
theorem oj_addT : OpJ X (binaryOp .Add) oAddT := ⟨_, op_catA, fun B H M a b R x y Q w oa ob h hq => by
  cases a with
  | dat d => cases b with
    | dat e => cases d with
      | tuple xs => cases e with
        | tuple ys =>
          obtain ⟨p, us, rfl, hp, ra⟩ := oa.dat.inv_tup
          obtain ⟨q, ws, rfl, hq', rb⟩ := ob.dat.inv_tup
          refine ⟨p, q, us, ws, rfl, rfl, sqt_le w.le hp, sqt_le w.le hq', by rw [ra.length, rb.length, sizeLine_eq]; omega, fun e => ?_, fun e1 e2 => ?_, fun e1 e2 t ht => ?_⟩
          · subst e
            cases ra
            exact hq _ _ (.here w (.of (.tup hq' rb)) h.2)
          · subst e2
            cases rb
            exact hq _ _ (.here w (.of (.tup hp ra)) (by simpa using h.2))
          · obtain ⟨w2, st2⟩ := w.new (o := .tup (us ++ ws)) ht
            exact hq _ _ ⟨_, _, M, st2, w2, .of (.tup (SqT.of upd_same) ((ra.append rb).le st2.bb)), h.2⟩
        | _ => exact h.elim
      | _ => exact h.elim
    | _ => cases d <;> exact h.elim
  | _ => exact h.elim⟩
theorem op_catL : OpR X (binaryOp .Add) (fun x y H Q => ∃ l b xs zs, x = .ref l ∧ y = .ref b ∧ SqL X.K H l xs ∧ SqL X.K H b zs ∧ xs.length + zs.length ≤ sizeLine ∧ ∀ p, H p = none → Q (.ref p) (upd H p (.lst (xs ++ zs)))) := by
  intro pins s σ H x y v u Q I rx ry h
  obtain ⟨l, b, xs, zs, rfl, rfl, hH, hB, hz, q⟩ := h
  cases rx
  cases ry
  obtain ⟨its, r, ⟨⟨cls, dd, data, sl⟩, n, ho, hc, hd0, hd⟩, _⟩ := I.list hH
  obtain ⟨its2, r2, ⟨⟨cls2, dd2, data2, sl2⟩, n2, ho2, hc2, hd02, hd2⟩, _⟩ := I.list hB
  simp only at hc hd hd0 hc2 hd2 hd02
  subst hc hd hd0 hc2 hd2 hd02
  have hl := r.length
  have hl2 := r2.length
  have e : its.toArray ++ its2.toArray = (its ++ its2).toArray := by simp
  refine concat_meets ⟨_, ho, rfl⟩ ⟨_, ho2, rfl⟩ noFill_list_add seq_list_add PySem.F.slot_list_add PySem.F.entry_list_add (PySem.F.args_list_add_2 _ _) (list_addW l b its.toArray its2.toArray n n2 none none sl sl2 (by simp; omega)) ⟨ho, ho2, ?_⟩
  rw [e]
  exact ⟨.ref _, _, I.lnew (t' := s.toks) (r.append r2) (by rw [List.length_append]; omega), rfl, q _ I.fresh⟩
abbrev oAddL : OD := fun a b M R => ∃ xs ys, IsD M a (.list xs) ∧ IsD M b (.list ys) ∧ xs.length + ys.length ≤ 1000000 ∧ R (.dat (.list (xs ++ ys))) M
theorem oj_addL : OpJ X (binaryOp .Add) oAddL := ⟨_, op_catL, fun B H M a b R x y Q w oa ob h hq => by
  obtain ⟨xs, ys, h1, h2, hz, h⟩ := h
  obtain ⟨p, us, rfl, hp, ra⟩ := h1.items w oa
  obtain ⟨q, ws, rfl, hq', rb⟩ := h2.items w ob
  refine ⟨p, q, us, ws, rfl, rfl, hp, hq', by rw [ra.length, rb.length, sizeLine_eq]; omega, fun t ht => ?_⟩
  obtain ⟨w2, st2⟩ := w.new (o := .lst (us ++ ws)) ht
  exact hq _ _ ⟨_, _, M, st2, w2, .of (.lst (SqL.of upd_same) ((ra.append rb).le st2.bb)), h⟩⟩
/-- the sum is a mutable list -/
abbrev oAddLM : OD := fun a b M R => ∃ xs ys, IsD M a (.list xs) ∧ IsD M b (.list ys) ∧ xs.length + ys.length ≤ 1000000 ∧ ∀ p, R (.raw (.ref p)) ((p, .lst (xs ++ ys)) :: M)
theorem oj_addLM : OpJ X (binaryOp .Add) oAddLM := ⟨_, op_catL, fun B H M a b R x y Q w oa ob h hq => by
  obtain ⟨xs, ys, h1, h2, hz, h⟩ := h
  obtain ⟨p, us, rfl, hp, ra⟩ := h1.items w oa
  obtain ⟨q, ws, rfl, hq', rb⟩ := h2.items w ob
  refine ⟨p, q, us, ws, rfl, rfl, hp, hq', by rw [ra.length, rb.length, sizeLine_eq]; omega, fun t ht => ?_⟩
  obtain ⟨w2, st2⟩ := w.newM (o := .lst (us ++ ws)) (m := .lst (xs ++ ys)) ht ⟨_, upd_same, ra.append rb⟩
  exact hq _ _ ⟨_, SD.raw (.ref t), _, st2, w2, rfl, h t⟩⟩
/-! ### in, not in -/
theorem inV_int (n : Int) : ∀ {vs : List V} {ns : List Int} {K : Frag} {B : Hp}, RpAll K B vs (ns.map PyData.int) → vs.all flatV = true ∧ inV (.int n) vs = decide (n ∈ ns)
  | [], [], _, _, _ => ⟨rfl, rfl⟩
  | v :: vs, [], _, _, h => by cases h
  | [], m :: ns, _, _, h => by cases h
  | v :: vs, m :: ns, K, B, h => by
    cases h with
    | cons h1 h2 =>
      obtain ⟨q1, q2⟩ := inV_int n h2
      obtain rfl := h1.inv_int
      refine ⟨by rw [List.all_cons, q1]; rfl, ?_⟩
      have e : inV (.int n) (V.int m :: vs) = ((m == n) || inV (.int n) vs) := rfl
      rw [e, q2]
      by_cases c : m = n
      · subst c; simp
      · have c' : ¬ n = m := fun z => c z.symm
        simp [c, c', List.mem_cons]
theorem inV_str (n : Str) : ∀ {vs : List V} {ns : List Str} {K : Frag} {B : Hp}, RpAll K B vs (ns.map PyData.str) → vs.all flatV = true ∧ inV (.str n) vs = decide (n ∈ ns)
  | [], [], _, _, _ => ⟨rfl, rfl⟩
  | v :: vs, [], _, _, h => by cases h
  | [], m :: ns, _, _, h => by cases h
  | v :: vs, m :: ns, K, B, h => by
    cases h with
    | cons h1 h2 =>
      obtain ⟨q1, q2⟩ := inV_str n h2
      obtain rfl := h1.inv_str
      refine ⟨by rw [List.all_cons, q1]; rfl, ?_⟩
      have e : inV (.str n) (V.str m :: vs) = ((m == n) || inV (.str n) vs) := rfl
      rw [e, q2]
      by_cases c : m = n
      · subst c; simp
      · have c' : ¬ n = m := fun z => c z.symm
        simp [c, c', List.mem_cons]
/-- a whole number in a list, a tuple of such -/
inductive SeqD (M : MS) : SD → List PyData → Prop
  | lst {r : SD} {ds : List PyData} : IsD M r (.list ds) → SeqD M r ds
  | tup {ds : List PyData} : SeqD M (.dat (.tuple ds)) ds
theorem SeqD.items {K : Frag} {B H : Hp} {M : MS} {r : SD} {ds : List PyData} {v : V} (h : SeqD M r ds) (w : Wd K B H M) (ok : SlotOk K B r (some v)) : ∃ a xs, v = .ref a ∧ (SqL K H a xs ∨ SqT K H a xs) ∧ RpAll K B xs ds := by
  cases h with
  | lst h =>
    obtain ⟨a, xs, e, h1, h2⟩ := h.items w ok
    exact ⟨a, xs, e, .inl h1, h2⟩
  | tup =>
    obtain ⟨a, xs, e, h1, h2⟩ := ok.dat.inv_tup
    exact ⟨a, xs, e, .inr (sqt_le w.le h1), h2⟩
abbrev oInI (neg : Bool) : OD := fun a b M R => ∃ (n : Int) (ns : List Int), a = .int n ∧ SeqD M b (ns.map PyData.int) ∧ R (.bl (if neg then !decide (n ∈ ns) else decide (n ∈ ns))) M
abbrev oInS (neg : Bool) : OD := fun a b M R => ∃ (n : Str) (ns : List Str), a = .str n ∧ SeqD M b (ns.map PyData.str) ∧ R (.bl (if neg then !decide (n ∈ ns) else decide (n ∈ ns))) M
theorem rIn_I {neg : Bool} : RS X (oInI neg) (rIn X.K neg) := fun B H M a b R x y Q w oa ob h hq => by
  obtain ⟨n, ns, rfl, h1, h⟩ := h
  obtain ⟨p, us, rfl, hp, ra⟩ := h1.items w ob
  obtain ⟨q1, q2⟩ := inV_int n ra
  obtain rfl := oa.dat.inv_int
  refine ⟨p, us, rfl, hp, rfl, q1, ?_⟩
  rw [q2]
  exact hq _ _ (.here w (.of (.bl _)) h)
theorem rIn_S {neg : Bool} : RS X (oInS neg) (rIn X.K neg) := fun B H M a b R x y Q w oa ob h hq => by
  obtain ⟨n, ns, rfl, h1, h⟩ := h
  obtain ⟨p, us, rfl, hp, ra⟩ := h1.items w ob
  obtain ⟨q1, q2⟩ := inV_str n ra
  obtain rfl := oa.dat.inv_str
  refine ⟨p, us, rfl, hp, rfl, q1, ?_⟩
  rw [q2]
  exact hq _ _ (.here w (.of (.bl _)) h)
theorem oj_inI : OpJ X (compareOp .In) (oInI false) := ⟨_, op_in_seq, rIn_I⟩
theorem oj_ninI : OpJ X (compareOp .NotIn) (oInI true) := ⟨_, op_notIn_seq, rIn_I⟩
theorem oj_inS : OpJ X (compareOp .In) (oInS false) := ⟨_, op_in_seq, rIn_S⟩
theorem oj_ninS : OpJ X (compareOp .NotIn) (oInS true) := ⟨_, op_notIn_seq, rIn_S⟩
/-! ### subscripts -/
variable {S : List SD} {M : MS} {R : SD → MS → Prop} {a b c e : Expr} {pos p : Pos} {x : Str}
structure IxJ (X : Cx) (od : OD) : Prop where
  ex : ∃ r, IxR X r ∧ RS X od r
theorem je_ix {od : OD} (o : IxJ X od) (h : JE X a S M fun r1 M1 => JE X b S M1 fun r2 M2 => od r1 r2 M2 R) (hs : PlainIx b := by exact fun _ _ => rfl) : JE X (.Subscript a b pos) S M R := ⟨fun σ H B w s => by
  obtain ⟨r, ho, hr⟩ := o.ex
  exact of_pe (pe_ix ho pe_w pe_w hs) (two hr h w s fun _ _ q => q)⟩
theorem RpAll.ixN {K : Frag} {B : Hp} {vs : List V} {ds : List PyData} (h : RpAll K B vs ds) {i : Int} {d : PyData} (e : atI ds i = some d) : ∃ v, atI vs i = some v ∧ Rp K B v d := by
  unfold atI at e ⊢
  rw [h.length]
  cases q : L2.ixN ds.length i with
  | none => rw [q] at e; cases e
  | some j =>
    rw [q] at e
    exact h.getD (show ds[j]? = some d from e)
abbrev oIxL : OD := fun a b M R => ∃ ds i d, IsD M a (.list ds) ∧ b = .int i ∧ atI ds i = some d ∧ R (.dat d) M
abbrev oIxT : OD := fun a b M R => ∃ ds i d, a = .dat (.tuple ds) ∧ b = .int i ∧ atI ds i = some d ∧ R (.dat d) M
theorem ij_lst : IxJ X oIxL := ⟨_, ix_list, fun B H M a b R x y Q w oa ob h hq => by
  obtain ⟨ds, i, d, h1, rfl, e, h⟩ := h
  obtain ⟨p, us, rfl, hp, ra⟩ := h1.items w oa
  obtain rfl := ob.dat.inv_int
  obtain ⟨v, e2, rv⟩ := ra.ixN e
  exact ⟨p, us, i, v, rfl, rfl, hp, e2, hq _ _ (.here w (.of rv) h)⟩⟩
theorem ij_tup : IxJ X oIxT := ⟨_, ix_tup, fun B H M a b R x y Q w oa ob h hq => by
  obtain ⟨ds, i, d, rfl, rfl, e, h⟩ := h
  obtain ⟨p, us, rfl, hp, ra⟩ := oa.dat.inv_tup
  obtain rfl := ob.dat.inv_int
  obtain ⟨v, e2, rv⟩ := ra.ixN e
  exact ⟨p, us, i, v, rfl, rfl, sqt_le w.le hp, e2, hq _ _ (.here w (.of rv) h)⟩⟩
/-! ### slices -/
def cutD (xs : List PyData) (lo hi : Option Int) : List PyData := (xs.drop (HT.sIx xs.length 0 lo)).take (HT.sIx xs.length xs.length hi - HT.sIx xs.length 0 lo)
theorem RpAll.cut {K : Frag} {B : Hp} {vs : List V} {ds : List PyData} (h : RpAll K B vs ds) (lo hi : Option Int) : RpAll K B (cutV vs lo hi) (cutD ds lo hi) := by
  unfold cutV cutD
  rw [h.length]
  exact (h.drop _).take _
/-- by values -/
structure SlJ (X : Cx) (od : SD → Option Int → Option Int → MS → (SD → MS → Prop) → Prop) : Prop where
  ex : ∃ r, SlR X r ∧ ∀ (B H : Hp) (M : MS) (a : SD) (lo hi : Option Int) (R : SD → MS → Prop) (x : V) (Q : VK), Wd X.K B H M → SlotOk X.K B a (some x) → od a lo hi M R → (∀ v H', QD X.K B H M R v H' → Q v H') → r x lo hi H Q
abbrev oSlL : SD → Option Int → Option Int → MS → (SD → MS → Prop) → Prop := fun a lo hi M R => ∃ ds, IsD M a (.list ds) ∧ R (.dat (.list (cutD ds lo hi))) M
abbrev oSlT : SD → Option Int → Option Int → MS → (SD → MS → Prop) → Prop := fun a lo hi M R => ∃ ds, a = .dat (.tuple ds) ∧ R (.dat (.tuple (cutD ds lo hi))) M
theorem sj_lst : SlJ X oSlL := ⟨_, sl_list, fun B H M a lo hi R x Q w oa h hq => by
  obtain ⟨ds, h1, h⟩ := h
  obtain ⟨p, us, rfl, hp, ra⟩ := h1.items w oa
  refine ⟨p, us, rfl, hp, fun t ht => ?_⟩
  obtain ⟨w2, st2⟩ := w.new (o := .lst (cutV us lo hi)) ht
  exact hq _ _ ⟨_, _, M, st2, w2, .of (.lst (SqL.of upd_same) ((ra.cut lo hi).le st2.bb)), h⟩⟩
theorem cutD_whole {ds : List PyData} {lo hi : Option Int} (h : HT.sIx ds.length 0 lo = 0 ∧ HT.sIx ds.length ds.length hi = ds.length) : cutD ds lo hi = ds := by
  unfold cutD
  rw [h.1, h.2, List.drop_zero, Nat.sub_zero, List.take_length]
theorem sj_tup : SlJ X oSlT := ⟨_, sl_tupA, fun B H M a lo hi R x Q w oa h hq => by
  obtain ⟨ds, rfl, h⟩ := h
  obtain ⟨p, us, rfl, hp, ra⟩ := oa.dat.inv_tup
  refine ⟨p, us, rfl, sqt_le w.le hp, fun hw => ?_, fun hw t ht => ?_⟩
  · rw [ra.length] at hw
    rw [cutD_whole hw] at h
    exact hq _ _ (.here w (.of (.tup hp ra)) h)
  · obtain ⟨w2, st2⟩ := w.new (o := .tup (cutV us lo hi)) ht
    exact hq _ _ ⟨_, _, M, st2, w2, .of (.tup (SqT.of upd_same) ((ra.cut lo hi).le st2.bb)), h⟩⟩
variable {p2 : Pos} {od : SD → Option Int → Option Int → MS → (SD → MS → Prop) → Prop}
theorem je_slLH (o : SlJ X od) (h : JE X e S M fun r M1 => JE X a S M1 fun r1 M2 => ∃ i, r1 = .int i ∧ JE X b S M2 fun r2 M3 => ∃ j, r2 = .int j ∧ od r (some i) (some j) M3 R) : JE X (.Subscript e (.Slice (some a) (some b) none p2) pos) S M R := ⟨fun σ H B w s => by
  obtain ⟨r, ho, hr⟩ := o.ex
  refine of_pe (pe_slice ho pe_w (po_some pe_w) (po_some pe_w)) ((h.run σ H B w s).mono fun v1 H1 ⟨B1, r1, M1, st1, w1, ok1, h1⟩ => ?_)
  refine (h1.run σ H1 B1 w1 (s.le st1.bb)).mono fun v2 H2 ⟨B2, r2, M2, st2, w2, ok2, i, e2, h2⟩ => ?_
  subst e2
  refine ⟨i, ok2.dat.inv_int, (h2.run σ H2 B2 w2 (s.le (st1.trans st2).bb)).mono fun v3 H3 ⟨B3, r3, M3, st3, w3, ok3, j, e3, h3⟩ => ?_⟩
  subst e3
  exact ⟨j, ok3.dat.inv_int, hr _ _ _ _ _ _ _ _ _ w3 (ok1.le (st2.trans st3).bb) h3 fun _ _ q => q.back (st1.trans (st2.trans st3)) fun _ _ z => z⟩⟩
theorem je_slL (o : SlJ X od) (h : JE X e S M fun r M1 => JE X a S M1 fun r1 M2 => ∃ i, r1 = .int i ∧ od r (some i) none M2 R) : JE X (.Subscript e (.Slice (some a) none none p2) pos) S M R := ⟨fun σ H B w s => by
  obtain ⟨r, ho, hr⟩ := o.ex
  refine of_pe (pe_slice ho pe_w (po_some pe_w) po_none) ((h.run σ H B w s).mono fun v1 H1 ⟨B1, r1, M1, st1, w1, ok1, h1⟩ => ?_)
  refine (h1.run σ H1 B1 w1 (s.le st1.bb)).mono fun v2 H2 ⟨B2, r2, M2, st2, w2, ok2, i, e2, h2⟩ => ?_
  subst e2
  exact ⟨i, ok2.dat.inv_int, hr _ _ _ _ _ _ _ _ _ w2 (ok1.le st2.bb) h2 fun _ _ q => q.back (st1.trans st2) fun _ _ z => z⟩⟩
theorem je_slH (o : SlJ X od) (h : JE X e S M fun r M1 => JE X a S M1 fun r1 M2 => ∃ i, r1 = .int i ∧ od r none (some i) M2 R) : JE X (.Subscript e (.Slice none (some a) none p2) pos) S M R := ⟨fun σ H B w s => by
  obtain ⟨r, ho, hr⟩ := o.ex
  refine of_pe (pe_slice ho pe_w po_none (po_some pe_w)) ((h.run σ H B w s).mono fun v1 H1 ⟨B1, r1, M1, st1, w1, ok1, h1⟩ => ?_)
  refine (h1.run σ H1 B1 w1 (s.le st1.bb)).mono fun v2 H2 ⟨B2, r2, M2, st2, w2, ok2, i, e2, h2⟩ => ?_
  subst e2
  exact ⟨i, ok2.dat.inv_int, hr _ _ _ _ _ _ _ _ _ w2 (ok1.le st2.bb) h2 fun _ _ q => q.back (st1.trans st2) fun _ _ z => z⟩⟩
/-! ### calls of built-ins -/
abbrev CDt := List SD → MS → (SD → MS → Prop) → Prop
abbrev SlotsA (K : Frag) (B : Hp) : List SD → List V → Prop := Paired fun r v => SlotOk K B r (some v)
structure CallJ (X : Cx) (f : Value) (cd : CDt) : Prop where
  ex : ∃ r, CallR X f r ∧ ∀ (B H : Hp) (M : MS) (rs : List SD) (R : SD → MS → Prop) (vs : List V) (Q : VK), Wd X.K B H M → SlotsA X.K B rs vs → cd rs M R → (∀ v H', QD X.K B H M R v H' → Q v H') → r vs H Q
variable {es : List Expr} {cd : CDt} {id T : String}
theorem je_callB (o : CallJ X (.builtin id) cd) (hm : X.mg x = none) (hv : bootBuiltins x = some (.builtin id)) (h : JA X (e :: es) S M fun rs M1 => cd rs M1 R) (hg : Gl X x := by rfl) (hn : x ≠ "__name__" := by decide) (hdb : (x == ("__debug__" : Str)) = false := by decide)
    (he : starEach (e :: es) X.env = (false, eval e X.env) :: starEach es X.env := by rfl) (hpl : (backTo pos (starEach es X.env)).any (·.1) = false := by rfl) : JE X (.Call (.Name x p) (e :: es) [] pos) S M R := ⟨fun σ H B w s => by
  obtain ⟨r, ho, hr⟩ := o.ex
  exact of_pe (pe_callB ho hg hm hv pa_w hn hdb he hpl) ((h.run σ H B w s).mono fun vs H1 ⟨B1, rs, M1, st1, w1, ok1, h1⟩ => hr _ _ _ _ _ _ _ w1 ok1 h1 fun _ _ q => q.back st1 fun _ _ z => z)⟩
theorem je_callT (o : CallJ X (.type T) cd) (hm : X.mg x = none) (hv : bootBuiltins x = some (.type T)) (h : JA X (e :: es) S M fun rs M1 => cd rs M1 R) (hg : Gl X x := by rfl) (hn : x ≠ "__name__" := by decide) (hdb : (x == ("__debug__" : Str)) = false := by decide)
    (he : starEach (e :: es) X.env = (false, eval e X.env) :: starEach es X.env := by rfl) (hpl : (backTo pos (starEach es X.env)).any (·.1) = false := by rfl) : JE X (.Call (.Name x p) (e :: es) [] pos) S M R := ⟨fun σ H B w s => by
  obtain ⟨r, ho, hr⟩ := o.ex
  exact of_pe (pe_callTy ho hg hm hv pa_w hn hdb he hpl) ((h.run σ H B w s).mono fun vs H1 ⟨B1, rs, M1, st1, w1, ok1, h1⟩ => hr _ _ _ _ _ _ _ w1 ok1 h1 fun _ _ q => q.back st1 fun _ _ z => z)⟩
/-- a built-in's name as a value -/
theorem je_type {T : String} (hm : X.mg x = none) (hv : bootBuiltins x = some (.type T)) (q : R (.raw (.ty T)) M) (hg : Gl X x := by rfl) (hn : x ≠ "__name__" := by decide) (hd : (x == ("__debug__" : Str)) = false := by decide) : JE X (.Name x pos) S M R := ⟨fun σ H B w s =>
  of_pe (pe_bltn (v := .ty T) hg hm hv rfl hn hd) (QD.here w (r := .raw (.ty T)) rfl q)⟩
theorem slots1 {K : Frag} {B : Hp} {r : SD} {vs : List V} (h : SlotsA K B [r] vs) : ∃ v, vs = [v] ∧ SlotOk K B r (some v) := by
  cases h with
  | cons h t => cases t; exact ⟨_, rfl, h⟩
theorem slots2 {K : Frag} {B : Hp} {r q : SD} {vs : List V} (h : SlotsA K B [r, q] vs) : ∃ v u, vs = [v, u] ∧ SlotOk K B r (some v) ∧ SlotOk K B q (some u) := by
  cases h with
  | cons h t =>
    obtain ⟨u, rfl, h2⟩ := slots1 t
    exact ⟨_, _, rfl, h, h2⟩
/-- len -/
def lenD : PyData → Option Nat
  | .list ds => some ds.length
  | .tuple ds => some ds.length
  | .str x => some x.length
  | _ => none
abbrev cLen : CDt := fun rs M R => ∃ r d n, rs = [r] ∧ IsD M r d ∧ lenD d = some n ∧ (∀ x, d = .str x → x.length ≤ 1000000) ∧ R (.int (n : Int)) M
theorem cj_len : CallJ X (.builtin "len") cLen := ⟨_, call_len, fun B H M rs R vs Q w oa h hq => by
  obtain ⟨r, d, n, rfl, h1, h2, h3, h⟩ := h
  obtain ⟨v, rfl, ok⟩ := slots1 oa
  have rp := h1.rp w ok
  refine ⟨v, n, rfl, ?_, hq _ _ (.here w (.of (.int _)) h)⟩
  cases rp with
  | str x =>
    cases h2
    have := h3 x rfl
    exact ⟨by rw [sizeLine_eq]; omega, rfl⟩
  | lst hs ra => cases h2; exact .inl ⟨_, hs, ra.length.symm⟩
  | tup hs ra => cases h2; exact .inr ⟨_, hs, ra.length.symm⟩
  | _ => cases h2⟩
/-- isinstance -/
def tyD : PyData → String
  | .none => "NoneType"
  | .bool _ => "bool"
  | .int _ => "int"
  | .str _ => "str"
  | .list _ => "list"
  | .tuple _ => "tuple"
  | .dict _ => "dict"
theorem Rp.ty {K : Frag} {H : Hp} {v : V} {d : PyData} (h : Rp K H v d) : TyX K H v (.type (tyD d)) := by
  cases h with
  | non => exact .base .non
  | bl b => exact .base (.bl b)
  | int i => exact .base (.int i)
  | str x => exact .base (.str x)
  | lst hs ra =>
    rcases hs with (h | ⟨o, h⟩) | ⟨o, its, n, h1, h2, _⟩
    · exact .base (.lst h)
    · exact .base (.frz h)
    · exact .kList h1 h2
  | tup hs ra =>
    rcases hs with (h | ⟨o, h⟩) | ⟨o, its, n, h1, h2, _⟩
    · exact .base (.tup h)
    · exact .fTuple h
    · exact .kTuple h1 h2
  | dct h => exact .base (.dK h)
abbrev cIsi (K : Frag) : CDt := fun rs M R => ∃ r d n b, rs = [r, .raw (.ty n)] ∧ IsD M r d ∧ PySem.W.kitOne K (.type (tyD d)) (.type n) = some b ∧ R (.bl b) M
theorem cj_isi : CallJ X (.builtin "isinstance") (cIsi X.K) := ⟨_, call_isi, fun B H M rs R vs Q w oa h hq => by
  obtain ⟨r, d, n, b, rfl, h1, h2, h⟩ := h
  obtain ⟨v, u, rfl, ok, ok2⟩ := slots2 oa
  have e := ok2.raw
  subst e
  exact ⟨v, .ty n, _, _, b, rfl, .ty n, (h1.rp w ok).ty, h2, hq _ _ (.here w (.of (.bl b)) h)⟩⟩
/-- all, any of truth values -/
theorem RpAll.bls {K : Frag} {B : Hp} : ∀ {vs : List V} {bs : List Bool}, RpAll K B vs (bs.map PyData.bool) → vs = bs.map V.bl
  | [], [], _ => rfl
  | _ :: _, [], h => by cases h
  | [], _ :: _, h => by cases h
  | v :: vs, b :: bs, h => by
    cases h with
    | cons h1 h2 => rw [h1.inv_bl, RpAll.bls h2]; rfl
theorem RpAll.intsV {K : Frag} {B : Hp} : ∀ {vs : List V} {bs : List Int}, RpAll K B vs (bs.map PyData.int) → vs = bs.map V.int
  | [], [], _ => rfl
  | _ :: _, [], h => by cases h
  | [], _ :: _, h => by cases h
  | v :: vs, b :: bs, h => by
    cases h with
    | cons h1 h2 => rw [h1.inv_int, RpAll.intsV h2]; rfl
abbrev cAll : CDt := fun rs M R => ∃ (r : SD) (bs : List Bool), rs = [r] ∧ IsD M r (.list (bs.map PyData.bool)) ∧ R (.bl (bs.all fun b => b)) M
theorem cj_all (hc : X.calm = true) : CallJ X (.builtin "all") cAll := ⟨_, cr_all hc, fun B H M rs R vs Q w oa h hq => by
  obtain ⟨r, bs, rfl, h1, h⟩ := h
  obtain ⟨v, rfl, ok⟩ := slots1 oa
  obtain ⟨a, xs, rfl, hs, ra⟩ := h1.items w ok
  rw [ra.bls] at hs
  exact ⟨a, bs, rfl, hs, hq _ _ (.here w (.of (.bl _)) h)⟩⟩
abbrev cAny : CDt := fun rs M R => ∃ (r : SD) (bs : List Bool), rs = [r] ∧ IsD M r (.list (bs.map PyData.bool)) ∧ R (.bl (bs.any fun b => b)) M
theorem cj_any (hc : X.calm = true) : CallJ X (.builtin "any") cAny := ⟨_, cr_any hc, fun B H M rs R vs Q w oa h hq => by
  obtain ⟨r, bs, rfl, h1, h⟩ := h
  obtain ⟨v, rfl, ok⟩ := slots1 oa
  obtain ⟨a, xs, rfl, hs, ra⟩ := h1.items w ok
  rw [ra.bls] at hs
  exact ⟨a, bs, rfl, hs, hq _ _ (.here w (.of (.bl _)) h)⟩⟩
abbrev cSum : CDt := fun rs M R => ∃ (r : SD) (bs : List Int), rs = [r] ∧ IsD M r (.list (bs.map PyData.int)) ∧ R (.int bs.sum) M
theorem cj_sum (hc : X.calm = true) : CallJ X (.builtin "sum") cSum := ⟨_, cr_sum hc, fun B H M rs R vs Q w oa h hq => by
  obtain ⟨r, bs, rfl, h1, h⟩ := h
  obtain ⟨v, rfl, ok⟩ := slots1 oa
  obtain ⟨a, xs, rfl, hs, ra⟩ := h1.items w ok
  rw [ra.intsV] at hs
  exact ⟨a, bs, rfl, hs, hq _ _ (.here w (.of (.int _)) h)⟩⟩
/-- tuple(..), list(..) of a list, a tuple -/
abbrev cTuple : CDt := fun rs M R => ∃ (r : SD) (ds : List PyData), rs = [r] ∧ SeqD M r ds ∧ R (.dat (.tuple ds)) M
theorem cj_tuple : CallJ X (.type "tuple") cTuple := ⟨_, call_tuple_of, fun B H M rs R vs Q w oa h hq => by
  obtain ⟨r, ds, rfl, h1, h⟩ := h
  obtain ⟨v, rfl, ok⟩ := slots1 oa
  cases h1 with
  | lst h1 =>
    obtain ⟨a, xs, rfl, hs, ra⟩ := h1.items w ok
    refine ⟨a, xs, rfl, .inl ⟨hs, fun t ht => ?_⟩⟩
    obtain ⟨w2, st2⟩ := w.new (o := .tup xs) ht
    exact hq _ _ ⟨_, _, M, st2, w2, .of (.tup (SqT.of upd_same) (ra.le st2.bb)), h⟩
  | tup =>
    obtain ⟨a, xs, rfl, hs, ra⟩ := ok.dat.inv_tup
    exact ⟨a, xs, rfl, .inr ⟨sqt_le w.le hs, hq _ _ (.here w (.of (.tup hs ra)) h)⟩⟩⟩
abbrev cList : CDt := fun rs M R => ∃ (r : SD) (ds : List PyData), rs = [r] ∧ SeqD M r ds ∧ R (.dat (.list ds)) M
theorem cj_list : CallJ X (.type "list") cList := ⟨_, call_list_of, fun B H M rs R vs Q w oa h hq => by
  obtain ⟨r, ds, rfl, h1, h⟩ := h
  obtain ⟨v, rfl, ok⟩ := slots1 oa
  obtain ⟨a, xs, rfl, hs, ra⟩ := h1.items w ok
  refine ⟨a, xs, rfl, hs, fun t ht => ?_⟩
  obtain ⟨w2, st2⟩ := w.new (o := .lst xs) ht
  exact hq _ _ ⟨_, _, M, st2, w2, .of (.lst (SqL.of upd_same) (ra.le st2.bb)), h⟩⟩
abbrev cListM : CDt := fun rs M R => ∃ (r : SD) (ds : List PyData), rs = [r] ∧ SeqD M r ds ∧ ∀ p, R (.raw (.ref p)) ((p, .lst ds) :: M)
theorem cj_listM : CallJ X (.type "list") cListM := ⟨_, call_list_of, fun B H M rs R vs Q w oa h hq => by
  obtain ⟨r, ds, rfl, h1, h⟩ := h
  obtain ⟨v, rfl, ok⟩ := slots1 oa
  obtain ⟨a, xs, rfl, hs, ra⟩ := h1.items w ok
  refine ⟨a, xs, rfl, hs, fun t ht => ?_⟩
  obtain ⟨w2, st2⟩ := w.newM (o := .lst xs) (m := .lst ds) ht ⟨_, upd_same, ra⟩
  exact hq _ _ ⟨_, SD.raw (.ref t), _, st2, w2, rfl, h t⟩⟩
/-- abs, min, max, int -/
abbrev cAbs : CDt := fun rs M R => ∃ i : Int, rs = [.int i] ∧ R (.int (if i < 0 then -i else i)) M
theorem cj_abs : CallJ X (.builtin "abs") cAbs := ⟨_, call_abs, fun B H M rs R vs Q w oa h hq => by
  obtain ⟨i, rfl, h⟩ := h
  obtain ⟨v, rfl, ok⟩ := slots1 oa
  obtain rfl := ok.dat.inv_int
  exact ⟨i, rfl, hq _ _ (.here w (.of (.int _)) h)⟩⟩
abbrev cMax2 : CDt := fun rs M R => ∃ i j : Int, rs = [.int i, .int j] ∧ R (.int (if j > i then j else i)) M
theorem cj_max2 (hc : X.calm = true) : CallJ X (.builtin "max") cMax2 := ⟨_, call_max2 hc, fun B H M rs R vs Q w oa h hq => by
  obtain ⟨i, j, rfl, h⟩ := h
  obtain ⟨v, u, rfl, ok, ok2⟩ := slots2 oa
  obtain rfl := ok.dat.inv_int
  obtain rfl := ok2.dat.inv_int
  exact ⟨i, j, rfl, hq _ _ (.here w (.of (.int _)) h)⟩⟩
abbrev cMin2 : CDt := fun rs M R => ∃ i j : Int, rs = [.int i, .int j] ∧ R (.int (if j < i then j else i)) M
theorem cj_min2 (hc : X.calm = true) : CallJ X (.builtin "min") cMin2 := ⟨_, call_min2 hc, fun B H M rs R vs Q w oa h hq => by
  obtain ⟨i, j, rfl, h⟩ := h
  obtain ⟨v, u, rfl, ok, ok2⟩ := slots2 oa
  obtain rfl := ok.dat.inv_int
  obtain rfl := ok2.dat.inv_int
  exact ⟨i, j, rfl, hq _ _ (.here w (.of (.int _)) h)⟩⟩
abbrev cInt : CDt := fun rs M R => match rs with
  | [.dat (.int i)] => R (.int i) M
  | [.dat (.bool b)] => R (.int (if b then 1 else 0)) M
  | _ => False
theorem cj_int : CallJ X (.type "int") (fun rs M R => (∃ i, rs = [.int i] ∧ R (.int i) M) ∨ ∃ b, rs = [.bl b] ∧ R (.int (if b then 1 else 0)) M) := ⟨_, call_int1, fun B H M rs R vs Q w oa h hq => by
  rcases h with ⟨i, rfl, h⟩ | ⟨i, rfl, h⟩
  · obtain ⟨v, rfl, ok⟩ := slots1 oa
    obtain rfl := ok.dat.inv_int
    exact .inl ⟨i, rfl, hq _ _ (.here w (.of (.int _)) h)⟩
  · obtain ⟨v, rfl, ok⟩ := slots1 oa
    obtain rfl := ok.dat.inv_bl
    exact .inr ⟨i, rfl, hq _ _ (.here w (.of (.int _)) h)⟩⟩
end
end DL
set_option Elab.async false
set_option linter.all false
set_option maxRecDepth 100000
set_option maxHeartbeats 4000000
namespace DL
open PySem PySem.Spec PyProof.Rows L2
/-! ### a mutable list becomes still; is changed -/
section
variable {K : Frag} {B H : Hp} {M : MS}
theorem Wd.drop {p : Addr × MO} (w : Wd K B H (p :: M)) : Wd K B H M := ⟨w.le, fun q hq => w.mo q (List.mem_cons_of_mem _ hq), (List.nodup_cons.mp w.nd).2⟩
theorem Wd.sub {M' : MS} (w : Wd K B H M) (s : M'.Sublist M) : Wd K B H M' := ⟨w.le, fun q hq => w.mo q (s.subset hq), w.nd.sublist (s.map _)⟩
theorem nodup_other {M : MS} {i : Nat} {a : Addr} {m : MO} (nd : (dom M).Nodup) (hi : M[i]? = some (a, m)) : a ∉ dom (M.eraseIdx i) := by
  induction M generalizing i with
  | nil => simp at hi
  | cons p M ih =>
    obtain ⟨n1, n2⟩ := List.nodup_cons.mp nd
    cases i with
    | zero =>
      have e : p = (a, m) := by simpa using hi
      subst e
      simpa using n1
    | succ i =>
      have hi' : M[i]? = some (a, m) := by simpa using hi
      rw [List.eraseIdx_cons_succ]
      intro z
      rcases List.mem_cons.mp z with z | z
      · exact n1 (by rw [← z]; exact List.mem_map.mpr ⟨_, List.mem_of_getElem? hi', rfl⟩)
      · exact ih n2 hi' z
/-- the list at a, the i-th mutable object, is still from now on -/
theorem Wd.freeze {i : Nat} {a : Addr} {ds : List PyData} (w : Wd K B H M) (hi : M[i]? = some (a, .lst ds)) : ∃ B', Wd K B' H (M.eraseIdx i) ∧ Stp B H (dom M) B' H (dom (M.eraseIdx i)) ∧ Rp K B' (.ref a) (.list ds) := by
  have hm := List.mem_of_getElem? hi
  obtain ⟨bn, xs, hx, rx⟩ := w.mo _ hm
  have bb : Same B (upd B a (.lst xs)) := fun b u q => by rw [upd_ne (ne_of_none q bn)]; exact q
  have am : a ∈ dom M := List.mem_map.mpr ⟨_, hm, rfl⟩
  have na := nodup_other w.nd hi
  refine ⟨upd B a (.lst xs), ⟨fun b u q => ?_, fun p hp => ?_, w.nd.sublist ((List.eraseIdx_sublist M i).map _)⟩, ⟨bb, fun b q => ?_, fun b q => .inl ?_, fun b u q _ => q⟩, .lst (SqL.of upd_same) (rx.le bb)⟩
  · by_cases e : b = a
    · subst e; rw [upd_same] at q; cases q; exact hx
    · rw [upd_ne e] at q; exact w.le _ _ q
  · obtain ⟨h1, h2⟩ := w.mo p ((List.eraseIdx_sublist M i).subset hp)
    have ne : p.1 ≠ a := fun z => na (by rw [← z]; exact List.mem_map.mpr ⟨p, hp, rfl⟩)
    exact ⟨by rw [upd_ne ne]; exact h1, MoOk.le bb h2⟩
  · by_cases e : b = a
    · subst e; exact .inr (.inr am)
    · rw [upd_ne e] at q; exact .inl q
  · exact ((List.eraseIdx_sublist M i).map _).subset q
theorem dom_set {M : MS} {i : Nat} {a : Addr} {m m' : MO} (hi : M[i]? = some (a, m)) : dom (M.set i (a, m')) = dom M := by
  refine List.ext_getElem? fun j => ?_
  unfold dom
  rw [List.getElem?_map, List.getElem?_map, List.getElem?_set]
  by_cases e : i = j
  · subst e
    rw [hi]
    have hl := (List.getElem?_eq_some_iff.mp hi).1
    simp [hl]
  · simp [e]
theorem mem_set {M : MS} {i : Nat} {a : Addr} {m m' : MO} (nd : (dom M).Nodup) (hi : M[i]? = some (a, m)) {p : Addr × MO} (hp : p ∈ M.set i (a, m')) : p = (a, m') ∨ (p ∈ M ∧ p.1 ≠ a) := by
  obtain ⟨j, hj, e⟩ := List.mem_iff_getElem.mp hp
  rw [List.getElem_set] at e
  by_cases c : i = j
  · rw [if_pos c] at e; exact .inl e.symm
  · rw [if_neg c] at e
    rw [List.length_set] at hj
    refine .inr ⟨e ▸ List.getElem_mem hj, fun z => c ?_⟩
    have h1 : (dom M)[i]? = some a := by unfold dom; rw [List.getElem?_map, hi]; rfl
    have h2 : (dom M)[j]? = some a := by unfold dom; rw [List.getElem?_map, List.getElem?_eq_getElem hj, e, ← z]; rfl
    obtain ⟨g1, e1⟩ := List.getElem?_eq_some_iff.mp h1
    obtain ⟨g2, e2⟩ := List.getElem?_eq_some_iff.mp h2
    exact (List.getElem_inj nd).mp (e1.trans e2.symm)
/-- the i-th mutable object is another from now on -/
theorem Wd.upd {i : Nat} {a : Addr} {m m' : MO} {o : HO} (w : Wd K B H M) (hi : M[i]? = some (a, m)) (hm : MoOk K B (upd H a o) a m') : Wd K B (upd H a o) (M.set i (a, m')) ∧ Stp B H (dom M) B (upd H a o) (dom (M.set i (a, m'))) := by
  have hmem := List.mem_of_getElem? hi
  have bn := (w.mo _ hmem).1
  have am : a ∈ dom M := List.mem_map.mpr ⟨_, hmem, rfl⟩
  refine ⟨⟨fun b u q => ?_, fun p hp => ?_, by rw [dom_set hi]; exact w.nd⟩, ⟨Same.refl _, fun b q => .inl q, fun b q => .inl (by rw [dom_set hi] at q; exact q), fun b u q hb => ?_⟩⟩
  · rw [upd_ne (ne_of_none q bn)]; exact w.le _ _ q
  · rcases mem_set w.nd hi hp with e | ⟨h1, h2⟩
    · subst e; exact ⟨bn, hm⟩
    · obtain ⟨g1, g2⟩ := w.mo p h1
      exact ⟨g1, MoOk.heap g2 fun u q => by rw [upd_ne h2]; exact q⟩
  · rw [upd_ne fun z => hb (by rw [z]; exact am)]; exact q
end
/-- the mutable objects at L stand aside -/
theorem Wd.frame {K : Frag} {B H B' H' : Hp} {L M M' : MS} (w : Wd K B H (L ++ M)) (st : Stp B H (dom M) B' H' (dom M')) (w' : Wd K B' H' M') : Wd K B' H' (L ++ M') ∧ Stp B H (dom (L ++ M)) B' H' (dom (L ++ M')) := by
  have nd : (dom L ++ dom M).Nodup := by have := w.nd; unfold dom at this ⊢; rwa [List.map_append] at this
  obtain ⟨n1, n2, n3⟩ := List.nodup_append.mp nd
  have keepL : ∀ p ∈ L, B' p.1 = none ∧ MoOk K B' H' p.1 p.2 ∧ p.1 ∉ dom M' := fun p hp => by
    obtain ⟨h1, h2⟩ := w.mo p (List.mem_append_left _ hp)
    have pl : p.1 ∈ dom L := List.mem_map.mpr ⟨p, hp, rfl⟩
    have nm : p.1 ∉ dom M := fun z => n3 _ pl _ z rfl
    obtain ⟨u, hu⟩ := MoOk.ex h2
    refine ⟨?_, MoOk.heap (MoOk.le st.bb h2) fun u q => st.fr _ _ q nm, fun z => ?_⟩
    · cases q : B' p.1 with
      | none => rfl
      | some o =>
        rcases st.fb p.1 (by rw [q]; simp) with z | z | z
        · exact absurd h1 z
        · rw [hu] at z; cases z
        · exact absurd z nm
    · rcases st.fm _ z with z | z
      · exact nm z
      · rw [hu] at z; cases z
  refine ⟨⟨w'.le, fun p hp => ?_, ?_⟩, ⟨st.bb, fun a h => ?_, fun a h => ?_, fun a o h hn => st.fr a o h fun z => hn ?_⟩⟩
  · rcases List.mem_append.mp hp with hp | hp
    · exact ⟨(keepL p hp).1, (keepL p hp).2.1⟩
    · exact w'.mo p hp
  · unfold dom
    rw [List.map_append]
    refine List.nodup_append.mpr ⟨n1, w'.nd, fun a ha b hb e => ?_⟩
    obtain ⟨p, hp, rfl⟩ := List.mem_map.mp ha
    exact (keepL p hp).2.2 (by rw [e]; exact hb)
  · rcases st.fb a h with z | z | z
    · exact .inl z
    · exact .inr (.inl z)
    · exact .inr (.inr (by unfold dom; rw [List.map_append]; exact List.mem_append_right _ z))
  · have h' : a ∈ dom L ++ dom M' := by unfold dom at h ⊢; rwa [List.map_append] at h
    rcases List.mem_append.mp h' with z | z
    · exact .inl (by unfold dom; rw [List.map_append]; exact List.mem_append_left _ z)
    · rcases st.fm a z with z | z
      · exact .inl (by unfold dom; rw [List.map_append]; exact List.mem_append_right _ z)
      · exact .inr z
  · unfold dom
    rw [List.map_append]
    exact List.mem_append_right _ z
/-! ### what is walked -/
def TIW (X : Cx) (tg iter : Expr) : TI := fun σ H R => ∀ pins s, Inv X pins σ H s → wpAny (model X.prog X.w) X.A (eval iter X.env) (fun v s1 => wpAny (model X.prog X.w) X.A (pyIter v) (PIE X pins σ tg R) X.xe s1) X.xe s
structure JWk (K : Frag) (J : It) (ds : List PyData) (G : MS → Prop) (B1 : Hp) : Prop where
  goes : ∀ (i : Nat) (B H : Hp) (M : MS), i < ds.length → Same B1 B → Wd K B H M → G M → J.go i H
  stops : ∀ (B H : Hp) (M : MS), Same B1 B → Wd K B H M → G M → J.stop ds.length H
  yields : ∀ (i : Nat) (B H : Hp) (M : MS) (x : V) (H' : Hp), i < ds.length → Same B1 B → Wd K B H M → G M → J.yld i H x H' → ∃ d B', ds[i]? = some d ∧ Stp B H (dom M) B' H' (dom M) ∧ Wd K B' H' M ∧ Rp K B' x d
abbrev IK := List PyData → (MS → Prop) → MS → Prop
structure JI (X : Cx) (tg iter : Expr) (S : List SD) (M : MS) (k : IK) : Prop where
  run : ∀ (σ : St) (H B : Hp), Wd X.K B H M → Slots X.K B S σ → ∀ R : It → Hp → Prop, (∀ (J : It) (H1 B1 : Hp) (M1 : MS) (ds : List PyData) (G : MS → Prop), Stp B H (dom M) B1 H1 (dom M1) → Wd X.K B1 H1 M1 → JWk X.K J ds G B1 → k ds G M1 → R J H1) → TIW X tg iter σ H R
section
variable {X : Cx} {tg iter e : Expr} {S : List SD} {M : MS} {k : IK} {pos p : Pos} {x : Str}
theorem pi_w : PI X tg iter (TIW X tg iter) := ⟨fun pins s _ _ _ I h => h pins s I⟩
theorem of_pi {wi : TI} (h : PI X tg iter wi) {σ : St} {H : Hp} {R : It → Hp → Prop} (q : wi σ H R) : TIW X tg iter σ H R := fun pins s I => h.run pins s σ H R I q
theorem ji_list (h : JE X iter S M fun r M1 => ∃ ds, IsD M1 r (.list ds) ∧ k ds (fun M' => IsD M' r (.list ds)) M1) : JI X tg iter S M k := ⟨fun σ H B w s R hR => by
  refine of_pi (pi_list pe_w) ((h.run σ H B w s).mono fun v H1 ⟨B1, r, M1, st1, w1, ok1, ds, hd, h1⟩ => ?_)
  obtain ⟨a, xs, rfl, hs, ra⟩ := hd.items w1 ok1
  have at_ : ∀ B' H' M', Same B1 B' → Wd X.K B' H' M' → IsD M' r (.list ds) → ∃ xs, SqL X.K H' a xs ∧ RpAll X.K B' xs ds := fun B' H' M' bb w' g => by
    obtain ⟨a', xs', e, h1, h2⟩ := g.items w' (ok1.le bb)
    cases e
    exact ⟨xs', h1, h2⟩
  refine ⟨a, rfl, ⟨xs, hs⟩, hR (Itl X.K a) H1 B1 M1 ds _ st1 w1 ⟨fun i B' H' M' hi bb w' g => ?_, fun B' H' M' bb w' g => ?_, fun i B' H' M' x H'' hi bb w' g y => ?_⟩ h1⟩
  · obtain ⟨xs', q1, q2⟩ := at_ B' H' M' bb w' g
    have hl := q2.length
    exact ⟨xs', xs'[i]'(by omega), q1, by simp⟩
  · obtain ⟨xs', q1, q2⟩ := at_ B' H' M' bb w' g
    exact ⟨xs', q1, Nat.le_of_eq q2.length⟩
  · obtain ⟨xs', q1, q2⟩ := at_ B' H' M' bb w' g
    obtain ⟨e, y⟩ := y
    subst e
    obtain ⟨d, hd, rd⟩ := q2.get (y xs' q1)
    exact ⟨d, B', hd, .refl, w', rd⟩⟩
theorem ji_tup (h : JE X iter S M fun r M1 => ∃ ds, r = .dat (.tuple ds) ∧ k ds (fun _ => True) M1) : JI X tg iter S M k := ⟨fun σ H B w s R hR => by
  refine of_pi (pi_tup pe_w) ((h.run σ H B w s).mono fun v H1 ⟨B1, r, M1, st1, w1, ok1, ds, hd, h1⟩ => ?_)
  subst hd
  obtain ⟨a, xs, rfl, hs, ra⟩ := ok1.dat.inv_tup
  refine ⟨a, rfl, ⟨xs, sqt_le w1.le hs⟩, hR (Itt X.K a) H1 B1 M1 ds _ st1 w1 ⟨fun i B' H' M' hi bb w' g => ?_, fun B' H' M' bb w' g => ?_, fun i B' H' M' x H'' hi bb w' g y => ?_⟩ h1⟩
  · have hl := ra.length
    exact ⟨xs, xs[i]'(by omega), sqt_le w'.le (sqt_le bb hs), by simp⟩
  · exact ⟨xs, sqt_le w'.le (sqt_le bb hs), Nat.le_of_eq ra.length⟩
  · obtain ⟨e, y⟩ := y
    subst e
    obtain ⟨d, hd, rd⟩ := (ra.le bb).get (y xs (sqt_le w'.le (sqt_le bb hs)))
    exact ⟨d, B', hd, .refl, w', rd⟩⟩
/-- a range -/
def rangeD (lo : Int) (n : Nat) : List PyData := (List.range n).map fun (i : Nat) => .int (lo + (i : Int))
theorem wk_range {K : Frag} {lo : Int} {n : Nat} {B1 : Hp} : JWk K (Itr lo n) (rangeD lo n) (fun _ => True) B1 := by
  have hl : (rangeD lo n).length = n := by simp [rangeD]
  refine ⟨fun i B H M hi _ _ _ => by rw [hl] at hi; exact hi, fun B H M _ _ _ => by rw [hl]; exact Nat.le_refl _, fun i B H M x H' hi _ w _ y => ?_⟩
  rw [hl] at hi
  obtain ⟨e1, e2⟩ := y
  subst e1 e2
  exact ⟨.int (lo + (i : Int)), B, by simp [rangeD, List.getElem?_map, List.getElem?_range hi], .refl, w, .int _⟩
variable {a b : Expr}
theorem ji_range1 (hm : X.mg "range" = none) (h : JA X [a] S M fun rs M1 => ∃ j : Int, rs = [.int j] ∧ -(2 ^ 62) ≤ j ∧ j < 2 ^ 62 ∧ k (rangeD 0 j.toNat) (fun _ => True) M1) (hg : Gl X "range" := by rfl) (hs : starEach [a] X.env = [(false, eval a X.env)] := by rfl) : JI X tg (.Call (.Name "range" p) [a] [] pos) S M k := ⟨fun σ H B w s R hR => by
  refine of_pi (pi_range1 hg hm pa_w hs) ((h.run σ H B w s).mono fun vs H1 ⟨B1, rs, M1, st1, w1, ok1, j, e, b1, b2, h1⟩ => ?_)
  subst e
  obtain ⟨v, rfl, ok⟩ := slots1 ok1
  obtain rfl := ok.dat.inv_int
  exact ⟨j, rfl, b1, b2, hR _ H1 B1 M1 _ _ st1 w1 wk_range h1⟩⟩
theorem ji_range2 (hm : X.mg "range" = none) (h : JA X [a, b] S M fun rs M1 => ∃ i j : Int, rs = [.int i, .int j] ∧ (-(2 ^ 62) ≤ i ∧ i < 2 ^ 62 ∧ -(2 ^ 62) ≤ j ∧ j < 2 ^ 62) ∧ k (rangeD i (j - i).toNat) (fun _ => True) M1) (hg : Gl X "range" := by rfl)
    (hs : starEach [a, b] X.env = [(false, eval a X.env), (false, eval b X.env)] := by rfl) (hs2 : starEach [b] X.env = [(false, eval b X.env)] := by rfl) : JI X tg (.Call (.Name "range" p) [a, b] [] pos) S M k := ⟨fun σ H B w s R hR => by
  refine of_pi (pi_range2 hg hm pa_w hs hs2) ((h.run σ H B w s).mono fun vs H1 ⟨B1, rs, M1, st1, w1, ok1, i, j, e, bd, h1⟩ => ?_)
  subst e
  obtain ⟨v, u, rfl, ok, ok2⟩ := slots2 ok1
  obtain rfl := ok.dat.inv_int
  obtain rfl := ok2.dat.inv_int
  exact ⟨i, j, rfl, bd, hR _ H1 B1 M1 _ _ st1 w1 wk_range h1⟩⟩
/-- a text, sign by sign -/
def signsD (z : Str) : List PyData := z.cps.toList.map fun c => .str ⟨#[c]⟩
theorem ji_str (h : JE X iter S M fun r M1 => ∃ z, r = .str z ∧ k (signsD z) (fun _ => True) M1) : JI X tg iter S M k := ⟨fun σ H B w s R hR => by
  refine of_pi (pi_str pe_w) ((h.run σ H B w s).mono fun v H1 ⟨B1, r, M1, st1, w1, ok1, z, hd, h1⟩ => ?_)
  subst hd
  have e := ok1.dat.inv_str
  subst e
  have hl : (signsD z).length = z.cps.size := by simp [signsD]
  refine ⟨z, rfl, hR (Its z) H1 B1 M1 _ _ st1 w1 ⟨fun i B' H' M' hi bb w' g => by rw [hl] at hi; exact hi, fun B' H' M' bb w' g => by rw [hl]; exact Nat.le_refl _, fun i B' H' M' x H'' hi bb w' g y => ?_⟩ h1⟩
  obtain ⟨e, c, hc, rfl⟩ := y
  subst e
  refine ⟨.str ⟨#[c]⟩, B', ?_, .refl, w', .str _⟩
  have hc' : z.cps.toList[i]? = some c := by simpa using hc
  simp [signsD, hc']⟩
/-! ### for -/
variable {P : DEnds} {body : List Stmt}
theorem js_for (hp : PassesOwn (model X.prog X.w) X.A X.env X.xe) (hc : X.calm = true)
    (h : JI X tg iter S M fun ds G M1 => ∃ W : Nat → List SD → MS → Prop, W 0 S M1 ∧ (∀ i S' M', i ≤ ds.length → W i S' M' → G M') ∧
      (∀ i d S' M', ds[i]? = some d → W i S' M' → JG X tg (List.range 64) (.dat d) S' M' fun S2 M2 => JB X body S2 M2 { P with nx := W (i + 1), ct := W (i + 1), bk := P.nx }) ∧ ∀ S' M', W ds.length S' M' → P.nx S' M')
    (hs : ∀ x, foldedSetIterable iter X.env x = pure x := by intro _; rfl) : JS X (.For tg iter body [] pos) S M P := ⟨fun σ H B w s => by
  refine of_ps (ps_for hp hc pi_w pg_w pss_w hs) (h.run σ H B w s _ fun J H1 B1 M1 ds G st1 w1 wk ⟨W, h0, hG, hst, hdn⟩ => ?_)
  have wlk : Walk J ds.length (fun H' => ∃ B' M', Same B1 B' ∧ Wd X.K B' H' M' ∧ G M') (fun i H' x H'' => ∀ B' M', Same B1 B' → Wd X.K B' H' M' → G M' → ∃ d B2, ds[i]? = some d ∧ Stp B' H' (dom M') B2 H'' (dom M') ∧ Wd X.K B2 H'' M' ∧ Rp X.K B2 x d) :=
    ⟨fun i H' hi ⟨B', M', a, b, c⟩ => wk.goes i B' H' M' hi a b c, fun H' ⟨B', M', a, b, c⟩ => wk.stops B' H' M' a b c, fun i H' x H'' hi _ y B' M' a b c => wk.yields i B' H' M' x H'' hi a b c y⟩
  refine for_it wlk (fun i σ' H' => ∃ B' S' M', Stp B H (dom M) B' H' (dom M') ∧ Same B1 B' ∧ Wd X.K B' H' M' ∧ Slots X.K B' S' σ' ∧ W i S' M') ⟨B1, S, M1, st1, Same.refl _, w1, s.le st1.bb, h0⟩ (fun i σ' H' hi ⟨B', S', M', a, b, c, d, e⟩ => ⟨B', M', b, c, hG i S' M' hi e⟩) ?_ ?_
  · rintro i x σ' H' H'' hi ⟨B', S', M', a, b, c, d, e⟩ y
    obtain ⟨dd, B2, hd, st2, w2, rd⟩ := y B' M' b c (hG i S' M' (Nat.le_of_lt hi) e)
    have st : Stp B H (dom M) B2 H'' (dom M') := a.trans st2
    refine ((hst i dd S' M' hd e).run σ' H'' B2 x w2 (d.le st2.bb) (.of rd)).mono fun σ3 H3 ⟨_, B3, S3, M3, st3, w3, s3, h3⟩ => ?_
    have b3 : Same B1 B3 := (b.trans st2.bb).trans st3.bb
    refine TBW.mono (h3.run σ3 H3 B3 w3 s3) ?_ ?_ ?_ ?_
    · rintro σ4 H4 ⟨B4, S4, M4, st4, w4, s4, h4⟩
      exact ⟨B4, S4, M4, st.trans (st3.trans st4), b3.trans st4.bb, w4, s4, h4⟩
    · exact fun _ _ q => q.back (st.trans st3) fun _ _ z => z
    · exact fun _ _ q => q.back (st.trans st3) fun _ _ z => z
    · rintro σ4 H4 ⟨B4, S4, M4, st4, w4, s4, h4⟩
      exact ⟨B4, S4, M4, st.trans (st3.trans st4), b3.trans st4.bb, w4, s4, h4⟩
  · rintro σ' H' ⟨B', S', M', a, b, c, d, e⟩
    exact ⟨B', S', M', a, c, d, hdn S' M' e⟩⟩
/-! ### while -/
theorem js_while {c : Expr} (hp : PassesOwn (model X.prog X.w) X.A X.env X.xe) (W : Nat → List SD → MS → Prop) (m0 : Nat) (h0 : W m0 S M)
    (h : ∀ m S' M', W m S' M' → JT X c S' M' fun k M2 => if k = true then JB X body S' M2 { P with nx := fun S3 M3 => ∃ m', m' < m ∧ W m' S3 M3, ct := fun S3 M3 => ∃ m', m' < m ∧ W m' S3 M3, bk := P.nx } else P.nx S' M2) : JS X (.While c body [] pos) S M P := ⟨fun σ H B w s => by
  refine of_ps (ps_while hp pt_w pss_w) ⟨fun m σ' H' => ∃ B' S' M', Stp B H (dom M) B' H' (dom M') ∧ Wd X.K B' H' M' ∧ Slots X.K B' S' σ' ∧ W m S' M', ⟨m0, B, S, M, .refl, w, s, h0⟩, ?_⟩
  rintro m σ' H' ⟨B', S', M', a, b, d, e⟩
  refine ((h m S' M' e).run σ' H' B' b d).mono fun k H1 ⟨B1, M1, st1, w1, h1⟩ => ?_
  cases k with
  | false =>
    rw [if_neg Bool.false_ne_true] at h1 ⊢
    exact ⟨B1, S', M1, a.trans st1, w1, d.le st1.bb, h1⟩
  | true =>
    rw [if_pos rfl] at h1 ⊢
    refine ⟨fun σ3 H3 => ∃ m', m' < m ∧ ∃ B' S' M', Stp B H (dom M) B' H3 (dom M') ∧ Wd X.K B' H3 M' ∧ Slots X.K B' S' σ3 ∧ W m' S' M', fun _ _ q => q, ?_⟩
    have st := a.trans st1
    refine TBW.mono (h1.run σ' H1 B1 w1 (d.le st1.bb)) ?_ ?_ ?_ ?_
    · rintro σ4 H4 ⟨B4, S4, M4, st4, w4, s4, m', hm, h4⟩
      exact ⟨m', hm, B4, S4, M4, st.trans st4, w4, s4, h4⟩
    · exact fun _ _ q => q.back st fun _ _ z => z
    · exact fun _ _ q => q.back st fun _ _ z => z
    · rintro σ4 H4 ⟨B4, S4, M4, st4, w4, s4, m', hm, h4⟩
      exact ⟨m', hm, B4, S4, M4, st.trans st4, w4, s4, h4⟩⟩
/-! ### list comprehensions -/
def wipeS (S : List SD) : List Nat → List SD
  | [] => S
  | v :: vs => (wipeS S vs).set v .un
theorem Slots.wipe {K : Frag} {B : Hp} {S : List SD} {σ : St} (s : Slots K B S σ) : ∀ ws : List Nat, Slots K B (wipeS S ws) (L2.wipe σ ws)
  | [] => s
  | v :: ws => Slots.setN (Slots.wipe s ws)
structure JTs (X : Cx) (ifs : List Expr) (S : List SD) (M : MS) (R : Bool → MS → Prop) : Prop where
  run : ∀ (σ : St) (H B : Hp), Wd X.K B H M → Slots X.K B S σ → ∀ pins s, Inv X pins σ H s → wpAny (model X.prog X.w) X.A (forIn ifs true fun c r => if r = true then do let ok ← isTrue c X.env (eval c X.env); pure (ForInStep.yield ok) else pure (ForInStep.yield r)) (TP X pins σ (QT X.K B H M R)) X.xe s
theorem jts_nil {RT : Bool → MS → Prop} (q : RT true M) : JTs X [] S M RT := ⟨fun σ H B w s pins st I => pts_nil.run pins st σ H _ I ⟨B, M, .refl, w, q⟩⟩
theorem jts_one {c : Expr} {RT : Bool → MS → Prop} (h : JT X c S M RT) : JTs X [c] S M RT := ⟨fun σ H B w s pins st I => (pts_one pt_w).run pins st σ H _ I (h.run σ H B w s)⟩
abbrev blkX (X : Cx) (s : Shared) (H : Hp) (scope : Scope) (C : Addr) (cl : List (Str × Addr)) (fp : List Addr) : Cx := X.blk s H scope (compEnvC scope cl C X.env) fp
/-- in every block -/
abbrev AllB (X : Cx) (scope : Scope) (p : Cx → Prop) : Prop := ∀ (s0 : Shared) (H0 : Hp) (C : Addr) (cl : List (Str × Addr)) (fp : List Addr), p (blkX X s0 H0 scope C cl fp)
/-- one turn of a comprehension over the item d, within its block -/
abbrev LcTurn (X : Cx) (scope : Scope) (own : List (Str × Nat)) (tg elt : Expr) (ifs : List Expr) (S : List SD) (M : MS) (d : PyData) (yes : PyData → MS → Prop) (no : MS → Prop) : Prop :=
  AllB X scope fun Y => JG Y tg (own.map (·.2)) (.dat d) (wipeS S (own.map (·.2))) M fun S2 M2 =>
    AllB X scope fun Y => JTs Y ifs S2 M2 fun b M3 => if b = true then AllB X scope fun Y => JE Y elt S2 M3 fun r M4 => ∃ e, r = .dat e ∧ yes e M4 else no M3
/-- a walk of a comprehension: W tells of the turn, the list so far, the mutable objects -/
abbrev LcK (X : Cx) (scope : Scope) (own : List (Str × Nat)) (tg elt : Expr) (ifs : List Expr) (S : List SD) (R : List PyData → MS → Prop) : IK := fun ds G M1 =>
  ds.length ≤ 1000000 ∧ ∃ W : Nat → List PyData → MS → Prop, W 0 [] M1 ∧ (∀ i acc M', i ≤ ds.length → W i acc M' → G M') ∧
    (∀ i d acc M', ds[i]? = some d → W i acc M' → LcTurn X scope own tg elt ifs S M' d (fun e M4 => W (i + 1) (acc ++ [e]) M4) (fun M4 => W (i + 1) acc M4)) ∧ ∀ acc M', W ds.length acc M' → R acc M'
variable {elt : Expr} {ifs : List Expr} {scope : Scope} {own : List (Str × Nat)}
def TGB (X : Cx) (scope : Scope) (tg : Expr) : TG := fun v σ H Q => ∀ s0 H0 C cl fp, TGW (blkX X s0 H0 scope C cl fp) tg v σ H Q
def TTB (X : Cx) (scope : Scope) (ifs : List Expr) : TT := fun σ H Q => ∀ s0 H0 C cl fp pins s, Inv (blkX X s0 H0 scope C cl fp) pins σ H s → wpAny (model X.prog X.w) X.A (forIn ifs true fun c r => if r = true then do let ok ← isTrue c (blkX X s0 H0 scope C cl fp).env (eval c (blkX X s0 H0 scope C cl fp).env); pure (ForInStep.yield ok) else pure (ForInStep.yield r)) (TP (blkX X s0 H0 scope C cl fp) pins σ Q) (blkX X s0 H0 scope C cl fp).xe s
def TEB (X : Cx) (scope : Scope) (elt : Expr) : TE := fun σ H Q => ∀ s0 H0 C cl fp, TW (blkX X s0 H0 scope C cl fp) elt σ H Q
theorem pg_b (s0 : Shared) (H0 : Hp) (C : Addr) (cl : List (Str × Addr)) (fp : List Addr) : PG (X.blk s0 H0 scope (compEnvC scope cl C X.env) fp) tg (TGB X scope tg) := ⟨fun pins s σ H v u Q I r h => h s0 H0 C cl fp pins s u I r⟩
theorem pts_b (s0 : Shared) (H0 : Hp) (C : Addr) (cl : List (Str × Addr)) (fp : List Addr) : PTs (X.blk s0 H0 scope (compEnvC scope cl C X.env) fp) ifs (TTB X scope ifs) := ⟨fun pins s σ H Q I h => h s0 H0 C cl fp pins s I⟩
theorem pe_b (s0 : Shared) (H0 : Hp) (C : Addr) (cl : List (Str × Addr)) (fp : List Addr) : PE (X.blk s0 H0 scope (compEnvC scope cl C X.env) fp) elt (TEB X scope elt) := ⟨fun pins s σ H Q I h => h s0 H0 C cl fp pins s I⟩
theorem wipe_wipe (σ : St) (ws : List Nat) : L2.wipe (L2.wipe σ ws) ws = L2.wipe σ ws := by
  refine List.ext_getElem? fun i => ?_
  rw [wipe_get, wipe_get, wipe_length]
  split <;> rfl
theorem tlc_of {σ : St} {H B : Hp} {R : List PyData → MS → Prop} {Q : VK} (w : Wd X.K B H M) (s : Slots X.K B S σ) (h : JI X tg iter S M (LcK X scope own tg elt ifs S R))
    (hQ : ∀ (D : Addr) (H' B' : Hp) (M' : MS) (acc : List PyData), Stp B H (dom M) B' H' (dom ((D, MO.lst acc) :: M')) → Wd X.K B' H' ((D, .lst acc) :: M') → R acc M' → Q (.ref D) H') :
    tLc (TIW X tg iter) (TGB X scope tg) (TTB X scope ifs) (TEB X scope elt) (own.map (·.2)) σ H Q := by
  refine h.run σ H B w s _ fun J H1 B1 M1 ds G st1 w1 wk ⟨hz, W, h0, hG, hst, hdn⟩ D hD => ?_
  have wlk : Walk J ds.length (fun H' => ∃ B' M', Same B1 B' ∧ Wd X.K B' H' M' ∧ G M') (fun i H' x H'' => ∀ B' M', Same B1 B' → Wd X.K B' H' M' → G M' → ∃ d B2, ds[i]? = some d ∧ Stp B' H' (dom M') B2 H'' (dom M') ∧ Wd X.K B2 H'' M' ∧ Rp X.K B2 x d) :=
    ⟨fun i H' hi ⟨B', M', a, b, c⟩ => wk.goes i B' H' M' hi a b c, fun H' ⟨B', M', a, b, c⟩ => wk.stops B' H' M' a b c, fun i H' x H'' hi _ y B' M' a b c => wk.yields i B' H' M' x H'' hi a b c y⟩
  obtain ⟨w2, st2⟩ := w1.newM (o := .lst []) (m := .lst []) hD ⟨[], upd_same, .nil⟩
  refine lc_it (g := TGB X scope tg) (tt := TTB X scope ifs) (te := TEB X scope elt) (vs := own.map (·.2)) (σ := σ) (Qd := fun H => Q (.ref D) H) wlk (fun i H' => ∃ B' M' acc, Stp B H (dom M) B' H' (dom ((D, MO.lst acc) :: M')) ∧ Same B1 B' ∧ Wd X.K B' H' ((D, .lst acc) :: M') ∧ acc.length ≤ i ∧ W i acc M') ⟨B1, M1, [], st1.trans st2, Same.refl _, w2, Nat.le_refl _, h0⟩ (fun i H' hi ⟨B', M', acc, a, b, c, l, e⟩ => ⟨B', M', b, c.drop, hG i acc M' hi e⟩) ?_ ?_
  · rintro i x H' H'' hi ⟨B', M', acc, a, b, c, l, e⟩ y
    obtain ⟨dd, B2, hd, stA, wA, rd⟩ := y B' M' b c.drop (hG i acc M' (Nat.le_of_lt hi) e)
    obtain ⟨wA', stA'⟩ := Wd.frame (L := [(D, .lst acc)]) c stA wA
    have sl : Slots X.K B2 (wipeS S (own.map (·.2))) (L2.wipe σ (own.map (·.2))) := ((s.le a.bb).le stA.bb).wipe _
    intro s0 H0 C cl fp
    refine (((hst i dd acc M' hd e) s0 H0 C cl fp).run _ H'' B2 x wA sl (.of rd)).mono fun σ3 H3 ⟨wp, B3, S3, M3, st3, w3, s3, h3⟩ => ?_
    rw [wipe_wipe] at wp
    have stC := stA.trans st3
    refine ⟨wp, fun s0' H0' C' cl' fp' pins st I => thn (((h3 s0' H0' C' cl' fp').run σ3 H3 B3 w3 s3) pins st I) fun bb s' ⟨H4, I4, B4, M4, st4, w4, h4⟩ => ⟨H4, I4, ?_⟩⟩
    have stD := stC.trans st4
    have base : Same B1 B4 := b.trans stD.bb
    cases bb with
    | false =>
      rw [if_neg Bool.false_ne_true] at h4
      obtain ⟨w5, st5⟩ := Wd.frame (L := [(D, .lst acc)]) c stD w4
      show ∃ B' M' acc, _
      exact ⟨B4, M4, acc, a.trans st5, base, w5, Nat.le_succ_of_le l, h4⟩
    | true =>
      rw [if_pos rfl] at h4
      show TEB X scope elt σ3 H4 _
      intro s0 H0 C cl fp
      refine ((h4 s0 H0 C cl fp).run σ3 H4 B4 w4 (s3.le st4.bb)).mono fun y H5 ⟨B5, r, M5, st5, w5, ok5, ee, er, h5⟩ => ?_
      subst er
      obtain ⟨w6, st6⟩ := Wd.frame (L := [(D, .lst acc)]) c (stD.trans st5) w5
      obtain ⟨_, xs, hx, rx⟩ := w6.mo (D, .lst acc) (by simp)
      have hl := rx.length
      refine ⟨xs, hx, by rw [sizeLine_eq]; omega, ?_⟩
      obtain ⟨w7, st7⟩ := w6.upd (i := 0) (a := D) (m := .lst acc) (m' := .lst (acc ++ [ee])) (o := .lst (xs ++ [y])) rfl ⟨_, upd_same, rx.append (.one ok5.dat)⟩
      exact ⟨B5, M5, acc ++ [ee], (a.trans st6).trans st7, base.trans st5.bb, w7, by rw [List.length_append]; exact Nat.succ_le_succ l, h5⟩
  · rintro H' ⟨B', M', acc, a, b, c, l, e⟩
    exact hQ D H' B' M' acc a c (hdn acc M' e)
variable {R : SD → MS → Prop}
theorem je_lc (own : List (Str × Nat)) (hc : X.calm = true) (hN : X.N.Nodup) (ok : blkC X.N X.env.scope scope own = true) (h : JI X tg iter S M (LcK X scope own tg elt ifs S fun acc M' => R (.dat (.list acc)) M')) (hs : ∀ x, foldedSetIterable iter X.env x = pure x := by intro _; rfl) :
    JE X (.ListComp elt [⟨tg, iter, ifs, 0⟩] scope pos) S M R := ⟨fun σ H B w s => by
  refine of_pe (pe_lc hc hN pi_w (blkOk_by ok) pg_b pts_b pe_b hs) (tlc_of w s h fun D H' B' M' acc st w' r => ?_)
  obtain ⟨B2, w2, st2, rp⟩ := w'.freeze (i := 0) rfl
  exact ⟨B2, _, _, st.trans st2, w2, .of rp, r⟩⟩
/-- its list will be changed -/
theorem je_lcM (own : List (Str × Nat)) (hc : X.calm = true) (hN : X.N.Nodup) (ok : blkC X.N X.env.scope scope own = true) (h : JI X tg iter S M (LcK X scope own tg elt ifs S fun acc M' => ∀ D, R (.raw (.ref D)) ((D, .lst acc) :: M'))) (hs : ∀ x, foldedSetIterable iter X.env x = pure x := by intro _; rfl) :
    JE X (.ListComp elt [⟨tg, iter, ifs, 0⟩] scope pos) S M R := ⟨fun σ H B w s => by
  refine of_pe (pe_lc hc hN pi_w (blkOk_by ok) pg_b pts_b pe_b hs) (tlc_of w s h fun D H' B' M' acc st w' r => ?_)
  exact ⟨B', .raw (.ref D), _, st, w', rfl, r D⟩⟩
/-- y = [..], y a plain local -/
theorem js_setLc {i : Nat} {y : Str} {py spos : Pos} (own : List (Str × Nat)) (hc : X.calm = true) (hN : X.N.Nodup) (ok : blkC X.N X.env.scope scope own = true)
    (h : JI X tg iter S M (LcK X scope own tg elt ifs S fun acc M' => P.nx (S.set i (.dat (.list acc))) M')) (hsw : swapsWith (.ListComp elt [⟨tg, iter, ifs, 0⟩] scope pos) (some (.Name y py)) spos.line X.env = pure true := by exact sw_true rfl rfl rfl (by decide +kernel))
    (hy : X.N[i]? = some y := by rfl) (hyl : X.env.scope.names.lookup y = some .local := by rfl) (hs : ∀ x, foldedSetIterable iter X.env x = pure x := by intro _; rfl) : JS X (.Assign [.Name y py] (.ListComp elt [⟨tg, iter, ifs, 0⟩] scope pos) spos) S M P := ⟨fun σ H B w s => by
  refine of_ps (ps_setLc hc hN hy hyl hsw pi_w (blkOk_by ok) pg_b pts_b pe_b hs) (tlc_of (Q := fun x H1 => gName i x σ H1 (DE X.K B H M P).nx) w s h fun D H' B' M' acc st w' r => ?_)
  obtain ⟨B2, w2, st2, rp⟩ := w'.freeze (i := 0) rfl
  exact ⟨B2, _, _, st.trans st2, w2, ((s.le st.bb).le st2.bb).set (.of rp), r⟩⟩
theorem js_setLcM {i : Nat} {y : Str} {py spos : Pos} (own : List (Str × Nat)) (hc : X.calm = true) (hN : X.N.Nodup) (ok : blkC X.N X.env.scope scope own = true)
    (h : JI X tg iter S M (LcK X scope own tg elt ifs S fun acc M' => ∀ D, P.nx (S.set i (.raw (.ref D))) ((D, .lst acc) :: M'))) (hsw : swapsWith (.ListComp elt [⟨tg, iter, ifs, 0⟩] scope pos) (some (.Name y py)) spos.line X.env = pure true := by exact sw_true rfl rfl rfl (by decide +kernel))
    (hy : X.N[i]? = some y := by rfl) (hyl : X.env.scope.names.lookup y = some .local := by rfl) (hs : ∀ x, foldedSetIterable iter X.env x = pure x := by intro _; rfl) : JS X (.Assign [.Name y py] (.ListComp elt [⟨tg, iter, ifs, 0⟩] scope pos) spos) S M P := ⟨fun σ H B w s => by
  refine of_ps (ps_setLc hc hN hy hyl hsw pi_w (blkOk_by ok) pg_b pts_b pe_b hs) (tlc_of (Q := fun x H1 => gName i x σ H1 (DE X.K B H M P).nx) w s h fun D H' B' M' acc st w' r => ?_)
  exact ⟨B', _, _, st, w', (s.le st.bb).set (s := .raw (.ref D)) rfl, r D⟩⟩
/-! ### methods of lists -/
abbrev MD := SD → List SD → MS → (SD → MS → Prop) → Prop
structure MetJ (X : Cx) (id : String) (md : MD) : Prop where
  ex : ∃ r, MtR X id r ∧ ∀ (B H : Hp) (M : MS) (ro : SD) (rs : List SD) (R : SD → MS → Prop) (x : V) (vs : List V) (Q : VK), Wd X.K B H M → SlotOk X.K B ro (some x) → SlotsA X.K B rs vs → md ro rs M R → (∀ v H', QD X.K B H M R v H' → Q v H') → r x vs H Q
variable {o a : Expr} {es : List Expr} {name : Str} {apos cpos : Pos} {id : String} {md : MD}
/-- o.m(e, ..), o a list -/
theorem je_bmL (pa : PlainAttrs "list") (slot : Slot "list" name id) (hty : typeOf (.builtin id) = pure (.type "method_descriptor")) (m : MetJ X id md) (h : JE X o S M fun ro M1 => ∃ ds, IsD M1 ro (.list ds) ∧ JA X (a :: es) S M1 fun rs M2 => md ro rs M2 R)
    (hbase : attributeBase o name X.env (eval o X.env) = eval o X.env := by rfl)
    (hfew : ((backTo cpos (starEach (a :: es) X.env)).all (fun x => !x.1) && (backToKw cpos (keywordEach [] X.env)).all (fun x => x.1.isSome)
      && decide ((a :: es).length + ([] : List Keyword).length + (if ([] : List Keyword).isEmpty then 0 else 1) < 30)) = true := by rfl)
    (hline : (apos.endLine == cpos.line) = true := by rfl) (hs : starEach (a :: es) X.env = (false, eval a X.env) :: starEach es X.env := by rfl) (hplain : (backTo cpos (starEach es X.env)).any (·.1) = false := by rfl) :
    JE X (.Call (.Attribute o name apos) (a :: es) [] cpos) S M R := ⟨fun σ H B w s => by
  obtain ⟨r, hm, hr⟩ := m.ex
  refine of_pe (pe_bm pa slot hty hm pe_w pa_w hbase hfew hline hs hplain) ((h.run σ H B w s).mono fun v H1 ⟨B1, ro, M1, st1, w1, ok1, ds, hd, h1⟩ => ?_)
  obtain ⟨l, xs, rfl, hl, ra⟩ := hd.items w1 ok1
  refine ⟨.inl ⟨rfl, _, hl⟩, (h1.run σ H1 B1 w1 (s.le st1.bb)).mono fun vs H2 ⟨B2, rs, M2, st2, w2, ok2, h2⟩ => ?_⟩
  exact hr _ _ _ _ _ _ _ _ _ w2 (ok1.le st2.bb) ok2 h2 fun _ _ q => q.back (st1.trans st2) fun _ _ z => z⟩
theorem je_bmL0 (pa : PlainAttrs "list") (slot : Slot "list" name id) (hty : typeOf (.builtin id) = pure (.type "method_descriptor")) (m : MetJ X id md) (h : JE X o S M fun ro M1 => (∃ ds, IsD M1 ro (.list ds)) ∧ md ro [] M1 R)
    (hbase : attributeBase o name X.env (eval o X.env) = eval o X.env := by rfl) (hline : (apos.endLine == cpos.line) = true := by rfl) : JE X (.Call (.Attribute o name apos) [] [] cpos) S M R := ⟨fun σ H B w s => by
  obtain ⟨r, hm, hr⟩ := m.ex
  refine of_pe (pe_bm0 pa slot hty hm pe_w hbase hline) ((h.run σ H B w s).mono fun v H1 ⟨B1, ro, M1, st1, w1, ok1, ⟨ds, hd⟩, h1⟩ => ?_)
  obtain ⟨l, xs, rfl, hl, ra⟩ := hd.items w1 ok1
  exact ⟨.inl ⟨rfl, _, hl⟩, hr _ _ _ _ _ _ _ _ _ w1 ok1 .nil h1 fun _ _ q => q.back st1 fun _ _ z => z⟩⟩
/-- the i-th mutable object is the list at l -/
abbrev mAppend (i : Nat) : MD := fun ro rs M R => ∃ l ds d, ro = .raw (.ref l) ∧ rs = [.dat d] ∧ M[i]? = some (l, MO.lst ds) ∧ ds.length < 1000000 ∧ R .non (M.set i (l, .lst (ds ++ [d])))
theorem mj_append (i : Nat) : MetJ X "list.append" (mAppend i) := ⟨_, mt_append, fun B H M ro rs R x vs Q w ok oks h hq => by
  obtain ⟨l, ds, d, rfl, rfl, hi, hz, h⟩ := h
  obtain ⟨v, rfl, okv⟩ := slots1 oks
  have e := ok.raw
  subst e
  obtain ⟨_, xs, hx, rx⟩ := w.mo _ (List.mem_of_getElem? hi)
  obtain ⟨w2, st2⟩ := w.upd (m' := .lst (ds ++ [d])) (o := .lst (xs ++ [v])) hi ⟨_, upd_same, rx.append (.one okv.dat)⟩
  exact ⟨l, xs, v, rfl, rfl, hx, by rw [rx.length, sizeLine_eq]; omega, hq _ _ ⟨B, _, _, st2, w2, .of .non, h⟩⟩⟩
theorem je_append {o a : Expr} {apos cpos : Pos} (i : Nat) (h : JE X o S M fun ro M1 => ∃ ds, IsD M1 ro (.list ds) ∧ JA X [a] S M1 fun rs M2 => mAppend i ro rs M2 R)
    (hbase : attributeBase o "append" X.env (eval o X.env) = eval o X.env := by rfl)
    (hfew : ((backTo cpos (starEach [a] X.env)).all (fun x => !x.1) && (backToKw cpos (keywordEach [] X.env)).all (fun x => x.1.isSome)
      && decide ((a :: ([] : List Expr)).length + ([] : List Keyword).length + (if ([] : List Keyword).isEmpty then 0 else 1) < 30)) = true := by rfl)
    (hline : (apos.endLine == cpos.line) = true := by rfl) (hs : starEach [a] X.env = (false, eval a X.env) :: starEach [] X.env := by rfl) (hplain : (backTo cpos (starEach [] X.env)).any (·.1) = false := by rfl) :
    JE X (.Call (.Attribute o "append" apos) [a] [] cpos) S M R := je_bmL PySem.F.plainAttrs_list PySem.F.slot_list_append PySem.F.type_list_append (mj_append i) h hbase hfew hline hs hplain
abbrev mPop (i : Nat) : MD := fun ro rs M R => ∃ l ds d, ro = .raw (.ref l) ∧ rs = [] ∧ M[i]? = some (l, MO.lst (ds ++ [d])) ∧ R (.dat d) (M.set i (l, .lst ds))
theorem mj_pop (i : Nat) : MetJ X "list.pop" (mPop i) := ⟨_, mt_pop, fun B H M ro rs R x vs Q w ok oks h hq => by
  obtain ⟨l, ds, d, rfl, rfl, hi, h⟩ := h
  cases oks
  have e := ok.raw
  subst e
  obtain ⟨_, xs, hx, rx⟩ := w.mo _ (List.mem_of_getElem? hi)
  have hl := rx.length
  rw [List.length_append, List.length_singleton] at hl
  obtain ⟨v, hv, rv⟩ := rx.getD (i := ds.length) (d := d) (by simp)
  have rd := rx.dropLast
  rw [List.dropLast_concat] at rd
  obtain ⟨w2, st2⟩ := w.upd (m' := .lst ds) (o := .lst xs.dropLast) hi ⟨_, upd_same, rd⟩
  exact ⟨l, xs, v, rfl, rfl, hx, by rw [hl]; simpa using hv, hq _ _ ⟨B, _, _, st2, w2, .of rv, h⟩⟩⟩
abbrev mPopAt (i : Nat) : MD := fun ro rs M R => ∃ l ds k d, ro = .raw (.ref l) ∧ rs = [.int (k : Nat)] ∧ M[i]? = some (l, MO.lst ds) ∧ ds[k]? = some d ∧ ds.length ≤ 1000000 ∧ R (.dat d) (M.set i (l, .lst (ds.eraseIdx k)))
theorem mj_popAt (i : Nat) : MetJ X "list.pop" (mPopAt i) := ⟨_, mt_popAt, fun B H M ro rs R x vs Q w ok oks h hq => by
  obtain ⟨l, ds, k, d, rfl, rfl, hi, hk, hz, h⟩ := h
  obtain ⟨v, rfl, okv⟩ := slots1 oks
  have e := ok.raw
  subst e
  have e2 := okv.dat.inv_int
  subst e2
  obtain ⟨_, xs, hx, rx⟩ := w.mo _ (List.mem_of_getElem? hi)
  obtain ⟨y, hy, ry⟩ := rx.getD hk
  have hlt := (List.getElem?_eq_some_iff.mp hy).1
  have hl := rx.length
  obtain ⟨w2, st2⟩ := w.upd (m' := .lst (ds.eraseIdx k)) (o := .lst (xs.eraseIdx k)) hi ⟨_, upd_same, rx.eraseIdx k⟩
  refine ⟨l, xs, (k : Int), k, y, rfl, rfl, hx, by omega, by omega, ?_, hy, hq _ _ ⟨B, _, _, st2, w2, .of ry, h⟩⟩
  exact (ixN_seq (n := xs.length) (i := (k : Int)) (j := k) (by unfold ixN; rw [if_pos (by omega), if_pos (by omega)]; simp)).1⟩
/-! ### xs[i] = e -/
theorem js_setIx {oe ie e : Expr} {tpos : Pos} (j : Nat) (h : JE X e S M fun rv M1 => JE X oe S M1 fun ro M2 => JE X ie S M2 fun ri M3 => ∃ (l : Addr) (ds : List PyData) (k : Nat) (d : PyData), ro = .raw (.ref l) ∧ ri = .int (k : Int) ∧ rv = .dat d ∧ M3[j]? = some (l, .lst ds) ∧ k < ds.length ∧ P.nx S (M3.set j (l, .lst (ds.set k d))))
    (ha : ∀ v, assign (.Subscript oe ie tpos) X.env v = (do
      let ov ← holding [v] (eval oe X.env)
      let iv ← holding [v, ov] (eval ie X.env)
      standAt tpos
      holding [v, ov, iv] (setItem ov iv v)
      release [v, ov, iv] []) := by intro _; rfl)
    (hs : swapsWithSole [.Subscript oe ie tpos] e pos.line X.env = pure false := by rfl) (hw : swappedStores [.Subscript oe ie tpos] e X.env = pure none := by rfl)
    (h1 : (assignEach [.Subscript oe ie tpos] X.env).map (·.2) = [assign (.Subscript oe ie tpos) X.env] := by rfl) : JS X (.Assign [.Subscript oe ie tpos] e pos) S M P := ⟨fun σ H B w s => by
  refine of_ps (ps_asg pe_w (pg_sub pe_w pe_w set_list ha) hs hw h1) ((h.run σ H B w s).mono fun v H1 ⟨B1, rv, M1, st1, w1, ok1, h1⟩ => ?_)
  refine (h1.run σ H1 B1 w1 (s.le st1.bb)).mono fun v2 H2 ⟨B2, ro, M2, st2, w2, ok2, h2⟩ => ?_
  have s12 := st1.trans st2
  refine (h2.run σ H2 B2 w2 (s.le s12.bb)).mono fun v3 H3 ⟨B3, ri, M3, st3, w3, ok3, l, ds, k, d, e1, e2, e3, hj, hk, h3⟩ => ?_
  subst e1 e2 e3
  have q1 := ok2.raw
  have q2 := ok3.dat.inv_int
  subst q1 q2
  obtain ⟨_, xs, hx, rx⟩ := w3.mo _ (List.mem_of_getElem? hj)
  have hl := rx.length
  obtain ⟨w4, st4⟩ := w3.upd (m' := .lst (ds.set k d)) (o := .lst (xs.set k v)) hj ⟨_, upd_same, rx.set k ((ok1.le st2.bb).le st3.bb).dat⟩
  refine ⟨l, xs, (k : Int), k, rfl, rfl, hx, by unfold ixN; rw [if_pos (by omega), if_pos (by omega)]; simp, ?_⟩
  exact ⟨B3, S, _, (s12.trans st3).trans st4, w4, s.le (s12.trans st3).bb, h3⟩⟩
/-- a mutable list's name, from now on still -/
theorem je_varF {i : Nat} {l : Addr} {ds : List PyData} (j : Nat) (q : R (.dat (.list ds)) (M.eraseIdx j)) (hs : S[i]? = some (.raw (.ref l)) := by rfl) (hj : M[j]? = some (l, .lst ds) := by rfl) (hN : X.N[i]? = some x := by rfl) (hv : Vis X.env.scope x := by first | exact Or.inl rfl | exact Or.inr (Or.inl rfl) | exact Or.inr (Or.inr rfl))
    (hd : (x == ("__debug__" : Str)) = false := by decide) (hcd : (x == ("__classdict__" : Str)) = false := by decide) : JE X (.Name x pos) S M R := ⟨fun σ H B w s => by
  obtain ⟨o, e1, h1⟩ := s.get hs
  have e2 : o = some (.ref l) := h1
  subst e2
  obtain ⟨B2, w2, st2, rp⟩ := w.freeze hj
  exact of_pe (pe_var hN hv hd hcd) ⟨.ref l, e1, B2, _, _, st2, w2, .of rp, q⟩⟩
/-! ### own defs -/
def spD (K : Frag) (pre : CDt) : Sp := fun vs H Q _ => ∃ B M rs R, Wd K B H M ∧ SlotsA K B rs vs ∧ pre rs M R ∧ ∀ v H', QD K B H M R v H' → Q v H'
/-- a def of the module that keeps the promise pre; every parameter is written -/
structure OwnD (P : Program) (w : World) (K : Frag) (mg : Str → Option Value) (base : Heap) (x : Str) (k : Nat) (pre : CDt) : Prop where
  ex : ∃ f fd ps, mg x = some (.ref f) ∧ PySem.W.keepIn K (.ref f) = true ∧ FnOk P w K mg base CX0 k f fd ps (spD K pre) ∧ Binds K fd ps []
theorem OwnD.mono {P : Program} {w : World} {K : Frag} {mg : Str → Option Value} {base : Heap} {x : Str} {j k : Nat} {pre : CDt} (o : OwnD P w K mg base x j pre) (h : j ≤ k) : OwnD P w K mg base x k pre := by
  obtain ⟨f, fd, ps, a, b, c, d⟩ := o.ex
  exact ⟨f, fd, ps, a, b, c.mono h, d⟩
theorem je_call {k : Nat} {pre : CDt} (o : OwnD X.prog X.w X.K X.mg X.base x k pre) (hr : Room k X.A) (n : Nat) (h : JA X (e :: es) S M fun rs M1 => pre rs (M1.drop n) fun r M' => R r (M1.take n ++ M'))
    (hg : Gl X x := by rfl) (hdb : (x == ("__debug__" : Str)) = false := by decide) (he : starEach (e :: es) X.env = (false, eval e X.env) :: starEach es X.env := by rfl) (hpl : (backTo pos (starEach es X.env)).any (·.1) = false := by rfl) : JE X (.Call (.Name x p) (e :: es) [] pos) S M R := ⟨fun σ H B w s => by
  obtain ⟨f, fd, ps, hm, hk, F, hb⟩ := o.ex
  refine of_pe (pe_call F hr hg hm hk hb .nil pass0 pa_w hdb he hpl) ((h.run σ H B w s).mono fun vs H1 ⟨B1, rs, M1, st1, w1, ok1, h1⟩ => ?_)
  rw [List.append_nil]
  have w1' : Wd X.K B1 H1 (M1.take n ++ M1.drop n) := by rw [List.take_append_drop]; exact w1
  refine ⟨B1, M1.drop n, rs, _, w1.sub (List.drop_sublist n M1), ok1, h1, fun v H' ⟨B2, r, M2, st2, w2, ok2, h2⟩ => ?_⟩
  obtain ⟨w3, st3⟩ := Wd.frame w1' st2 w2
  rw [List.take_append_drop] at st3
  exact ⟨B2, r, _, st1.trans st3, w3, ok2, h2⟩⟩
theorem je_call0 {k : Nat} {pre : CDt} (o : OwnD X.prog X.w X.K X.mg X.base x k pre) (hr : Room k X.A) (n : Nat) (h : pre [] (M.drop n) fun r M' => R r (M.take n ++ M'))
    (hg : Gl X x := by rfl) (hdb : (x == ("__debug__" : Str)) = false := by decide) : JE X (.Call (.Name x p) [] [] pos) S M R := ⟨fun σ H B w s => by
  obtain ⟨f, fd, ps, hm, hk, F, hb⟩ := o.ex
  have w1' : Wd X.K B H (M.take n ++ M.drop n) := by rw [List.take_append_drop]; exact w
  refine of_pe (pe_call0 F hr hg hm hk hb .nil pass0 hdb) ?_
  show spD X.K pre ([] ++ []) H _ E0
  refine ⟨B, M.drop n, [], _, w.sub (List.drop_sublist n M), .nil, h, fun v H' ⟨B2, r, M2, st2, w2, ok2, h2⟩ => ?_⟩
  obtain ⟨w3, st3⟩ := Wd.frame w1' st2 w2
  rw [List.take_append_drop] at st3
  exact ⟨B2, r, _, st3, w3, ok2, h2⟩⟩
end
/-! ### a def keeps its promise -/
section
variable {P : Program} {w : World} {K : Frag} {mg : Str → Option Value} {base : Heap} {x : Str} {params : Arguments} {body : List Stmt} {scope : Scope} {f : Addr} {fd : FuncData}
theorem slots_start {K : Frag} {B : Hp} {N : List Str} {rs : List SD} {vs : List V} (h : SlotsA K B rs vs) : Slots K B (rs ++ List.replicate (N.length - rs.length) .un) (L2.start N vs) := by
  have hl : rs.length = vs.length := Paired.length h
  unfold L2.start
  rw [hl]
  have a : Slots K B rs (vs.map some) := by
    clear hl
    induction h with
    | nil => exact .nil
    | cons q _ ih => exact .cons q ih
  have b : ∀ n : Nat, Slots K B (List.replicate n .un) (List.replicate n none) := fun n => by
    induction n with
    | zero => exact .nil
    | succ n ih => exact .cons trivial ih
  have ap : ∀ {xs ys : List SD} {us ws : St}, Slots K B xs us → Slots K B ys ws → Slots K B (xs ++ ys) (us ++ ws) := by
    intro xs ys us ws p q
    induction p with
    | nil => exact q
    | cons r _ ih => exact .cons r ih
  exact ap a (b _)
/-- the context of a body out of which nothing is raised -/
abbrev cxD (P : Program) (w : World) (K : Frag) (mg : Str → Option Value) (base : Heap) (N : List Str) (x : Str) (scope : Scope) (f : Addr) (cdv : Value) (A : Around) (outer : List Env) (s : Shared) (H : Hp) (E : XK) : Cx := (cxOf CX0 P w K mg base N x scope f cdv A outer s H E).nox
abbrev endsD (R : SD → MS → Prop) : DEnds := { nx := fun _ M' => R .non M', rt := R }
theorem own_D {N ps : List Str} {k : Nat} {pre : CDt} (F : FunD K x x params body scope [] [] f fd) (hg : mg x = some (.ref f)) (S : FnScope N ps scope)
    (hb : ∀ (kV doc pm : Value) (an : Option Addr) (cdv ct : Value) (us : List Value), us.length = ps.length → bindArgs (PySem.W.fnOf x x params body scope .none kV doc pm an cdv ct) ⟨us, []⟩ = pure (ps.zip us))
    (len : ∀ rs M R, pre rs M R → rs.length = ps.length)
    (h : ∀ (cdv : Value) (A : Around) (outer : List Env) (s : Shared) (H : Hp) (E : XK), Room k (A.deeper (envOfC x scope s.heap.objs.size f cdv)) → ∀ rs M R, pre rs M R → JB (cxD P w K mg base N x scope f cdv A outer s H E) body (rs ++ List.replicate (N.length - rs.length) .un) M (endsD R)) :
    OwnD P w K mg base x (k + 1) pre := by
  refine ⟨f, fd, ps, hg, F.kp, F.ok S (fun vs H Q E ⟨B, M, rs, R, wd, ok, hp, hq⟩ => ?_) (fun cdv A outer s H vs Q E hr ⟨B, M, rs, R, wd, ok, hp, hq⟩ => ?_), F.bindsN hb⟩
  · rw [← len rs M R hp]
    exact (Paired.length ok).symm
  · refine ⟨_, PSs.nox pss_w, ?_⟩
    refine TBW.mono ((h cdv A outer s H E hr rs M R hp).run (L2.start N vs) H B wd (slots_start ok)) ?_ ?_ ?_ ?_
    · rintro σ' H' ⟨B', S', M', a, b, c, d⟩
      exact hq _ _ ⟨B', .non, M', a, b, .of .non, d⟩
    · exact fun v H' q => hq v H' q
    · rintro σ' H' ⟨B', S', M', a, b, c, d⟩
      exact d
    · rintro σ' H' ⟨B', S', M', a, b, c, d⟩
      exact d
end
end DL
set_option Elab.async false
set_option linter.all false
set_option maxRecDepth 100000
set_option maxHeartbeats 4000000
namespace DL
open PySem PySem.Spec PyProof.Rows L2
/-! ### enumerate, zip over lists, tuples, texts in any mix -/
/-- what an iterator goes over -/
inductive SK where
  | lst (a : Addr) | tup (a : Addr) | txt (z : Str) (t : Tok)
def SK.u : SK → Value
  | .lst a => .ref a
  | .tup a => .ref a
  | .txt z t => .str z t
def SK.has (K : Frag) (H : Hp) : SK → List V → Prop
  | .lst a, xs => SqL K H a xs
  | .tup a, xs => SqT K H a xs
  | .txt z _, xs => xs = z.cps.toList.map fun c => V.str ⟨#[c]⟩
def SK.at_ : SK → Addr → Nat → Heap → Prop
  | .lst a, it, i, h => h.IsListIter it a i
  | .tup a, it, i, h => h.IsTupleIter it a i
  | .txt z t, it, i, h => h.IsStrIter it (strIterType z) z t i
def SK.more : SK → List Addr
  | .lst a => [a]
  | .tup a => [a]
  | .txt _ _ => []
def SK.obj : SK → Obj
  | .lst a => { cls := .type "list_iterator", data := .fields #[.ref a, .int 0 0] }
  | .tup a => { cls := .type "tuple_iterator", data := .fields #[.ref a, .int 0 0] }
  | .txt z t => { cls := .type (strIterType z), data := .fields #[.str z t, .int 0 0] }
theorem SK.at_obj {k : SK} {it : Addr} {h : Heap} (e : h.get? it = some k.obj) : k.at_ it 0 h := by
  cases k with
  | lst a => exact ⟨_, e, rfl, rfl⟩
  | tup a => exact ⟨_, e, rfl, rfl⟩
  | txt z t => exact ⟨_, e, rfl, rfl⟩
theorem SK.at_keep {k : SK} {it : Addr} {i : Nat} {h h' : Heap} (x : k.at_ it i h) (e : ∀ o, h.get? it = some o → h'.get? it = some o) : k.at_ it i h' := by
  cases k with
  | lst a => exact Heap.IsListIter.at x e
  | tup a => exact Heap.IsTupleIter.at x e
  | txt z t =>
    obtain ⟨o, h1, h2⟩ := x
    exact ⟨o, e o h1, h2⟩
theorem SK.at_ex {k : SK} {it : Addr} {i : Nat} {h : Heap} (x : k.at_ it i h) : ∃ o vs, h.get? it = some o ∧ o.data = .fields vs := by
  cases k with
  | lst a =>
    obtain ⟨o, h1, h2, h3⟩ := x
    exact ⟨o, _, h1, h3⟩
  | tup a =>
    obtain ⟨o, h1, h2, h3⟩ := x
    exact ⟨o, _, h1, h3⟩
  | txt z t =>
    obtain ⟨o, h1, h2, h3⟩ := x
    exact ⟨o, _, h1, h3⟩
section
variable {X : Cx} {pins : List (Addr × Obj)} {σ : L2.St} {H : Hp} {s : Shared}
theorem SK.draws (I : Inv X pins σ H s) (hc : X.calm = true) {k : SK} {xs : List V} (h : k.has X.K H xs) {it : Addr} {i : Nat} (hit : k.at_ it i s.heap) (hne : ∀ a ∈ k.more, a ≠ it) :
    ∃ (P : Nat → Value → Prop) (St : Nat → Heap → Prop), Draws X.prog X.w X.A.in1 it (it :: k.more) xs.length P St ∧ St i s.heap ∧ (∀ j x, P j x → ∃ y, xs[j]? = some y ∧ RelV y x) ∧ ∀ j h', St j h' → k.at_ it j h' := by
  have hh : X.A.in1.handled = none := I.ok.hd hc
  cases k with
  | lst a =>
    obtain ⟨its, rv, pl, hz⟩ := I.list h
    refine ⟨fun j v => its.toArray[j]? = some v, fun j h => h.IsListIter it a j ∧ h.IsList a its.toArray, by rw [show xs.length = its.toArray.size by rw [List.size_toArray]; exact rv.length]; exact Draws.list hh it a (hne a (by simp [SK.more])) its.toArray, ⟨hit, pl.isList⟩, fun j x hx => ?_, fun j h' q => q.1⟩
    have hx' : its[j]? = some x := by simpa using hx
    cases q : xs[j]? with
    | none => rw [Vals.none_of rv q] at hx'; cases hx'
    | some y =>
      obtain ⟨u, hu, ru⟩ := rv.get q
      rw [hx'] at hu
      cases hu
      exact ⟨y, rfl, ru⟩
  | tup a =>
    obtain ⟨its, rv, pl, hz⟩ := I.tuple h
    refine ⟨fun j v => its.toArray[j]? = some v, fun j h => h.IsTupleIter it a j ∧ h.IsTuple a its.toArray, by rw [show xs.length = its.toArray.size by rw [List.size_toArray]; exact rv.length]; exact Draws.tuple hh it a (hne a (by simp [SK.more])) its.toArray, ⟨hit, pl⟩, fun j x hx => ?_, fun j h' q => q.1⟩
    have hx' : its[j]? = some x := by simpa using hx
    cases q : xs[j]? with
    | none => rw [Vals.none_of rv q] at hx'; cases hx'
    | some y =>
      obtain ⟨u, hu, ru⟩ := rv.get q
      rw [hx'] at hu
      cases hu
      exact ⟨y, rfl, ru⟩
  | txt z t =>
    have e : xs = z.cps.toList.map fun c => V.str ⟨#[c]⟩ := h
    subst e
    refine ⟨_, _, by rw [show (z.cps.toList.map fun c => V.str ⟨#[c]⟩).length = z.cps.size by simp]; exact Draws.text hh it z t, hit, fun j x hx => ?_, fun j h' q => q⟩
    obtain ⟨c, u, h1, rfl⟩ := hx
    have h1' : z.cps.toList[j]? = some c := by simpa using h1
    exact ⟨.str ⟨#[c]⟩, by simp [h1'], u, rfl⟩
theorem SK.begins (I : Inv X pins σ H s) {k : SK} {xs : List V} (h : k.has X.K H xs) : (∃ G : Heap → Prop, Begins k.u k.obj G ∧ G s.heap) ∧ ∀ a ∈ k.more, a < s.heap.objs.size := by
  cases k with
  | lst a =>
    obtain ⟨its, rv, pl, hz⟩ := I.list h
    refine ⟨⟨_, begins_list a its.toArray, pl.isList⟩, fun b hb => ?_⟩
    have e : b = a := by simpa [SK.more] using hb
    rw [e]
    exact pl.lt
  | tup a =>
    obtain ⟨its, rv, pl, hz⟩ := I.tuple h
    refine ⟨⟨_, begins_tuple a its.toArray, pl⟩, fun b hb => ?_⟩
    have e : b = a := by simpa [SK.more] using hb
    rw [e]
    exact pl.lt
  | txt z t => exact ⟨⟨_, begins_text z t, trivial⟩, fun b hb => by cases hb⟩
theorem SK.inj (I : Inv X pins σ H s) {k : SK} {xs ys : List V} (h : k.has X.K H xs) (q : k.has X.K H ys) : xs = ys := by
  cases k with
  | lst a => exact I.list_inj h q
  | tup a => exact I.tuple_inj h q
  | txt z t => exact (show xs = _ from h).trans (show ys = _ from q).symm
end
def ItE (K : Frag) (k : SK) : It :=
  ⟨fun i H => ∃ xs : List V, i < xs.length ∧ k.has K H xs, fun i H v H' => ∃ T x, v = .ref T ∧ H T = none ∧ H' = upd H T (.tup [.int (i : Nat), x]) ∧ ∀ xs, k.has K H xs → xs[i]? = some x, fun i H => ∃ xs : List V, i = xs.length ∧ k.has K H xs⟩
theorem turn_enumK {P : Program} {w : World} {K : Frag} {elts : List Expr} {kk : Nat} {tpos : Pos} {k : SK} (e it : Addr) (hne : e ≠ it) (hef : e ∉ k.more) (hak : ∀ a ∈ k.more, a ≠ it) :
    Turn P w K (.Tuple elts kk tpos) (ItE K k) [e, it] e (fun i h => (∃ old, IsEnum h e it ((i : Nat) : Int) old) ∧ k.at_ it i h) where
  mem := by simp
  obj := fun i h st b hb => by
    obtain ⟨⟨old, he⟩, ha⟩ := st
    obtain ⟨o, vs, ho, hd⟩ := SK.at_ex ha
    have e' : b = e ∨ b = it := by simpa using hb
    rcases e' with z | z
    · rw [z]; exact ⟨_, he, fun v q => nomatch q⟩
    · rw [z]; exact ⟨o, ho, fun v q => by rw [hd] at q; cases q⟩
  keep := fun i h h' st kp => let ⟨⟨old, he⟩, hi⟩ := st; ⟨⟨old, kp e (by simp) _ he⟩, SK.at_keep hi fun o q => kp it (by simp) o q⟩
  item := by
    intro X hP hw hK hc i pins s σ H E I hf st hg
    subst hP hw hK
    obtain ⟨⟨old, he⟩, hit⟩ := st
    obtain ⟨xs, hi, hq⟩ := hg
    obtain ⟨P, St, D, hst, hPx, hSt⟩ := SK.draws I hc hq hit hak
    have hel : e < s.heap.objs.size := Heap.lt_size he
    have hil : it < s.heap.objs.size := by obtain ⟨o, vs, q, _⟩ := SK.at_ex hit; exact Heap.lt_size q
    refine wpAny_pyNext_enum_itemC D he hst hi hne (fun z => (List.mem_cons.mp z).elim (fun q => hne q) hef) fun x h' tk px ho st' hT hsz hk => ?_
    obtain ⟨y, hy, ry⟩ := hPx i x px
    refine ⟨_, rfl, wpAny_letOwnedTupleGo_enum (s := { s with heap := h', toks := tk + 1 }) ho fun h'' he' sb => ?_⟩
    have hT2 : h''.get? s.heap.objs.size = some { cls := .type "tuple", data := .seq #[.int i tk, x] } := (sb.2 _ (Nat.ne_of_gt hel)).trans hT
    have new : ObjOk X.prog X.w (upd H s.heap.objs.size (.tup [.int (i : Nat), y])) h'' s.heap.objs.size (.tup [.int (i : Nat), y]) :=
      ⟨by show 2 ≤ sizeLine; decide, [.int i tk, x], .cons ⟨_, rfl⟩ (.cons ry .nil), ⟨_, hT2, rfl, _, rfl⟩⟩
    have I1 : Inv X pins σ (upd H s.heap.objs.size (.tup [.int (i : Nat), y])) { s with heap := h'', toks := tk + 1 } :=
      I.turnedNew (ch := [e, it]) (fun b ob hb q => (sb.2 b (fun z => hb (by simp [z]))).trans (hk b ob (fun z => hb (by simp [z])) (fun z => hb (by simp [z])) q)) hf (Nat.le_refl _) new
    refine ⟨.ref s.heap.objs.size, _, I1, rfl, ⟨_, y, rfl, I.hok.fresh (Nat.le_refl _), rfl, fun l hl => by rw [SK.inj I hl hq]; exact hy⟩, ⟨⟨x, ?_⟩, SK.at_keep (hSt _ _ st') fun o q => (sb.2 it (Ne.symm hne)).trans q⟩, fun b hb => ?_⟩
    · have e1 : ((i + 1 : Nat) : Int) = (i : Int) + 1 := by omega
      rw [e1]; exact he'
    · have hb' : b < s.heap.objs.size := by
        have e' : b = e ∨ b = it := by simpa using hb
        rcases e' with z | z
        · rw [z]; exact hel
        · rw [z]; exact hil
      rw [upd_ne (Nat.ne_of_lt hb')]
      exact (hf b hb).1
  done := by
    intro X hP hw hK hc i pins s σ H E I hf st hg
    subst hP hw hK
    obtain ⟨⟨old, he⟩, hit⟩ := st
    obtain ⟨xs, rfl, hq⟩ := hg
    obtain ⟨P, St, D, hst, hPx, hSt⟩ := SK.draws I hc hq hit hak
    obtain ⟨f0, f1, f2, f3, f4, f5⟩ := hf it (by simp)
    exact wpAny_pyNext_enum_endD D he hst fun h' eb => ⟨rfl, I.turned (t' := s.toks) (fun b o hb q => eb b o hb q) f0 f1 f3 f4 f5⟩
  self := fun A i s Q E st h => let ⟨⟨_, he⟩, _⟩ := st; wpAny_pyIter_enum he h
set_option maxHeartbeats 1000000 in
theorem meets_enumerate_new1 {v : Value} {o : Obj} {H : Heap → Prop} (B : Begins v o H) :
    Meets (Builtin.«enumerate.__new__» ⟨[.type "enumerate", v], []⟩) (fun _ R s => H s.heap ∧
      R (.ok (.ret (.ref (s.heap.push o).objs.size))) { s with heap := (s.heap.push o).push { cls := .type "enumerate", data := .fields #[.none, .bool false, .ref s.heap.objs.size, rawInt 0, .none, .none] } }) :=
  .of_wp fun prog w A R s h => by
    obtain ⟨hp, g, d, tk, os⟩ := s; obtain ⟨h1, h⟩ := h
    have hsub := sub_enumerate
    have q1 : ∀ {A' : Around} {E : Value → Shared → Prop} {Q : Value → Shared → Prop}, Q (.ref hp.objs.size) ⟨hp.push o, g, d, tk, os⟩ → wpAny (model prog w) A' (pyIter v) Q E ⟨hp, g, d, tk, os⟩ :=
      fun q => B.iter prog w _ _ ⟨hp, g, d, tk, os⟩ _ h1 q
    wp_walk using q1
    refine wpAny_stack_any fun st => wpAny_pure ?_
    split
    · rename_i c _ _ _ _ _
      cases (c == Value.type "enumerate")
      · wp_walk using q1
        exact ⟨_, rfl, h⟩
      · wp_walk using q1
        exact ⟨_, rfl, h⟩
    · wp_walk using q1
      exact ⟨_, rfl, h⟩
section
variable {prog : Program} {w : World} {A : Around} {E : Value → Shared → Prop} {s : Shared}
theorem enum_begins1 {v : Value} {o : Obj} {H : Heap → Prop} {Q : Value → Shared → Prop} (B : Begins v o H) (h1 : H s.heap)
    (h : ∀ h', IsEnum h' (s.heap.objs.size + 1) s.heap.objs.size 0 .none → h'.get? s.heap.objs.size = some o → h'.objs.size = s.heap.objs.size + 2 →
      (∀ b o, s.heap.get? b = some o → h'.get? b = some o) → Q (.ref (s.heap.objs.size + 1)) { s with heap := h' }) :
    wpAny (model prog w) A (call (.type "enumerate") [v]) Q E s := by
  refine callType_new F.called_enumerate (by decide) (F.typeCall_enumerate_1 _) (F.newCall_enumerate_1 _) (fun obj => F.args_object_init_2 obj _) F.entry_enumerate_new
    (meets_enumerate_new1 B) ⟨h1, ?_⟩
  have hz : (s.heap.push o).objs.size = s.heap.objs.size + 1 := Heap.size_push ..
  show _ ∧ _
  rw [hz]
  have he : IsEnum ((s.heap.push o).push { cls := .type "enumerate", data := .fields #[.none, .bool false, .ref s.heap.objs.size, rawInt 0, .none, .none] }) (s.heap.objs.size + 1) s.heap.objs.size 0 .none := by
    have := Heap.get?_push_size (s.heap.push o) (o := { cls := .type "enumerate", data := .fields #[.none, .bool false, .ref s.heap.objs.size, rawInt 0, .none, .none] }) rfl
    rw [hz] at this; exact this
  refine ⟨⟨_, he, rfl⟩, h _ he (Heap.get?_push_of_some _ (Heap.get?_push_size _ B.free)) (by rw [Heap.size_push, hz]) fun b o x => Heap.get?_push_of_some _ (Heap.get?_push_of_some _ x)⟩
end
section
variable {X : Cx} {e e2 : Expr} {p pos tpos : Pos} {elts : List Expr} {kk : Nat}
/-- v may be walked: a list, a tuple, a text -/
def SrcV (K : Frag) (H : Hp) (v : V) (P : SK → Prop) : Prop := ∀ u, RelV v u → ∃ k : SK, k.u = u ∧ (∃ xs, k.has K H xs) ∧ P k
def iEnumS (K : Frag) (ta : TA) : TI := fun σ H R => ta σ H fun vs H1 => ∃ v, vs = [v] ∧ SrcV K H1 v fun k => R (ItE K k) H1
theorem pi_enumS {ta : TA} (hg : Gl X "enumerate") (hm : X.mg "enumerate" = none) (ha : PA X [e] ta) (hs : starEach [e] X.env = [(false, eval e X.env)] := by rfl) :
    PI X (.Tuple elts kk tpos) (.Call (.Name "enumerate" p) [e] [] pos) (iEnumS X.K ta) := by
  refine ⟨fun pins s σ H R I h => ?_⟩
  refine Call_ (ld_blt I hg hm boot_enumerate (PyProof.Rows.callWith_type1 (thn (ha.run pos pins s σ H _ I h) fun us s1 ⟨vs, H1, I1, r1, q1⟩ => ?_) hs rfl))
  obtain ⟨v, ex, hq⟩ := q1
  subst ex
  cases r1 with
  | cons r rr =>
    cases rr
    obtain ⟨k, rfl, ⟨xs, hk⟩, q⟩ := hq _ r
    obtain ⟨⟨G, B, hG⟩, hlt⟩ := SK.begins I1 hk
    refine enum_begins1 B hG fun h' he hit hsz hkp => wpAny_pyIter_enum he ?_
    have I2 : Inv X pins σ H1 { s1 with heap := h' } := I1.kept (t' := s1.toks) hkp
    refine ⟨s1.heap.objs.size + 1, [s1.heap.objs.size + 1, s1.heap.objs.size], _, _, H1, rfl, I2, turn_enumK (s1.heap.objs.size + 1) s1.heap.objs.size (Nat.succ_ne_self _) (fun z => absurd (hlt _ z) (Nat.not_lt.mpr (Nat.le_succ _))) (fun a ha => Nat.ne_of_lt (hlt a ha)), ⟨⟨.none, he⟩, SK.at_obj hit⟩, fun b hb => ?_, q⟩
    have e' : b = s1.heap.objs.size + 1 ∨ b = s1.heap.objs.size := by simpa using hb
    have hle : s1.heap.objs.size ≤ b := by
      rcases e' with z | z
      · rw [z]; exact Nat.le_add_right _ _
      · rw [z]; exact Nat.le_refl _
    exact I1.fpOk hle (I1.hok.fresh hle)
end
/-! ### zip of two -/
def ItZ (K : Frag) (k1 k2 : SK) : It :=
  ⟨fun i H => ∃ xs ys : List V, i < xs.length ∧ i < ys.length ∧ k1.has K H xs ∧ k2.has K H ys, fun i H v H' => ∃ T x y, v = .ref T ∧ H T = none ∧ H' = upd H T (.tup [x, y]) ∧ (∀ xs, k1.has K H xs → xs[i]? = some x) ∧ ∀ ys, k2.has K H ys → ys[i]? = some y, fun i H => ∃ xs ys : List V, i ≤ xs.length ∧ i ≤ ys.length ∧ (i = xs.length ∨ i = ys.length) ∧ k1.has K H xs ∧ k2.has K H ys⟩
theorem turn_zipK {P : Program} {w : World} {K : Frag} {elts : List Expr} {kk : Nat} {tpos : Pos} {k1 k2 : SK} {z TI TO i1 i2 : Addr} (D : ZipSep2 z TI TO i1 i2 (i1 :: k1.more) (i2 :: k2.more)) (n1 : ∀ a ∈ k1.more, a ≠ i1) (n2 : ∀ a ∈ k2.more, a ≠ i2) :
    Turn P w K (.Tuple elts kk tpos) (ItZ K k1 k2) [z, TI, TO, i1, i2] z (fun i h => IsZip h z TI TO .none ∧ IsTupOf2 h TI (.ref i1) (.ref i2) ∧ (∃ x y, IsTupOf2 h TO x y) ∧ k1.at_ i1 i h ∧ k2.at_ i2 i h) where
  mem := by simp
  obj := fun i h st c hc => by
    obtain ⟨hz, hTI, ⟨x, y, hTO⟩, h1, h2⟩ := st
    obtain ⟨o1, vs1, e1, d1⟩ := SK.at_ex h1
    obtain ⟨o2, vs2, e2, d2⟩ := SK.at_ex h2
    have e' : c = z ∨ c = TI ∨ c = TO ∨ c = i1 ∨ c = i2 := by simpa using hc
    rcases e' with q | q | q | q | q
    · rw [q]; exact ⟨_, hz, fun v q => nomatch q⟩
    · rw [q]; exact ⟨_, hTI, fun v q => nomatch q⟩
    · rw [q]; exact ⟨_, hTO, fun v q => nomatch q⟩
    · rw [q]; exact ⟨o1, e1, fun v q => by rw [d1] at q; cases q⟩
    · rw [q]; exact ⟨o2, e2, fun v q => by rw [d2] at q; cases q⟩
  keep := fun i h h' st k => by
    obtain ⟨hz, hTI, ⟨x, y, hTO⟩, h1, h2⟩ := st
    exact ⟨k z (by simp) _ hz, k TI (by simp) _ hTI, ⟨x, y, k TO (by simp) _ hTO⟩, SK.at_keep h1 fun o q => k i1 (by simp) o q, SK.at_keep h2 fun o q => k i2 (by simp) o q⟩
  item := by
    intro X hP hw hK hc i pins s σ H E I hf st hg
    subst hP hw hK
    obtain ⟨hz, hTI, ⟨x0, y0, hTO⟩, h1, h2⟩ := st
    obtain ⟨xs, ys, hi1, hi2, hqx, hqy⟩ := hg
    obtain ⟨P1, St1, D1, s1, p1, t1⟩ := SK.draws I hc hqx h1 n1
    obtain ⟨P2, St2, D2, s2, p2, t2⟩ := SK.draws I hc hqy h2 n2
    have hzl : z < s.heap.objs.size := Heap.lt_size hz
    refine wpAny_pyNext_zipD2_item D D1 D2 hz hTI hTO s1 s2 hi1 hi2 fun u u2 h' tk pu pu2 z' TO' st1' st2' hT hsz hk => ?_
    obtain ⟨x, hx, ru⟩ := p1 i u pu
    obtain ⟨y, hy, ru2⟩ := p2 i u2 pu2
    refine ⟨_, rfl, wpAny_letOwnedTupleGo_zip (s := { s with heap := h', toks := tk }) z' fun h'' z'' sb => ?_⟩
    have hT2 : h''.get? s.heap.objs.size = some { cls := .type "tuple", data := .seq #[u, u2] } := (sb.2 _ (Nat.ne_of_gt hzl)).trans hT
    have new : ObjOk X.prog X.w (upd H s.heap.objs.size (.tup [x, y])) h'' s.heap.objs.size (.tup [x, y]) :=
      ⟨by show 2 ≤ sizeLine; decide, [u, u2], .cons ru (.cons ru2 .nil), ⟨_, hT2, rfl, _, rfl⟩⟩
    have I1 : Inv X pins σ (upd H s.heap.objs.size (.tup [x, y])) { s with heap := h'', toks := tk } :=
      I.turnedNew (t' := tk) (ch := [z, TI, TO, i1, i2]) (fun c o hb q => (sb.2 c (fun q' => hb (by simp [q']))).trans (hk c o (fun q' => hb (by simp [q'])) (fun q' => hb (by simp [q'])) (fun q' => hb (by simp [q'])) (fun q' => hb (by simp [q'])) q)) hf (Nat.le_refl _) new
    refine ⟨.ref s.heap.objs.size, _, I1, rfl, ⟨_, x, y, rfl, I.hok.fresh (Nat.le_refl _), rfl, fun l hl => by rw [SK.inj I hl hqx]; exact hx, fun l hl => by rw [SK.inj I hl hqy]; exact hy⟩, ⟨z'', ?_, ⟨u, u2, ?_⟩, ?_, ?_⟩, fun c hcm => ?_⟩
    · exact (sb.2 _ D.TIz).trans (hk _ _ D.TIz D.TITO D.TIi1 D.TIi2 hTI)
    · exact (sb.2 _ D.TOz).trans TO'
    · exact SK.at_keep (t1 _ _ st1') fun o q => (sb.2 _ (fun e => D.zi1 e.symm)).trans q
    · exact SK.at_keep (t2 _ _ st2') fun o q => (sb.2 _ (fun e => D.zi2 e.symm)).trans q
    · have hlt : c < s.heap.objs.size := by
        have e' : c = z ∨ c = TI ∨ c = TO ∨ c = i1 ∨ c = i2 := by simpa using hcm
        rcases e' with q | q | q | q | q
        · rw [q]; exact hzl
        · rw [q]; exact Heap.lt_size hTI
        · rw [q]; exact Heap.lt_size hTO
        · rw [q]; obtain ⟨_, _, e1, _⟩ := SK.at_ex h1; exact Heap.lt_size e1
        · rw [q]; obtain ⟨_, _, e2, _⟩ := SK.at_ex h2; exact Heap.lt_size e2
      rw [upd_ne (Nat.ne_of_lt hlt)]
      exact (hf c hcm).1
  done := by
    intro X hP hw hK hc i pins s σ H E I hf st hg
    subst hP hw hK
    obtain ⟨hz, hTI, ⟨x0, y0, hTO⟩, h1, h2⟩ := st
    obtain ⟨xs, ys, l1, l2, hend, hqx, hqy⟩ := hg
    obtain ⟨P1, St1, D1, s1, p1, t1⟩ := SK.draws I hc hqx h1 n1
    obtain ⟨P2, St2, D2, s2, p2, t2⟩ := SK.draws I hc hqy h2 n2
    exact wpAny_pyNext_zipD2_end D D1 D2 hz hTI hTO s1 s2 l1 l2 hend fun h' tk hk => ⟨rfl, I.turnedL (t' := tk) (ch := [z, TI, TO, i1, i2]) (fun c o hb q =>
      hk c o (fun q' => hb (by simp [q'])) (fun q' => hb (by simp [q'])) (fun q' => hb (by simp [q'])) (fun q' => hb (by simp [q'])) q) hf⟩
  self := fun A i s Q E st h => wpAny_pyIter_zip st.1 h
section
variable {X : Cx} {e e2 : Expr} {p pos tpos : Pos} {elts : List Expr} {kk : Nat}
def iZipS (K : Frag) (ta : TA) : TI := fun σ H R => ta σ H fun vs H1 => ∃ v w, vs = [v, w] ∧ SrcV K H1 v fun k1 => SrcV K H1 w fun k2 => R (ItZ K k1 k2) H1
theorem pi_zipS {ta : TA} (hg : Gl X "zip") (hm : X.mg "zip" = none) (ha : PA X [e, e2] ta)
    (hs : starEach [e, e2] X.env = (false, eval e X.env) :: starEach [e2] X.env := by rfl) (hpl : (backTo pos (starEach [e2] X.env)).any (·.1) = false := by rfl) :
    PI X (.Tuple elts kk tpos) (.Call (.Name "zip" p) [e, e2] [] pos) (iZipS X.K ta) := by
  refine ⟨fun pins s σ H R I h => ?_⟩
  refine Call_ (ld_blt I hg hm PyProof.Rows.boot_zip (PyProof.Rows.callWith_type1 (thn (ha.run pos pins s σ H _ I h) fun us s1 ⟨vs, H1, I1, r1, q1⟩ => ?_) hs hpl))
  obtain ⟨v, w, ex, hq1⟩ := q1
  subst ex
  cases r1 with
  | cons r rr =>
    cases rr with
    | cons r' rr =>
      cases rr
      obtain ⟨k1, rfl, ⟨xs, hk1⟩, hq2⟩ := hq1 _ r
      obtain ⟨k2, rfl, ⟨ys, hk2⟩, q⟩ := hq2 _ r'
      obtain ⟨⟨G1, B1, hG1⟩, lt1⟩ := SK.begins I1 hk1
      obtain ⟨⟨G2, B2, hG2⟩, lt2⟩ := SK.begins I1 hk2
      refine zip_begins2 B1 B2 hG1 hG2 fun h' hz hTI hTO g1 g2 hsz hk => wpAny_pyIter_zip hz ?_
      have I2 : Inv X pins σ H1 { s1 with heap := h' } := I1.kept (t' := s1.toks) hk
      refine ⟨s1.heap.objs.size + 4, [s1.heap.objs.size + 4, s1.heap.objs.size + 2, s1.heap.objs.size + 3, s1.heap.objs.size, s1.heap.objs.size + 1], _, _, H1, rfl, I2, turn_zipK (zip_sep2 lt1 lt2) (fun a ha => Nat.ne_of_lt (lt1 a ha)) (fun a ha => Nat.ne_of_lt (Nat.lt_succ_of_lt (lt2 a ha))), ⟨hz, hTI, ⟨_, _, hTO⟩, SK.at_obj g1, SK.at_obj g2⟩, fun c hcm => ?_, q⟩
      have e' : c = s1.heap.objs.size + 4 ∨ c = s1.heap.objs.size + 2 ∨ c = s1.heap.objs.size + 3 ∨ c = s1.heap.objs.size ∨ c = s1.heap.objs.size + 1 := by simpa using hcm
      have hle : s1.heap.objs.size ≤ c := by
        rcases e' with z | z | z | z | z
        · rw [z]; exact Nat.le_add_right _ _
        · rw [z]; exact Nat.le_add_right _ _
        · rw [z]; exact Nat.le_add_right _ _
        · rw [z]; exact Nat.le_refl _
        · rw [z]; exact Nat.le_add_right _ _
      exact I1.fpOk hle (I1.hok.fresh hle)
end
/-! ### over data -/
/-- what is walked: a list, a tuple, a text -/
inductive SrcD (M : MS) : SD → List PyData → Prop
  | lst {r : SD} {ds : List PyData} : IsD M r (.list ds) → SrcD M r ds
  | tup {ds : List PyData} : SrcD M (.dat (.tuple ds)) ds
  | str {z : Str} : SrcD M (.dat (.str z)) (signsD z)
theorem rp_signs {K : Frag} {B : Hp} {z : Str} : RpAll K B (z.cps.toList.map fun c => V.str ⟨#[c]⟩) (signsD z) := by
  unfold signsD
  induction z.cps.toList with
  | nil => exact .nil
  | cons c r ih => exact .cons (.str _) ih
/-- its items at any moment -/
def SkAt (K : Frag) (B : Hp) (r : SD) (ds : List PyData) (k : SK) : Prop := ∀ B' H' M', Same B B' → Wd K B' H' M' → SrcD M' r ds → ∃ xs', k.has K H' xs' ∧ RpAll K B' xs' ds
theorem SrcD.sk {K : Frag} {B H : Hp} {M : MS} {r : SD} {ds : List PyData} {v : V} (h : SrcD M r ds) (w : Wd K B H M) (ok : SlotOk K B r (some v)) : ∀ (u : Value), RelV v u → ∃ k : SK, k.u = u ∧ (∃ xs, k.has K H xs) ∧ SkAt K B r ds k := by
  intro u hu
  have fin : ∀ k : SK, k.u = u → SkAt K B r ds k → ∃ k : SK, k.u = u ∧ (∃ xs, k.has K H xs) ∧ SkAt K B r ds k := fun k hk hs => by
    obtain ⟨xs, h1, _⟩ := hs B H M (Same.refl _) w h
    exact ⟨k, hk, ⟨xs, h1⟩, hs⟩
  cases h with
  | lst h =>
    cases h with
    | dat =>
      obtain ⟨a, xs, rfl, h1, h2⟩ := ok.dat.inv_lst
      cases hu
      exact fin (.lst a) rfl fun B' H' M' bb w' _ => ⟨xs, sql_le w'.le (sql_le bb h1), h2.le bb⟩
    | lst hm =>
      rename_i a
      have e := ok.raw
      subst e
      cases hu
      refine fin (.lst a) rfl fun B' H' M' bb w' h' => ?_
      cases h' with
      | lst h' =>
        obtain ⟨a', xs', e, g1, g2⟩ := h'.items w' (ok.le bb)
        cases e
        exact ⟨xs', g1, g2⟩
  | tup =>
    obtain ⟨a, xs, rfl, h1, h2⟩ := ok.dat.inv_tup
    cases hu
    exact fin (.tup a) rfl fun B' H' M' bb w' _ => ⟨xs, sqt_le w'.le (sqt_le bb h1), h2.le bb⟩
  | str =>
    rename_i z
    have e := ok.dat.inv_str
    subst e
    obtain ⟨t, rfl⟩ := hu
    exact fin (.txt z t) rfl fun B' H' M' bb w' _ => ⟨_, rfl, rp_signs⟩
/-- the pairs of enumerate, of zip -/
def enumD : Nat → List PyData → List PyData
  | _, [] => []
  | n, d :: r => .tuple [.int (n : Nat), d] :: enumD (n + 1) r
def zipD : List PyData → List PyData → List PyData
  | d :: r, e :: s => .tuple [d, e] :: zipD r s
  | _, _ => []
theorem enumD_length : ∀ (n : Nat) (ds : List PyData), (enumD n ds).length = ds.length
  | _, [] => rfl
  | n, d :: r => by simp [enumD, enumD_length]
theorem enumD_get : ∀ (n : Nat) (ds : List PyData) (i : Nat), (enumD n ds)[i]? = ds[i]?.map fun d => .tuple [.int ((n + i : Nat) : Int), d]
  | _, [], i => by simp [enumD]
  | n, d :: r, 0 => by simp [enumD]
  | n, d :: r, i + 1 => by
    simp [enumD]
    rw [enumD_get (n + 1) r i]
    congr 1
    funext d
    have : ((n : Int) + 1 + (i : Int)) = (n : Int) + ((i : Int) + 1) := by omega
    simp [this]
theorem zipD_length : ∀ (ds es : List PyData), (zipD ds es).length = min ds.length es.length
  | [], _ => by simp [zipD]
  | _ :: _, [] => by simp [zipD]
  | d :: r, e :: s => by simp [zipD, zipD_length]
theorem zipD_get : ∀ (ds es : List PyData) (i : Nat) (d e : PyData), ds[i]? = some d → es[i]? = some e → (zipD ds es)[i]? = some (.tuple [d, e])
  | [], _, i, d, e, h, _ => by simp at h
  | _ :: _, [], i, d, e, _, h => by simp at h
  | a :: r, b :: s, 0, d, e, h1, h2 => by
    simp at h1 h2
    simp [zipD, h1, h2]
  | a :: r, b :: s, i + 1, d, e, h1, h2 => by
    simp at h1 h2
    simp [zipD]
    exact zipD_get r s i d e h1 h2
section
variable {X : Cx} {e e2 : Expr} {p pos tpos : Pos} {elts : List Expr} {kk : Nat} {S : List SD} {M : MS} {k : IK}
theorem ji_enum (hm : X.mg "enumerate" = none) (h : JA X [e] S M fun rs M1 => ∃ r ds, rs = [r] ∧ SrcD M1 r ds ∧ k (enumD 0 ds) (fun M' => SrcD M' r ds) M1) (hg : Gl X "enumerate" := by rfl) (hs : starEach [e] X.env = [(false, eval e X.env)] := by rfl) : JI X (.Tuple elts kk tpos) (.Call (.Name "enumerate" p) [e] [] pos) S M k := ⟨fun σ H B w s R hR => by
  refine of_pi (pi_enumS hg hm pa_w hs) ((h.run σ H B w s).mono fun vs H1 ⟨B1, rs, M1, st1, w1, ok1, r, ds, er, hd, h1⟩ => ?_)
  subst er
  obtain ⟨v, rfl, ok⟩ := slots1 ok1
  refine ⟨v, rfl, fun u hu => ?_⟩
  obtain ⟨kk, hk, hx, hat⟩ := hd.sk w1 ok u hu
  refine ⟨kk, hk, hx, hR (ItE X.K kk) H1 B1 M1 _ _ st1 w1 ⟨fun i B' H' M' hi bb w' g => ?_, fun B' H' M' bb w' g => ?_, fun i B' H' M' x H'' hi bb w' g y => ?_⟩ h1⟩
  · obtain ⟨xs, q1, q2⟩ := hat B' H' M' bb w' g
    rw [enumD_length] at hi
    exact ⟨xs, by rw [q2.length]; exact hi, q1⟩
  · obtain ⟨xs, q1, q2⟩ := hat B' H' M' bb w' g
    exact ⟨xs, by rw [q2.length, enumD_length], q1⟩
  · obtain ⟨xs, q1, q2⟩ := hat B' H' M' bb w' g
    obtain ⟨T, y0, rfl, hT, rfl, hy⟩ := y
    obtain ⟨d, hd', rd⟩ := q2.get (hy xs q1)
    obtain ⟨w2, st2⟩ := w'.new (o := .tup [.int (i : Nat), y0]) hT
    exact ⟨_, _, by rw [enumD_get, hd']; rfl, st2, w2, .tup (SqT.of upd_same) (.cons (by rw [Nat.zero_add]; exact .int _) (.cons (rd.le st2.bb) .nil))⟩⟩
theorem ji_zip (hm : X.mg "zip" = none) (h : JA X [e, e2] S M fun rs M1 => ∃ r r2 ds es, rs = [r, r2] ∧ SrcD M1 r ds ∧ SrcD M1 r2 es ∧ k (zipD ds es) (fun M' => SrcD M' r ds ∧ SrcD M' r2 es) M1) (hg : Gl X "zip" := by rfl) (hs : starEach [e, e2] X.env = (false, eval e X.env) :: starEach [e2] X.env := by rfl) (hpl : (backTo pos (starEach [e2] X.env)).any (·.1) = false := by rfl) : JI X (.Tuple elts kk tpos) (.Call (.Name "zip" p) [e, e2] [] pos) S M k := ⟨fun σ H B w s R hR => by
  refine of_pi (pi_zipS hg hm pa_w hs hpl) ((h.run σ H B w s).mono fun vs H1 ⟨B1, rs, M1, st1, w1, ok1, r, r2, ds, es, er, hd, he, h1⟩ => ?_)
  subst er
  obtain ⟨v, v2, rfl, ok, ok2⟩ := slots2 ok1
  refine ⟨v, v2, rfl, fun u hu => ?_⟩
  obtain ⟨k1, hk1, hx1, hat1⟩ := hd.sk w1 ok u hu
  refine ⟨k1, hk1, hx1, fun u2 hu2 => ?_⟩
  obtain ⟨k2, hk2, hx2, hat2⟩ := he.sk w1 ok2 u2 hu2
  refine ⟨k2, hk2, hx2, hR (ItZ X.K k1 k2) H1 B1 M1 _ _ st1 w1 ⟨fun i B' H' M' hi bb w' g => ?_, fun B' H' M' bb w' g => ?_, fun i B' H' M' x H'' hi bb w' g y => ?_⟩ h1⟩
  · obtain ⟨xs, q1, q2⟩ := hat1 B' H' M' bb w' g.1
    obtain ⟨ys, q3, q4⟩ := hat2 B' H' M' bb w' g.2
    rw [zipD_length] at hi
    exact ⟨xs, ys, by rw [q2.length]; omega, by rw [q4.length]; omega, q1, q3⟩
  · obtain ⟨xs, q1, q2⟩ := hat1 B' H' M' bb w' g.1
    obtain ⟨ys, q3, q4⟩ := hat2 B' H' M' bb w' g.2
    rw [zipD_length]
    exact ⟨xs, ys, by rw [q2.length]; omega, by rw [q4.length]; omega, by rw [q2.length, q4.length]; omega, q1, q3⟩
  · obtain ⟨xs, q1, q2⟩ := hat1 B' H' M' bb w' g.1
    obtain ⟨ys, q3, q4⟩ := hat2 B' H' M' bb w' g.2
    obtain ⟨T, x0, y0, rfl, hT, rfl, hx, hy⟩ := y
    obtain ⟨d, hd', rd⟩ := q2.get (hx xs q1)
    obtain ⟨e, he', re⟩ := q4.get (hy ys q3)
    obtain ⟨w2, st2⟩ := w'.new (o := .tup [x0, y0]) hT
    exact ⟨_, _, zipD_get _ _ _ _ _ hd' he', st2, w2, .tup (SqT.of upd_same) (.cons (rd.le st2.bb) (.cons (re.le st2.bb) .nil))⟩⟩
end
end DL
set_option Elab.async false
set_option linter.all false
set_option maxRecDepth 100000
set_option maxHeartbeats 4000000
/-! A functional layer: what an expression computes, told as a function of the slots and of a store of mutable objects; a mutable object is told by its number. -/
namespace DL
open PySem PySem.Spec PyProof.Rows L2
/-- nothing known; data; the k-th mutable object; a value as it is -/
inductive AV where
  | un | dat (d : PyData) | han (k : Nat) | kv (v : V)
abbrev AV.int (i : Int) : AV := .dat (.int i)
abbrev AV.bl (i : Bool) : AV := .dat (.bool i)
abbrev AV.str (i : Str) : AV := .dat (.str i)
abbrev AV.non : AV := .dat .none
abbrev Sto := List (Option MO)
inductive Cv (as : List Addr) : AV → SD → Prop
  | un : Cv as .un .un
  | dat {d : PyData} : Cv as (.dat d) (.dat d)
  | han {k : Nat} {a : Addr} : as[k]? = some a → Cv as (.han k) (.raw (.ref a))
  | kv {v : V} : Cv as (.kv v) (.raw v)
abbrev CvS (as : List Addr) : List AV → List SD → Prop := Paired (Cv as)
structure CM (as : List Addr) (st : Sto) (M : MS) : Prop where
  len : as.length = st.length
  mem : ∀ p, p ∈ M ↔ ∃ k : Nat, as[k]? = some p.1 ∧ st[k]? = some (some p.2)
  nd : (dom M).Nodup
  inj : ∀ (j k : Nat) a m m', as[j]? = some a → as[k]? = some a → st[j]? = some (some m) → st[k]? = some (some m') → j = k
theorem app_get {α : Type} {as bs : List α} {k : Nat} {a : α} (h : as[k]? = some a) : (as ++ bs)[k]? = some a := by
  rw [List.getElem?_append_left (List.getElem?_eq_some_iff.mp h).1]; exact h
theorem Cv.app {as : List Addr} (bs : List Addr) {v : AV} {r : SD} (h : Cv as v r) : Cv (as ++ bs) v r := by
  cases h with
  | un => exact .un
  | dat => exact .dat
  | han e => exact .han (app_get e)
  | kv => exact .kv
theorem Paired.impP {α β : Type} {F G : α → β → Prop} {l : List α} {r : List β} (h : Paired F l r) (q : ∀ a b, F a b → G a b) : Paired G l r := by
  induction h with
  | nil => exact .nil
  | cons h _ ih => exact .cons (q _ _ h) ih
theorem Paired.appP {α β : Type} {F : α → β → Prop} {l l' : List α} {r r' : List β} (h : Paired F l r) (q : Paired F l' r') : Paired F (l ++ l') (r ++ r') := by
  induction h with
  | nil => exact q
  | cons h _ ih => exact .cons h ih
theorem CvS.app {as : List Addr} (bs : List Addr) {v : List AV} {r : List SD} (h : CvS as v r) : CvS (as ++ bs) v r := Paired.impP h fun _ _ q => q.app bs
section
variable {as : List Addr} {st : Sto} {M : MS}
theorem CM.dom_iff (c : CM as st M) {a : Addr} : a ∈ dom M ↔ ∃ (k : Nat) (m : MO), as[k]? = some a ∧ st[k]? = some (some m) := by
  constructor
  · intro h
    obtain ⟨p, hp, rfl⟩ := List.mem_map.mp h
    obtain ⟨k, h1, h2⟩ := (c.mem p).mp hp
    exact ⟨k, p.2, h1, h2⟩
  · rintro ⟨k, m, h1, h2⟩
    exact List.mem_map.mpr ⟨(a, m), (c.mem _).mpr ⟨k, h1, h2⟩, rfl⟩
theorem CM.addr (c : CM as st M) {k : Nat} {x : Option MO} (h : st[k]? = some x) : ∃ a, as[k]? = some a := by
  have := (List.getElem?_eq_some_iff.mp h).1
  exact ⟨as[k]'(by rw [c.len]; exact this), List.getElem?_eq_getElem _⟩
theorem CM.idx (c : CM as st M) {k : Nat} {a : Addr} {m : MO} (h1 : as[k]? = some a) (h2 : st[k]? = some (some m)) : ∃ i : Nat, M[i]? = some (a, m) := by
  obtain ⟨i, hi, e⟩ := List.mem_iff_getElem.mp ((c.mem (a, m)).mpr ⟨k, h1, h2⟩)
  exact ⟨i, by rw [List.getElem?_eq_getElem hi, e]⟩
/-- a new object -/
theorem CM.new {p : Addr} {m : MO} (c : CM as st M) (np : p ∉ dom M) : CM (as ++ [p]) (st ++ [some m]) ((p, m) :: M) := by
  have hl := c.len
  have g : ∀ (k : Nat) (a : Addr) (x : MO), (as ++ [p])[k]? = some a → (st ++ [some m])[k]? = some (some x) → (as[k]? = some a ∧ st[k]? = some (some x)) ∨ (k = as.length ∧ a = p ∧ x = m) := fun k a x h1 h2 => by
    by_cases hk : k < as.length
    · rw [List.getElem?_append_left hk] at h1
      rw [List.getElem?_append_left (by omega)] at h2
      exact .inl ⟨h1, h2⟩
    · rw [List.getElem?_append_right (by omega)] at h1
      rw [List.getElem?_append_right (by omega)] at h2
      have e : k - as.length = 0 := by
        have := (List.getElem?_eq_some_iff.mp h1).1
        simp at this; omega
      rw [e] at h1
      rw [show k - st.length = 0 by omega] at h2
      simp at h1 h2
      exact .inr ⟨by omega, h1.symm, h2.symm⟩
  refine ⟨by simp [hl], fun q => ?_, List.nodup_cons.mpr ⟨np, c.nd⟩, fun j k a x y h1 h2 h3 h4 => ?_⟩
  · rw [List.mem_cons, c.mem]
    constructor
    · rintro (rfl | ⟨k, h1, h2⟩)
      · exact ⟨as.length, by simp, by rw [hl]; simp⟩
      · exact ⟨k, app_get h1, app_get h2⟩
    · rintro ⟨k, h1, h2⟩
      rcases g k _ _ h1 h2 with z | ⟨_, e1, e2⟩
      · exact .inr ⟨k, z⟩
      · exact .inl (Prod.ext e1 e2)
  · rcases g j _ _ h1 h3 with ⟨z1, z2⟩ | ⟨e1, e2, e3⟩ <;> rcases g k _ _ h2 h4 with ⟨y1, y2⟩ | ⟨f1, f2, f3⟩
    · exact c.inj j k a x y z1 y1 z2 y2
    · subst f2; exact absurd (c.dom_iff.mpr ⟨j, x, z1, z2⟩) np
    · subst e2; exact absurd (c.dom_iff.mpr ⟨k, y, y1, y2⟩) np
    · omega
/-- the k-th object is another one, or is no longer known -/
theorem CM.put {k : Nat} {a : Addr} {m : MO} {m' : Option MO} {M' : MS} (c : CM as st M) (h1 : as[k]? = some a) (h2 : st[k]? = some (some m)) (nd : (dom M').Nodup) (hm : ∀ p, p ∈ M' ↔ (∃ x, m' = some x ∧ p = (a, x)) ∨ (p ∈ M ∧ p.1 ≠ a)) : CM as (st.set k m') M' := by
  have hk := (List.getElem?_eq_some_iff.mp h2).1
  refine ⟨by rw [List.length_set]; exact c.len, fun p => ?_, nd, fun i j b x y e1 e2 e3 e4 => ?_⟩
  · rw [hm, c.mem]
    constructor
    · rintro (⟨x, rfl, rfl⟩ | ⟨⟨j, g1, g2⟩, hn⟩)
      · exact ⟨k, h1, by simp [hk]⟩
      · refine ⟨j, g1, ?_⟩
        rw [List.getElem?_set_ne (fun z => hn ?_)]
        · exact g2
        · subst z; rw [h1] at g1; cases g1; rfl
    · rintro ⟨j, g1, g2⟩
      by_cases e : k = j
      · subst e
        rw [h1] at g1
        rw [List.getElem?_set_self hk] at g2
        cases g1
        exact .inl ⟨p.2, by simpa using g2, rfl⟩
      · rw [List.getElem?_set_ne e] at g2
        exact .inr ⟨⟨j, g1, g2⟩, fun z => e (c.inj k j a _ _ h1 (z ▸ g1) h2 g2)⟩
  · by_cases e : k = i <;> by_cases f : k = j
    · omega
    · subst e
      rw [List.getElem?_set_ne f] at e4
      rw [h1] at e1; cases e1
      exact c.inj k j a _ _ h1 e2 h2 e4
    · subst f
      rw [List.getElem?_set_ne e] at e3
      rw [h1] at e2; cases e2
      exact c.inj i k a _ _ e1 h1 e3 h2
    · rw [List.getElem?_set_ne e] at e3
      rw [List.getElem?_set_ne f] at e4
      exact c.inj i j b _ _ e1 e2 e3 e4
theorem mem_set_iff {M : MS} {i : Nat} {a : Addr} {m m' : MO} (nd : (dom M).Nodup) (hi : M[i]? = some (a, m)) {p : Addr × MO} : p ∈ M.set i (a, m') ↔ p = (a, m') ∨ (p ∈ M ∧ p.1 ≠ a) := by
  refine ⟨mem_set nd hi, ?_⟩
  have hl := (List.getElem?_eq_some_iff.mp hi).1
  rintro (rfl | ⟨h1, h2⟩)
  · exact List.mem_iff_getElem.mpr ⟨i, by simpa using hl, by simp⟩
  · obtain ⟨j, hj, e⟩ := List.mem_iff_getElem.mp h1
    refine List.mem_iff_getElem.mpr ⟨j, by simpa using hj, ?_⟩
    rw [List.getElem_set_ne]
    · exact e
    · intro z
      subst z
      rw [List.getElem?_eq_getElem hl] at hi
      have e2 := Option.some.inj hi
      rw [e] at e2
      exact h2 (by rw [e2])
theorem CM.upd {k i : Nat} {a : Addr} {m m' : MO} (c : CM as st M) (h1 : as[k]? = some a) (h2 : st[k]? = some (some m)) (hi : M[i]? = some (a, m)) : CM as (st.set k (some m')) (M.set i (a, m')) :=
  c.put h1 h2 (by rw [dom_set hi]; exact c.nd) fun p => by rw [mem_set_iff c.nd hi]; simp
theorem mem_erase_iff {M : MS} {i : Nat} {a : Addr} {m : MO} (nd : (dom M).Nodup) (hi : M[i]? = some (a, m)) {p : Addr × MO} : p ∈ M.eraseIdx i ↔ p ∈ M ∧ p.1 ≠ a := by
  constructor
  · intro h
    refine ⟨(List.eraseIdx_sublist M i).subset h, fun z => nodup_other nd hi ?_⟩
    rw [← z]; exact List.mem_map.mpr ⟨p, h, rfl⟩
  · rintro ⟨h1, h2⟩
    obtain ⟨j, hj, e⟩ := List.mem_iff_getElem.mp h1
    refine List.mem_eraseIdx_iff_getElem?.mpr ⟨j, fun z => ?_, by rw [List.getElem?_eq_getElem hj, e]⟩
    subst z
    rw [List.getElem?_eq_getElem hj, e] at hi
    cases hi
    exact h2 rfl
theorem CM.kill {k i : Nat} {a : Addr} {m : MO} (c : CM as st M) (h1 : as[k]? = some a) (h2 : st[k]? = some (some m)) (hi : M[i]? = some (a, m)) : CM as (st.set k none) (M.eraseIdx i) :=
  c.put h1 h2 (c.nd.sublist ((List.eraseIdx_sublist M i).map _)) fun p => by rw [mem_erase_iff c.nd hi]; simp
end
/-! ### what is known behind -/
def Pst (as : List Addr) (st : Sto) (v : AV) : SD → MS → Prop := fun r M => ∃ bs, Cv (as ++ bs) v r ∧ CM (as ++ bs) st M
def PstS (as : List Addr) (st : Sto) (S : List AV) : List SD → MS → Prop := fun S' M => ∃ bs, CvS (as ++ bs) S S' ∧ CM (as ++ bs) st M
theorem Pst.app {as bs : List Addr} {st : Sto} {v : AV} {r : SD} {M : MS} (h : Pst (as ++ bs) st v r M) : Pst as st v r M := by
  obtain ⟨cs, h1, h2⟩ := h
  rw [List.append_assoc] at h1 h2
  exact ⟨_, h1, h2⟩
theorem PstS.app {as bs : List Addr} {st : Sto} {v : List AV} {r : List SD} {M : MS} (h : PstS (as ++ bs) st v r M) : PstS as st v r M := by
  obtain ⟨cs, h1, h2⟩ := h
  rw [List.append_assoc] at h1 h2
  exact ⟨_, h1, h2⟩
theorem Pst.here {as : List Addr} {st : Sto} {v : AV} {r : SD} {M : MS} (h1 : Cv as v r) (h2 : CM as st M) : Pst as st v r M := ⟨[], by rwa [List.append_nil], by rwa [List.append_nil]⟩
theorem PstS.here {as : List Addr} {st : Sto} {v : List AV} {r : List SD} {M : MS} (h1 : CvS as v r) (h2 : CM as st M) : PstS as st v r M := ⟨[], by rwa [List.append_nil], by rwa [List.append_nil]⟩
theorem bnd {α β : Type} {o : Option α} {f : α → Option β} {b : β} (h : o.bind f = some b) : ∃ a, o = some a ∧ f a = some b := Option.bind_eq_some_iff.mp h
/-! ### the judgements -/
abbrev DX := List AV → Sto → Option (AV × Sto)
abbrev DTt := List AV → Sto → Option (Bool × Sto)
abbrev DAs := List AV → Sto → Option (List AV × Sto)
structure SE (X : Cx) (e : Expr) (d : DX) : Prop where
  run : ∀ {S st r st'}, d S st = some (r, st') → ∀ {as S' M}, CvS as S S' → CM as st M → JE X e S' M (Pst as st' r)
structure ST (X : Cx) (e : Expr) (d : DTt) : Prop where
  run : ∀ {S st r st'}, d S st = some (r, st') → ∀ {as S' M}, CvS as S S' → CM as st M → JT X e S' M (fun b M' => b = r ∧ ∃ bs, CM (as ++ bs) st' M')
structure SW (X : Cx) (e : Expr) (d : DTt) : Prop where
  run : ∀ {S st r st'}, d S st = some (r, st') → ∀ {as S' M}, CvS as S S' → CM as st M → JW X e S' M (fun b M' => b = r ∧ ∃ bs, CM (as ++ bs) st' M')
structure SA (X : Cx) (es : List Expr) (d : DAs) : Prop where
  run : ∀ {S st r st'}, d S st = some (r, st') → ∀ {as S' M}, CvS as S S' → CM as st M → JA X es S' M (PstS as st' r)
section
variable {X : Cx} {e a b c : Expr} {es : List Expr} {pos p : Pos} {x : Str} {S : List AV} {st st' : Sto} {as : List Addr} {S' : List SD} {M : MS}
theorem SE.bind {d : DX} {r : AV} (h : SE X e d) (q : d S st = some (r, st')) (c : CvS as S S') (m : CM as st M) {R : SD → MS → Prop} (k : ∀ bs r' M1, Cv (as ++ bs) r r' → CvS (as ++ bs) S S' → CM (as ++ bs) st' M1 → R r' M1) : JE X e S' M R :=
  (h.run q c m).mono fun r' M1 ⟨bs, q1, q2⟩ => k bs r' M1 q1 (c.app bs) q2
theorem ST.bind {d : DTt} {r : Bool} (h : ST X e d) (q : d S st = some (r, st')) (c : CvS as S S') (m : CM as st M) {R : Bool → MS → Prop} (k : ∀ bs M1, CvS (as ++ bs) S S' → CM (as ++ bs) st' M1 → R r M1) : JT X e S' M R :=
  (h.run q c m).mono fun r' M1 ⟨e, bs, q2⟩ => e ▸ k bs M1 (c.app bs) q2
theorem JW.mono {X : Cx} {e : Expr} {S : List SD} {M : MS} {R R' : Bool → MS → Prop} (h : JW X e S M R) (q : ∀ r M', R r M' → R' r M') : JW X e S M R' := ⟨fun σ H B w s => (h.run σ H B w s).mono fun _ _ z => z.back .refl q⟩
theorem SW.bind {d : DTt} {r : Bool} (h : SW X e d) (q : d S st = some (r, st')) (c : CvS as S S') (m : CM as st M) {R : Bool → MS → Prop} (k : ∀ bs M1, CvS (as ++ bs) S S' → CM (as ++ bs) st' M1 → R r M1) : JW X e S' M R :=
  (h.run q c m).mono fun r' M1 ⟨e, bs, q2⟩ => e ▸ k bs M1 (c.app bs) q2
theorem SA.bind {d : DAs} {r : List AV} (h : SA X es d) (q : d S st = some (r, st')) (c : CvS as S S') (m : CM as st M) {R : List SD → MS → Prop} (k : ∀ bs r' M1, CvS (as ++ bs) r r' → CvS (as ++ bs) S S' → CM (as ++ bs) st' M1 → R r' M1) : JA X es S' M R :=
  (h.run q c m).mono fun r' M1 ⟨bs, q1, q2⟩ => k bs r' M1 q1 (c.app bs) q2
/-- the mutable objects are told apart -/
theorem JE.nd {S : List SD} {R : SD → MS → Prop} (h : JE X e S M (fun r M' => (dom M').Nodup → R r M')) : JE X e S M R := ⟨fun σ H B w s => (h.run σ H B w s).mono fun _ _ ⟨B', r, M', a, b, c, d⟩ => ⟨B', r, M', a, b, c, d b.nd⟩⟩
/-! ### names, constants -/
def dVar (i : Nat) : DX := fun S st => match S[i]? with
  | some .un => none
  | some v => some (v, st)
  | none => none
theorem se_var (i : Nat) (hN : X.N[i]? = some x := by rfl) (hv : Vis X.env.scope x := by first | exact Or.inl rfl | exact Or.inr (Or.inl rfl) | exact Or.inr (Or.inr rfl))
    (hd : (x == ("__debug__" : Str)) = false := by decide) (hcd : (x == ("__classdict__" : Str)) = false := by decide) : SE X (.Name x pos) (dVar i) := ⟨fun {S st r st'} e {as S' M} c m => by
  unfold dVar at e
  cases q : S[i]? with
  | none => rw [q] at e; cases e
  | some v =>
    obtain ⟨r', h1, h2⟩ := Paired.getL c q
    rw [q] at e
    cases v with
    | un => cases e
    | dat d => cases e; cases h2; exact je_var (i := i) (.here .dat m) h1 (fun z => nomatch z) hN hv hd hcd
    | han k => cases e; cases h2 with | han h2 => exact je_var (i := i) (.here (.han h2) m) h1 (fun z => nomatch z) hN hv hd hcd
    | kv d => cases e; cases h2; exact je_var (i := i) (.here .kv m) h1 (fun z => nomatch z) hN hv hd hcd⟩
def dK (d : PyData) : DX := fun _ st => some (.dat d, st)
theorem se_int {i : Int} {j} : SE X (.Constant (.int i) j pos) (dK (.int i)) := ⟨fun e _ _ _ _ m => by cases e; exact je_int (.here .dat m)⟩
theorem se_bl {i : Bool} {j} : SE X (.Constant (.bool i) j pos) (dK (.bool i)) := ⟨fun e _ _ _ _ m => by cases e; exact je_bl (.here .dat m)⟩
theorem se_str {i : Str} {j} : SE X (.Constant (.str i) j pos) (dK (.str i)) := ⟨fun e _ _ _ _ m => by cases e; exact je_str (.here .dat m)⟩
theorem se_non {j} : SE X (.Constant .none j pos) (dK .none) := ⟨fun e _ _ _ _ m => by cases e; exact je_non (.here .dat m)⟩
theorem se_glob {d : PyData} (g : GlobD X.K X.mg x (.dat d)) (hg : Gl X x := by rfl) (hd : (x == ("__debug__" : Str)) = false := by decide) : SE X (.Name x pos) (dK d) := ⟨fun e _ _ _ _ m => by cases e; exact je_glob g (.here .dat m) hg hd⟩
def dKv (v : V) : DX := fun _ st => some (.kv v, st)
theorem se_globV {v : V} (g : GlobD X.K X.mg x (.raw v)) (hg : Gl X x := by rfl) (hd : (x == ("__debug__" : Str)) = false := by decide) : SE X (.Name x pos) (dKv v) := ⟨fun e _ _ _ _ m => by cases e; exact je_glob g (.here .kv m) hg hd⟩
theorem se_type {T : String} (hm : X.mg x = none) (hv : bootBuiltins x = some (.type T)) (hg : Gl X x := by rfl) (hn : x ≠ "__name__" := by decide) (hd : (x == ("__debug__" : Str)) = false := by decide) : SE X (.Name x pos) (dKv (.ty T)) := ⟨fun e _ _ _ _ m => by cases e; exact je_type hm hv (.here .kv m) hg hn hd⟩
/-! ### reading -/
def rd (st : Sto) : AV → Option PyData
  | .dat d => some d
  | .han k => match st[k]? with
    | some (some (.lst ds)) => some (.list ds)
    | _ => none
  | _ => none
theorem rd_is {v : AV} {r : SD} {d : PyData} (h : rd st v = some d) (c : Cv as v r) (m : CM as st M) : IsD M r d := by
  cases c with
  | un => cases h
  | kv => cases h
  | dat => cases h; exact .dat
  | han e =>
    rename_i k a
    have h : (match st[k]? with
      | some (some (.lst ds)) => some (PyData.list ds)
      | _ => none) = some d := h
    cases q : st[k]? with
    | none => rw [q] at h; cases h
    | some o => cases o with
      | none => rw [q] at h; cases h
      | some o => cases o with
        | lst ds => rw [q] at h; cases h; exact .lst ((m.mem _).mpr ⟨k, e, q⟩)
        | dK _ => rw [q] at h; cases h
        | ob _ => rw [q] at h; cases h
theorem IsD.flatD {r : SD} {d : PyData} (h : IsD M r d) (n : ∀ ds, d ≠ .list ds) : r = .dat d := by
  cases h with
  | dat => rfl
  | lst _ => exact absurd rfl (n _)
/-! ### operators by values of data -/
def lift2 (g : PyData → PyData → Option PyData) : AV → AV → Sto → Option (AV × Sto) := fun a b st => (rd st a).bind fun x => (rd st b).bind fun y => (g x y).map fun z => (.dat z, st)
structure OF (X : Cx) (f : Value → Value → Sem Value) (g : PyData → PyData → Option PyData) : Prop where
  ex : ∀ x y z, g x y = some z → ∃ od, OpJ X f od ∧ ∀ M a b R, IsD M a x → IsD M b y → R (.dat z) M → od a b M R
def dBin (g : AV → AV → Sto → Option (AV × Sto)) (a b : DX) : DX := fun S st => (a S st).bind fun p => (b S p.2).bind fun q => g p.1 q.1 q.2
variable {da db dc : DX} {g g' : PyData → PyData → Option PyData}
theorem lift2_some {u v r : AV} (h : lift2 g u v st = some (r, st')) : ∃ x y z, rd st u = some x ∧ rd st v = some y ∧ g x y = some z ∧ r = .dat z ∧ st' = st := by
  obtain ⟨x, h1, h⟩ := bnd h
  obtain ⟨y, h2, h⟩ := bnd h
  obtain ⟨z, h3, h⟩ := Option.map_eq_some_iff.mp h
  cases h
  exact ⟨x, y, z, h1, h2, h3, rfl, rfl⟩
theorem se_bin {op : Operator} (o : OF X (binaryOp op) g) (ha : SE X a da) (hb : SE X b db) : SE X (.BinOp a op b pos) (dBin (lift2 g) da db) := ⟨fun e _ _ _ c m => by
  obtain ⟨⟨r1, st1⟩, e1, e⟩ := bnd e
  obtain ⟨⟨r2, st2⟩, e2, e⟩ := bnd e
  obtain ⟨x, y, z, h1, h2, h3, rfl, rfl⟩ := lift2_some e
  obtain ⟨od, o, ho⟩ := o.ex _ _ _ h3
  exact je_bin o (ha.bind e1 c m fun bs r1' M1 q1 c1 m1 => hb.bind e2 c1 m1 fun cs r2' M2 q2 c2 m2 => ho _ _ _ _ (rd_is h1 (q1.app cs) m2) (rd_is h2 q2 m2) (Pst.here .dat m2).app.app)⟩
theorem se_cmp {op : CmpOp} (o : OF X (compareOp op) g) (ha : SE X a da) (hb : SE X b db) (hm : behindInMarks op b = false := by first | exact nomark _ | rfl) : SE X (.Compare a [op] [b] pos) (dBin (lift2 g) da db) := ⟨fun e _ _ _ c m => by
  obtain ⟨⟨r1, st1⟩, e1, e⟩ := bnd e
  obtain ⟨⟨r2, st2⟩, e2, e⟩ := bnd e
  obtain ⟨x, y, z, h1, h2, h3, rfl, rfl⟩ := lift2_some e
  obtain ⟨od, o, ho⟩ := o.ex _ _ _ h3
  exact je_cmp o (ha.bind e1 c m fun bs r1' M1 q1 c1 m1 => hb.bind e2 c1 m1 fun cs r2' M2 q2 c2 m2 => ho _ _ _ _ (rd_is h1 (q1.app cs) m2) (rd_is h2 q2 m2) (Pst.here .dat m2).app.app) hm⟩
def asB (v : AV) : Option Bool := match v with
  | .dat (.bool b) => some b
  | _ => none
theorem asB_some {v : AV} {k : Bool} (h : asB v = some k) : v = .bl k := by
  unfold asB at h
  split at h
  · cases h; rfl
  · cases h
def tOf (d : DX) : DTt := fun S st => (d S st).bind fun p => (asB p.1).map fun k => (k, p.2)
theorem tOf_some {d : DX} {k : Bool} (h : tOf d S st = some (k, st')) : d S st = some (.bl k, st') := by
  obtain ⟨⟨v, st1⟩, e1, h⟩ := bnd h
  obtain ⟨k', e2, h⟩ := Option.map_eq_some_iff.mp h
  cases h
  have e3 : v = .bl k := asB_some e2
  rw [e1, e3]
theorem st_val {d : DX} (h : SE X e d) (he : ∀ whole, isTrue e X.env whole = (do let v ← whole; standAt e.pos; holding [v] (truthy v)) := by intro _; rfl) : ST X e (tOf d) := ⟨fun q _ _ _ c m => jt_val (h.bind (tOf_some q) c m fun bs r' M1 q1 c1 m1 => by
  cases q1
  exact ⟨_, rfl, rfl, bs, m1⟩) he⟩
theorem st_cmp {op : CmpOp} (o : OF X (compareOp op) g) (ha : SE X a da) (hb : SE X b db) (hm : behindInMarks op b = false := by first | exact nomark _ | rfl) : ST X (.Compare a [op] [b] pos) (tOf (dBin (lift2 g) da db)) := ⟨fun e _ _ _ c m => by
  have e := tOf_some e
  obtain ⟨⟨r1, st1⟩, e1, e⟩ := bnd e
  obtain ⟨⟨r2, st2⟩, e2, e⟩ := bnd e
  obtain ⟨x, y, z, h1, h2, h3, e3, rfl⟩ := lift2_some e
  obtain ⟨od, o, ho⟩ := o.ex _ _ _ h3
  cases e3
  exact jt_cmp o (ha.bind e1 c m fun bs r1' M1 q1 c1 m1 => hb.bind e2 c1 m1 fun cs r2' M2 q2 c2 m2 => ho _ _ _ _ (rd_is h1 (q1.app cs) m2) (rd_is h2 q2 m2) ⟨_, rfl, rfl, bs ++ cs, by rw [← List.append_assoc]; exact m2⟩) hm⟩
/-- a op b op' c -/
def dChain (g g' : PyData → PyData → Option PyData) (a b c : DX) : DX := fun S st => (a S st).bind fun p => (b S p.2).bind fun q => (lift2 g p.1 q.1 q.2).bind fun r => match r.1 with
  | .dat (.bool true) => (c S r.2).bind fun t => lift2 g' q.1 t.1 t.2
  | .dat (.bool false) => some (.bl false, r.2)
  | _ => none
theorem op_no {f : Value → Value → Sem Value} : OpR X f (fun _ _ _ _ => False) := fun _ _ _ _ _ _ _ _ _ _ _ _ h => h.elim
theorem chainF {op op' : CmpOp} {r : AV} (o : OF X (compareOp op) g) (o' : OF X (compareOp op') g')
    (ha : SE X a da) (hb : SE X b db) (hc : SE X c dc) (e : dChain g g' da db dc S st = some (r, st')) (cv : CvS as S S') (m : CM as st M) :
    ∃ od od', OpJ X (compareOp op) od ∧ OpJ X (compareOp op') od' ∧ ∀ {R : SD → MS → Prop}, (∀ r' M', Pst as st' r r' M' → R r' M') →
    JE X a S' M fun r1 M1 => JE X b S' M1 fun r2 M2 => od r1 r2 M2 (isB fun k M3 => if k = true then JE X c S' M3 fun r3 M4 => od' r2 r3 M4 R else R (.bl false) M3) := by
  obtain ⟨⟨r1, st1⟩, e1, e⟩ := bnd e
  obtain ⟨⟨r2, st2⟩, e2, e⟩ := bnd e
  obtain ⟨⟨r3, st3⟩, e3, e⟩ := bnd e
  obtain ⟨x, y, z, h1, h2, h3, rfl, rfl⟩ := lift2_some e3
  obtain ⟨od, o, ho⟩ := o.ex _ _ _ h3
  cases z with
  | bool k => cases k with
    | false =>
      cases e
      refine ⟨od, fun _ _ _ _ => False, o, ⟨_, op_no, fun _ _ _ _ _ _ _ _ _ _ _ _ h => h.elim⟩, fun {R} hR => ha.bind e1 cv m fun bs r1' M1 q1 c1 m1 => hb.bind e2 c1 m1 fun cs r2' M2 q2 c2 m2 => ho _ _ _ _ (rd_is h1 (q1.app cs) m2) (rd_is h2 q2 m2) ⟨false, rfl, ?_⟩⟩
      show (if false = true then _ else _)
      rw [if_neg Bool.false_ne_true]
      exact hR _ _ (Pst.here .dat m2).app.app
    | true =>
      obtain ⟨⟨r4, st4⟩, e4, e⟩ := bnd e
      obtain ⟨x', y', z', h1', h2', h3', rfl, rfl⟩ := lift2_some e
      obtain ⟨od', o', ho'⟩ := o'.ex _ _ _ h3'
      refine ⟨od, od', o, o', fun {R} hR => ha.bind e1 cv m fun bs r1' M1 q1 c1 m1 => hb.bind e2 c1 m1 fun cs r2' M2 q2 c2 m2 => ho _ _ _ _ (rd_is h1 (q1.app cs) m2) (rd_is h2 q2 m2) ⟨true, rfl, ?_⟩⟩
      show (if true = true then _ else _)
      rw [if_pos rfl]
      exact hc.bind e4 c2 m2 fun ds r4' M4 q4 c4 m4 => ho' _ _ _ _ (rd_is h1' (q2.app ds) m4) (rd_is h2' q4 m4) (hR _ _ (Pst.here .dat m4).app.app.app)
  | _ => cases e
theorem se_chain {op op' : CmpOp} (o : OF X (compareOp op) g) (o' : OF X (compareOp op') g') (ha : SE X a da) (hb : SE X b db) (hc : SE X c dc) (hm : lastMarks [op, op'] [b, c] = false := by with_unfolding_all rfl) : SE X (.Compare a [op, op'] [b, c] pos) (dChain g g' da db dc) := ⟨fun e _ _ _ cv m => by
  obtain ⟨od, od', o1, o2, h⟩ := chainF o o' ha hb hc e cv m
  exact je_chain o1 o2 (h fun _ _ q => q) hm⟩
theorem st_chain {op op' : CmpOp} (o : OF X (compareOp op) g) (o' : OF X (compareOp op') g') (ha : SE X a da) (hb : SE X b db) (hc : SE X c dc) (hm : lastMarks [op, op'] [b, c] = false := by with_unfolding_all rfl) : ST X (.Compare a [op, op'] [b, c] pos) (tOf (dChain g g' da db dc)) := ⟨fun e _ _ _ cv m => by
  obtain ⟨od, od', o1, o2, h⟩ := chainF o o' ha hb hc (tOf_some e) cv m
  exact jt_chain o1 o2 (h (R := isB _) fun r' M' ⟨bs, q1, q2⟩ => by
    cases q1
    exact ⟨_, rfl, rfl, bs, q2⟩) hm⟩
/-! ### not, and, or -/
variable {ta tb tc : DTt}
def tNot (a : DTt) : DTt := fun S st => (a S st).map fun p => (!p.1, p.2)
def tAnd (a b : DTt) : DTt := fun S st => (a S st).bind fun p => match p.1 with
  | true => b S p.2
  | false => some (false, p.2)
def tOr (a b : DTt) : DTt := fun S st => (a S st).bind fun p => match p.1 with
  | true => some (true, p.2)
  | false => b S p.2
def dOfT (a : DTt) : DX := fun S st => (a S st).map fun p => (.bl p.1, p.2)
def dAnd (a b : DX) : DX := fun S st => (tOf a S st).bind fun p => match p.1 with
  | true => b S p.2
  | false => some (.bl false, p.2)
def dOr (a b : DX) : DX := fun S st => (tOf a S st).bind fun p => match p.1 with
  | true => some (.bl true, p.2)
  | false => b S p.2
def dIf (t : DTt) (a b : DX) : DX := fun S st => (t S st).bind fun p => match p.1 with
  | true => a S p.2
  | false => b S p.2
theorem st_not (h : ST X a ta) : ST X (.UnaryOp .Not a pos) (tNot ta) := ⟨fun e _ _ _ c m => by
  obtain ⟨⟨k, st1⟩, e1, e⟩ := Option.map_eq_some_iff.mp e
  cases e
  exact jt_not (h.bind e1 c m fun bs M1 _ m1 => ⟨rfl, bs, m1⟩)⟩
theorem st_bool {op : BoolOp} (h : SW X (.BoolOp op es pos) ta) : ST X (.BoolOp op es pos) ta := ⟨fun e _ _ _ c m => jt_bool (h.run e c m)⟩
theorem sw_and1 (h : ST X a ta) : SW X (.BoolOp .And [a] pos) ta := ⟨fun e _ _ _ c m => jw_and1 (h.run e c m)⟩
theorem sw_or1 (h : ST X a ta) : SW X (.BoolOp .Or [a] pos) ta := ⟨fun e _ _ _ c m => jw_or1 (h.run e c m)⟩
theorem sw_and {rest : List Expr} (h : ST X a ta) (h2 : SW X (.BoolOp .And (b :: rest) pos) tb) : SW X (.BoolOp .And (a :: b :: rest) pos) (tAnd ta tb) := ⟨fun e _ _ _ c m => by
  obtain ⟨⟨k, st1⟩, e1, e⟩ := bnd e
  refine jw_and (h.bind e1 c m fun bs M1 c1 m1 => ?_)
  cases k with
  | false => cases e; exact ⟨rfl, bs, m1⟩
  | true => exact h2.bind e c1 m1 fun cs M2 c2 m2 => ⟨rfl, bs ++ cs, by rw [← List.append_assoc]; exact m2⟩⟩
theorem sw_or {rest : List Expr} (h : ST X a ta) (h2 : SW X (.BoolOp .Or (b :: rest) pos) tb) : SW X (.BoolOp .Or (a :: b :: rest) pos) (tOr ta tb) := ⟨fun e _ _ _ c m => by
  obtain ⟨⟨k, st1⟩, e1, e⟩ := bnd e
  refine jw_or (h.bind e1 c m fun bs M1 c1 m1 => ?_)
  cases k with
  | true => cases e; exact ⟨rfl, bs, m1⟩
  | false => exact h2.bind e c1 m1 fun cs M2 c2 m2 => ⟨rfl, bs ++ cs, by rw [← List.append_assoc]; exact m2⟩⟩
theorem se_one {op : BoolOp} (h : SE X a da) : SE X (.BoolOp op [a] pos) da := ⟨fun e _ _ _ c m => je_one (h.run e c m)⟩
theorem se_and {rest : List Expr} (h : SE X a da) (h2 : SE X (.BoolOp .And (b :: rest) pos) db) : SE X (.BoolOp .And (a :: b :: rest) pos) (dAnd da db) := ⟨fun e _ _ _ c m => by
  obtain ⟨⟨k, st1⟩, e1, e⟩ := bnd e
  refine je_and (h.bind (tOf_some e1) c m fun bs r1 M1 q1 c1 m1 => ?_)
  cases q1
  refine ⟨k, rfl, ?_⟩
  cases k with
  | false => cases e; exact ⟨bs, .dat, m1⟩
  | true => exact h2.bind e c1 m1 fun cs r2 M2 q2 c2 m2 => ⟨bs ++ cs, by rw [← List.append_assoc]; exact q2, by rw [← List.append_assoc]; exact m2⟩⟩
theorem se_or {rest : List Expr} (h : SE X a da) (h2 : SE X (.BoolOp .Or (b :: rest) pos) db) : SE X (.BoolOp .Or (a :: b :: rest) pos) (dOr da db) := ⟨fun e _ _ _ c m => by
  obtain ⟨⟨k, st1⟩, e1, e⟩ := bnd e
  refine je_or (h.bind (tOf_some e1) c m fun bs r1 M1 q1 c1 m1 => ?_)
  cases q1
  refine ⟨k, rfl, ?_⟩
  cases k with
  | true => cases e; exact ⟨bs, .dat, m1⟩
  | false => exact h2.bind e c1 m1 fun cs r2 M2 q2 c2 m2 => ⟨bs ++ cs, by rw [← List.append_assoc]; exact q2, by rw [← List.append_assoc]; exact m2⟩⟩
def dNot (a : DX) : DX := dOfT (tNot (tOf a))
theorem se_not (h : SE X a da) : SE X (.UnaryOp .Not a pos) (dNot da) := ⟨fun e _ _ _ c m => by
  obtain ⟨⟨k, st1⟩, e1, e⟩ := Option.map_eq_some_iff.mp e
  obtain ⟨⟨k', st2⟩, e2, e3⟩ := Option.map_eq_some_iff.mp e1
  cases e
  cases e3
  exact je_not (h.bind (tOf_some e2) c m fun bs r1 M1 q1 c1 m1 => by
    cases q1
    exact ⟨k', rfl, bs, .dat, m1⟩)⟩
def dNeg (a : DX) : DX := fun S st => (a S st).bind fun p => match p.1 with
  | .dat (.int i) => some (.int (-i), p.2)
  | _ => none
theorem se_neg (h : SE X a da) : SE X (.UnaryOp .USub a pos) (dNeg da) := ⟨fun e _ _ _ c m => by
  obtain ⟨⟨v, st1⟩, e1, e⟩ := bnd e
  refine je_neg (h.bind e1 c m fun bs r1 M1 q1 c1 m1 => ?_)
  cases v with
  | dat d => cases d with
    | int i => cases e; cases q1; exact ⟨i, rfl, bs, .dat, m1⟩
    | _ => cases e
  | _ => cases e⟩
theorem se_if (ht : ST X c tc) (ha : SE X a da) (hb : SE X b db) : SE X (.IfExp c a b pos) (dIf tc da db) := ⟨fun e _ _ _ cv m => by
  obtain ⟨⟨k, st1⟩, e1, e⟩ := bnd e
  refine je_if (ht.bind e1 cv m fun bs M1 c1 m1 => ?_)
  cases k with
  | true => exact ha.bind e c1 m1 fun cs r2 M2 q2 c2 m2 => ⟨bs ++ cs, by rw [← List.append_assoc]; exact q2, by rw [← List.append_assoc]; exact m2⟩
  | false => exact hb.bind e c1 m1 fun cs r2 M2 q2 c2 m2 => ⟨bs ++ cs, by rw [← List.append_assoc]; exact q2, by rw [← List.append_assoc]; exact m2⟩⟩
end
end DL
set_option Elab.async false
set_option linter.all false
set_option maxRecDepth 100000
set_option maxHeartbeats 4000000
namespace DL
open PySem PySem.Spec PyProof.Rows L2
def noList : PyData → Bool
  | .list _ => false
  | _ => true
theorem IsD.un {M : MS} {r : SD} {d : PyData} (h : IsD M r d) (n : noList d = true) : r = .dat d := h.flatD fun ds e => by rw [e] at n; cases n
/-! ### operators -/
section
variable {X : Cx}
def gInt (f : Int → Int → Option PyData) : PyData → PyData → Option PyData
  | .int i, .int j => f i j
  | _, _ => none
theorem gInt_some {f : Int → Int → Option PyData} {x y z : PyData} (h : gInt f x y = some z) : ∃ i j, x = .int i ∧ y = .int j ∧ f i j = some z := by
  unfold gInt at h
  split at h
  · exact ⟨_, _, rfl, rfl, h⟩
  · cases h
theorem ofI {f : Value → Value → Sem Value} {g : Int → Int → PyData} (o : OpJ X f (oI fun i j => .dat (g i j))) : OF X f (gInt fun i j => some (g i j)) := ⟨fun x y z h => by
  obtain ⟨i, j, rfl, rfl, h⟩ := gInt_some h
  cases h
  exact ⟨_, o, fun M a b R h1 h2 q => by
    rw [h1.un rfl, h2.un rfl]
    exact q⟩⟩
theorem ofIc {f : Value → Value → Sem Value} {C : Int → Int → Prop} [∀ i j, Decidable (C i j)] {g : Int → Int → PyData} (o : OpJ X f (oIc C fun i j => .dat (g i j))) : OF X f (gInt fun i j => if C i j then some (g i j) else none) := ⟨fun x y z h => by
  obtain ⟨i, j, rfl, rfl, h0⟩ := gInt_some h
  clear h
  split at h0
  · cases h0
    exact ⟨_, o, fun M a b R h1 h2 q => by
      rw [h1.un rfl, h2.un rfl]
      exact ⟨by assumption, q⟩⟩
  · cases h0⟩
def gAdd : PyData → PyData → Option PyData
  | .int i, .int j => some (.int (i + j))
  | .tuple xs, .tuple ys => if xs.length + ys.length ≤ 1000000 then some (.tuple (xs ++ ys)) else none
  | .list xs, .list ys => if xs.length + ys.length ≤ 1000000 then some (.list (xs ++ ys)) else none
  | _, _ => none
theorem of_add : OF X (binaryOp .Add) gAdd := ⟨fun x y z h => by
  unfold gAdd at h
  split at h
  · cases h
    exact ⟨_, oj_add, fun M a b R h1 h2 q => by rw [h1.un rfl, h2.un rfl]; exact q⟩
  · split at h
    · cases h
      exact ⟨_, oj_addT, fun M a b R h1 h2 q => by rw [h1.un rfl, h2.un rfl]; exact ⟨by assumption, q⟩⟩
    · cases h
  · split at h
    · cases h
      exact ⟨_, oj_addL, fun M a b R h1 h2 q => ⟨_, _, h1, h2, by assumption, q⟩⟩
    · cases h
  · cases h⟩
abbrev gSub := gInt fun i j => some (.int (i - j))
theorem of_sub : OF X (binaryOp .Sub) gSub := ofI oj_sub
instance (i j : Int) : Decidable (CMulW i j) := by unfold CMulW; infer_instance
instance (i j : Int) : Decidable (CDivW i j) := by unfold CDivW; infer_instance
instance (i j : Int) : Decidable (CPowW i j) := by unfold CPowW; infer_instance
abbrev gMulI := gInt fun i j => if CMulW i j then some (.int (i * j)) else none
theorem of_mulI : OF X (binaryOp .Mult) gMulI := ofIc oj_mul
abbrev gFdiv := gInt fun i j => if CDivW i j then some (.int (i / j)) else none
theorem of_fdiv : OF X (binaryOp .FloorDiv) gFdiv := ofIc oj_fdiv
abbrev gMod := gInt fun i j => if (fun _ j => 0 < j : Int → Int → Prop) i j then some (.int (i % j)) else none
theorem of_mod : OF X (binaryOp .Mod) gMod := @ofIc X _ (fun _ j => 0 < j) (fun _ j => (inferInstance : Decidable (0 < j))) _ oj_mod
abbrev gPow := gInt fun i j => if CPowW i j then some (.int (i ^ j.toNat)) else none
theorem of_pow : OF X (binaryOp .Pow) gPow := ofIc oj_pow
abbrev gLt := gInt fun i j => some (.bool (decide (i < j)))
abbrev gLe := gInt fun i j => some (.bool (decide (i ≤ j)))
abbrev gGt := gInt fun i j => some (.bool (decide (j < i)))
abbrev gGe := gInt fun i j => some (.bool (decide (j ≤ i)))
theorem of_lt : OF X (compareOp .Lt) gLt := ofI oj_lt
theorem of_le : OF X (compareOp .LtE) gLe := ofI oj_le
theorem of_gt : OF X (compareOp .Gt) gGt := ofI oj_gt
theorem of_ge : OF X (compareOp .GtE) gGe := ofI oj_ge
/-- == -/
def gEq (neg : Bool) : PyData → PyData → Option PyData
  | .int i, .int j => some (.bool (if neg then !decide (i = j) else decide (i = j)))
  | .str i, .str j => some (.bool (if neg then !decide (i = j) else decide (i = j)))
  | .bool i, .bool j => some (.bool (if neg then !decide (i = j) else decide (i = j)))
  | .tuple xs, .tuple [] => if neg then (if SeqAt.shaped (.tuple xs) then some (.bool (!PyData.eqv (.tuple xs) (.tuple []))) else none) else some (.bool xs.isEmpty)
  | d, e => if SeqAt.shaped d && SeqAt.shaped e then some (.bool (if neg then !PyData.eqv d e else PyData.eqv d e)) else none
theorem op_eqNil (hu : X.A.units + 64 < cLine) : OpR X (compareOp .Eq) (fun x y H Q => ∃ a b xs, x = .ref a ∧ y = .ref b ∧ SqT X.K H a xs ∧ SqT X.K H b [] ∧ Q (.bl xs.isEmpty) H) := by
  intro pins s σ H x y v u Q I rx ry h
  obtain ⟨a, b, xs, rfl, rfl, ha, hb, q⟩ := h
  cases rx
  cases ry
  obtain ⟨its, r1, p1, _⟩ := I.tuple ha
  obtain ⟨its2, r2, p2, _⟩ := I.tuple hb
  cases r2
  refine SeqAt.eq_tupleAt (e := fun _ => true) p1 p2 (by omega) (fun j h1 h2 => absurd h2 (by simp)) ?_
  refine ⟨.bl xs.isEmpty, H, I, ?_, q⟩
  have hl := r1.length
  cases xs with
  | nil => cases r1; rfl
  | cons z zs =>
    cases r1
    rfl
abbrev oEqNil : OD := fun a b M R => ∃ xs, a = .dat (.tuple xs) ∧ b = .dat (.tuple []) ∧ R (.bl xs.isEmpty) M
theorem oj_eqNil (hu : X.A.units + 64 < cLine) : OpJ X (compareOp .Eq) oEqNil := ⟨_, op_eqNil hu, fun B H M a b R x y Q w oa ob h hq => by
  obtain ⟨xs, rfl, rfl, h⟩ := h
  obtain ⟨p, us, rfl, hp, ra⟩ := oa.dat.inv_tup
  obtain ⟨q, ws, rfl, hq', rb⟩ := ob.dat.inv_tup
  cases rb
  refine ⟨p, q, us, rfl, rfl, sqt_le w.le hp, sqt_le w.le hq', ?_⟩
  have e : us.isEmpty = xs.isEmpty := by cases ra <;> rfl
  rw [e]
  exact hq _ _ (.here w (.of (.bl _)) h)⟩
theorem of_eqN {neg : Bool} {f : Value → Value → Sem Value} (o1 : OpJ X f (oEqS neg)) (o2 : OpJ X f (oEqD neg)) (o3 : neg = false → OpJ X f oEqNil) : OF X f (gEq neg) := ⟨fun x y z h => by
  unfold gEq at h
  split at h
  · cases h
    exact ⟨_, o1, fun M a b R h1 h2 q => by rw [h1.un rfl, h2.un rfl]; exact q⟩
  · cases h
    exact ⟨_, o1, fun M a b R h1 h2 q => by rw [h1.un rfl, h2.un rfl]; exact q⟩
  · cases h
    exact ⟨_, o1, fun M a b R h1 h2 q => by rw [h1.un rfl, h2.un rfl]; exact q⟩
  · rename_i xs
    cases neg with
    | true =>
      rw [if_pos rfl] at h
      split at h
      · rename_i hs
        cases h
        exact ⟨_, o2, fun M a b R h1 h2 q => ⟨_, _, h1, h2, hs, by decide, q⟩⟩
      · cases h
    | false =>
      rw [if_neg Bool.false_ne_true] at h
      cases h
      exact ⟨_, o3 rfl, fun M a b R h1 h2 q => ⟨xs, h1.un rfl, h2.un rfl, q⟩⟩
  · split at h
    · rename_i hs
      cases h
      have hs := Bool.and_eq_true_iff.mp hs
      exact ⟨_, o2, fun M a b R h1 h2 q => ⟨_, _, h1, h2, hs.1, hs.2, q⟩⟩
    · cases h⟩
abbrev SysM (K : Frag) : Prop := ∃ om, K.lookup sysModules = some om ∧ om.cls = .type "dict"
theorem of_eq (sm : SysM X.K) (hu : X.A.units + 64 < cLine) : OF X (compareOp .Eq) (gEq false) := of_eqN oj_eqS (oj_eqD sm hu) fun _ => oj_eqNil hu
theorem of_ne (sm : SysM X.K) (hu : X.A.units + 64 < cLine) : OF X (compareOp .NotEq) (gEq true) := of_eqN oj_neS (oj_neD sm hu) fun e => nomatch e
/-- is -/
def gIs (neg : Bool) : PyData → PyData → Option PyData
  | .bool i, .bool j => some (.bool (if neg then !decide (i = j) else decide (i = j)))
  | d, .none => some (.bool (if neg then !isNone d else isNone d))
  | _, _ => none
theorem oj_isB : OpJ X (compareOp .Is) (oIsB false) := ⟨_, op_is_bl, fun B H M a b R x y Q w oa ob h hq => by
  cases a with
  | dat d => cases b with
    | dat e => cases d with
      | bool i => cases e with
        | bool j =>
          obtain rfl := oa.dat.inv_bl
          obtain rfl := ob.dat.inv_bl
          exact ⟨i, j, rfl, rfl, hq _ _ (.here w (.of (.bl _)) h)⟩
        | _ => exact h.elim
      | _ => exact h.elim
    | _ => cases d <;> exact h.elim
  | _ => exact h.elim⟩
theorem oj_isnotB : OpJ X (compareOp .IsNot) (oIsB true) := ⟨_, op_isnot_bl, fun B H M a b R x y Q w oa ob h hq => by
  cases a with
  | dat d => cases b with
    | dat e => cases d with
      | bool i => cases e with
        | bool j =>
          obtain rfl := oa.dat.inv_bl
          obtain rfl := ob.dat.inv_bl
          exact ⟨i, j, rfl, rfl, hq _ _ (.here w (.of (.bl _)) h)⟩
        | _ => exact h.elim
      | _ => exact h.elim
    | _ => cases d <;> exact h.elim
  | _ => exact h.elim⟩
theorem of_isN {neg : Bool} {f : Value → Value → Sem Value} (o1 : OpJ X f (oIsN neg)) (o2 : OpJ X f (oIsB neg)) (o3 : OpJ X f fun a b M R => (∃ ds, IsD M a (.list ds)) ∧ b = .non ∧ R (.bl neg) M) : OF X f (gIs neg) := ⟨fun x y z h => by
  unfold gIs at h
  split at h
  · cases h
    exact ⟨_, o2, fun M a b R h1 h2 q => by rw [h1.un rfl, h2.un rfl]; exact q⟩
  · cases h
    cases x with
    | list ds => exact ⟨_, o3, fun M a b R h1 h2 q => ⟨⟨_, h1⟩, h2.un rfl, by cases neg <;> exact q⟩⟩
    | _ => exact ⟨_, o1, fun M a b R h1 h2 q => by rw [h1.un rfl, h2.un rfl]; exact q⟩
  · cases h⟩
theorem of_is : OF X (compareOp .Is) (gIs false) := of_isN oj_isN oj_isB ⟨_, op_isN, fun B H M a b R x y Q w oa ob h hq => by
  obtain ⟨⟨ds, h1⟩, rfl, h⟩ := h
  obtain ⟨p, xs, rfl, _, _⟩ := h1.items w oa
  exact ⟨ob.dat.inv_non, hq _ _ (.here w (.of (.bl _)) (by simpa using h))⟩⟩
theorem of_isnot : OF X (compareOp .IsNot) (gIs true) := of_isN oj_notN oj_isnotB ⟨_, op_notN, fun B H M a b R x y Q w oa ob h hq => by
  obtain ⟨⟨ds, h1⟩, rfl, h⟩ := h
  obtain ⟨p, xs, rfl, _, _⟩ := h1.items w oa
  exact ⟨ob.dat.inv_non, hq _ _ (.here w (.of (.bl _)) (by simpa using h))⟩⟩
/-- in -/
def intsOf : List PyData → Option (List Int)
  | [] => some []
  | .int i :: r => (intsOf r).map (i :: ·)
  | _ :: _ => none
def strsOf : List PyData → Option (List Str)
  | [] => some []
  | .str i :: r => (strsOf r).map (i :: ·)
  | _ :: _ => none
def blsOf : List PyData → Option (List Bool)
  | [] => some []
  | .bool i :: r => (blsOf r).map (i :: ·)
  | _ :: _ => none
theorem intsOf_some : ∀ {ds : List PyData} {ns : List Int}, intsOf ds = some ns → ds = ns.map PyData.int
  | [], ns, h => by cases h; rfl
  | .int i :: r, ns, h => by
    obtain ⟨ms, h1, rfl⟩ := Option.map_eq_some_iff.mp (show (intsOf r).map (i :: ·) = some ns from h)
    rw [intsOf_some h1]; rfl
  | .none :: _, _, h => by cases h
  | .bool _ :: _, _, h => by cases h
  | .str _ :: _, _, h => by cases h
  | .list _ :: _, _, h => by cases h
  | .tuple _ :: _, _, h => by cases h
  | .dict _ :: _, _, h => by cases h
theorem strsOf_some : ∀ {ds : List PyData} {ns : List Str}, strsOf ds = some ns → ds = ns.map PyData.str
  | [], ns, h => by cases h; rfl
  | .str i :: r, ns, h => by
    obtain ⟨ms, h1, rfl⟩ := Option.map_eq_some_iff.mp (show (strsOf r).map (i :: ·) = some ns from h)
    rw [strsOf_some h1]; rfl
  | .none :: _, _, h => by cases h
  | .bool _ :: _, _, h => by cases h
  | .int _ :: _, _, h => by cases h
  | .list _ :: _, _, h => by cases h
  | .tuple _ :: _, _, h => by cases h
  | .dict _ :: _, _, h => by cases h
theorem blsOf_some : ∀ {ds : List PyData} {ns : List Bool}, blsOf ds = some ns → ds = ns.map PyData.bool
  | [], ns, h => by cases h; rfl
  | .bool i :: r, ns, h => by
    obtain ⟨ms, h1, rfl⟩ := Option.map_eq_some_iff.mp (show (blsOf r).map (i :: ·) = some ns from h)
    rw [blsOf_some h1]; rfl
  | .none :: _, _, h => by cases h
  | .str _ :: _, _, h => by cases h
  | .int _ :: _, _, h => by cases h
  | .list _ :: _, _, h => by cases h
  | .tuple _ :: _, _, h => by cases h
  | .dict _ :: _, _, h => by cases h
def itemsD : PyData → Option (List PyData)
  | .list ds => some ds
  | .tuple ds => some ds
  | _ => none
theorem itemsD_seq {M : MS} {r : SD} {d : PyData} {ds : List PyData} (h : itemsD d = some ds) (q : IsD M r d) : SeqD M r ds := by
  cases d with
  | list xs => cases h; exact .lst q
  | tuple xs => cases h; rw [q.un rfl]; exact .tup
  | _ => cases h
def gIn (neg : Bool) : PyData → PyData → Option PyData
  | .int n, y => ((itemsD y).bind intsOf).map fun ns => .bool (if neg then !decide (n ∈ ns) else decide (n ∈ ns))
  | .str n, y => ((itemsD y).bind strsOf).map fun ns => .bool (if neg then !decide (n ∈ ns) else decide (n ∈ ns))
  | _, _ => none
theorem of_inN {neg : Bool} {f : Value → Value → Sem Value} (o1 : OpJ X f (oInI neg)) (o2 : OpJ X f (oInS neg)) : OF X f (gIn neg) := ⟨fun x y z h => by
  unfold gIn at h
  split at h
  · obtain ⟨ns, h5, rfl⟩ := Option.map_eq_some_iff.mp h
    obtain ⟨ds, h3, h4⟩ := bnd h5
    rw [intsOf_some h4] at h3
    exact ⟨_, o1, fun M a b R h1 h2 q => ⟨_, ns, h1.un rfl, itemsD_seq h3 h2, q⟩⟩
  · obtain ⟨ns, h5, rfl⟩ := Option.map_eq_some_iff.mp h
    obtain ⟨ds, h3, h4⟩ := bnd h5
    rw [strsOf_some h4] at h3
    exact ⟨_, o2, fun M a b R h1 h2 q => ⟨_, ns, h1.un rfl, itemsD_seq h3 h2, q⟩⟩
  · cases h⟩
theorem of_in : OF X (compareOp .In) (gIn false) := of_inN oj_inI oj_inS
theorem of_notin : OF X (compareOp .NotIn) (gIn true) := of_inN oj_ninI oj_ninS
end
/-! ### arguments, displays -/
section
variable {X : Cx} {e a b c : Expr} {es : List Expr} {pos p p2 : Pos} {x : Str} {da db dc : DX} {ds : DAs}
def aNil : DAs := fun _ st => some ([], st)
def aCons (d : DX) (r : DAs) : DAs := fun S st => (d S st).bind fun p => (r S p.2).map fun q => (p.1 :: q.1, q.2)
theorem sa_nil : SA X [] aNil := ⟨fun e _ _ _ c m => by cases e; exact ja_nil (PstS.here .nil m)⟩
theorem sa_cons (h : SE X e da) (t : SA X es ds) (hs : starEach (e :: es) X.env = (false, eval e X.env) :: starEach es X.env := by rfl) : SA X (e :: es) (aCons da ds) := ⟨fun e _ _ _ c m => by
  obtain ⟨⟨v, st1⟩, e1, e⟩ := bnd e
  obtain ⟨⟨vs, st2⟩, e2, e⟩ := Option.map_eq_some_iff.mp e
  cases e
  exact ja_cons (h.bind e1 c m fun bs r' M1 q1 c1 m1 => t.bind e2 c1 m1 fun cs rs' M2 q2 c2 m2 => (PstS.here (.cons (q1.app cs) q2) m2).app.app) hs⟩
def datsA : List AV → Option (List PyData)
  | [] => some []
  | .dat d :: r => (datsA r).map (d :: ·)
  | _ :: _ => none
theorem datsA_of {as : List Addr} : ∀ {vs : List AV} {ds : List PyData} {rs : List SD}, datsA vs = some ds → CvS as vs rs → datsOf rs = some ds
  | [], ds, _, h, .nil => by cases h; rfl
  | .dat d :: r, ds, _, h, .cons .dat t => by
    obtain ⟨es, h1, rfl⟩ := Option.map_eq_some_iff.mp (show (datsA r).map (d :: ·) = some ds from h)
    show (datsOf _).map (d :: ·) = _
    rw [datsA_of h1 t]; rfl
def dTup (r : DAs) : DX := fun S st => (r S st).bind fun p => (datsA p.1).bind fun ds => if ds.length ≤ 1000000 then some (.dat (.tuple ds), p.2) else none
def dLst (r : DAs) : DX := fun S st => (r S st).bind fun p => (datsA p.1).bind fun ds => if ds.length ≤ 1000000 then some (.dat (.list ds), p.2) else none
def dLstM (r : DAs) : DX := fun S st => (r S st).bind fun p => (datsA p.1).bind fun ds => if ds.length ≤ 1000000 then some (.han p.2.length, p.2 ++ [some (.lst ds)]) else none
theorem se_tup {k} (h : SA X es ds) : SE X (.Tuple es k pos) (dTup ds) := ⟨fun e _ _ _ c m => by
  obtain ⟨⟨vs, st1⟩, e1, e⟩ := bnd e
  obtain ⟨ds, e2, e⟩ := bnd e
  split at e
  · cases e
    exact je_tup (h.bind e1 c m fun bs r' M1 q1 c1 m1 => ⟨_, datsA_of e2 q1, by assumption, bs, .dat, m1⟩)
  · cases e⟩
theorem se_lst (h : SA X es ds) : SE X (.List es pos) (dLst ds) := ⟨fun e _ _ _ c m => by
  obtain ⟨⟨vs, st1⟩, e1, e⟩ := bnd e
  obtain ⟨ds, e2, e⟩ := bnd e
  split at e
  · cases e
    exact je_lst (h.bind e1 c m fun bs r' M1 q1 c1 m1 => ⟨_, datsA_of e2 q1, by assumption, bs, .dat, m1⟩)
  · cases e⟩
theorem pst_new {as : List Addr} {st : Sto} {M : MS} {m : MO} {p : Addr} (c : CM as st M) (nd : (dom ((p, m) :: M)).Nodup) : Pst as (st ++ [some m]) (.han st.length) (.raw (.ref p)) ((p, m) :: M) :=
  ⟨[p], .han (by rw [← c.len]; simp), c.new (List.nodup_cons.mp nd).1⟩
theorem se_lstM (h : SA X es ds) : SE X (.List es pos) (dLstM ds) := ⟨fun e _ _ _ c m => by
  obtain ⟨⟨vs, st1⟩, e1, e⟩ := bnd e
  obtain ⟨ds, e2, e⟩ := bnd e
  split at e
  · cases e
    refine JE.nd (je_lstM (h.bind e1 c m fun bs r' M1 q1 c1 m1 => ⟨_, datsA_of e2 q1, by assumption, fun p nd => ?_⟩))
    exact (pst_new m1 nd).app
  · cases e⟩
/-! ### subscripts -/
def ixD : PyData → PyData → Option PyData
  | .list ds, .int i => atI ds i
  | .tuple ds, .int i => atI ds i
  | _, _ => none
def dIx (a b : DX) : DX := dBin (lift2 ixD) a b
theorem se_ix (ha : SE X a da) (hb : SE X b db) (hs : PlainIx b := by exact fun _ _ => rfl) : SE X (.Subscript a b pos) (dIx da db) := ⟨fun e _ _ _ c m => by
  obtain ⟨⟨r1, st1⟩, e1, e⟩ := bnd e
  obtain ⟨⟨r2, st2⟩, e2, e⟩ := bnd e
  obtain ⟨x, y, z, h1, h2, h3, rfl, rfl⟩ := lift2_some e
  unfold ixD at h3
  split at h3
  · exact je_ix ij_lst (ha.bind e1 c m fun bs r1' M1 q1 c1 m1 => hb.bind e2 c1 m1 fun cs r2' M2 q2 c2 m2 => ⟨_, _, _, rd_is h1 (q1.app cs) m2, (rd_is h2 q2 m2).un rfl, h3, (Pst.here .dat m2).app.app⟩) hs
  · exact je_ix ij_tup (ha.bind e1 c m fun bs r1' M1 q1 c1 m1 => hb.bind e2 c1 m1 fun cs r2' M2 q2 c2 m2 => ⟨_, _, _, (rd_is h1 (q1.app cs) m2).un rfl, (rd_is h2 q2 m2).un rfl, h3, (Pst.here .dat m2).app.app⟩) hs
  · cases h3⟩
/-! ### slices -/
def slD (lo hi : Option Int) : PyData → Option PyData
  | .list ds => some (.list (cutD ds lo hi))
  | .tuple ds => some (.tuple (cutD ds lo hi))
  | _ => none
def asI : AV → Option Int
  | .dat (.int i) => some i
  | _ => none
theorem asI_some {v : AV} {k : Int} (h : asI v = some k) : v = .int k := by
  unfold asI at h
  split at h
  · cases h; rfl
  · cases h
def dSlLH (a b c : DX) : DX := fun S st => (a S st).bind fun p => (b S p.2).bind fun q => (asI q.1).bind fun i => (c S q.2).bind fun r => (asI r.1).bind fun j => (rd r.2 p.1).bind fun d => (slD (some i) (some j) d).map fun z => (.dat z, r.2)
def dSlL (a b : DX) : DX := fun S st => (a S st).bind fun p => (b S p.2).bind fun q => (asI q.1).bind fun i => (rd q.2 p.1).bind fun d => (slD (some i) none d).map fun z => (.dat z, q.2)
def dSlH (a b : DX) : DX := fun S st => (a S st).bind fun p => (b S p.2).bind fun q => (asI q.1).bind fun i => (rd q.2 p.1).bind fun d => (slD none (some i) d).map fun z => (.dat z, q.2)
theorem slF {lo hi : Option Int} {d z : PyData} (h : slD lo hi d = some z) : ∃ od, SlJ X od ∧ ∀ M r R, IsD M r d → R (.dat z) M → od r lo hi M R := by
  unfold slD at h
  split at h
  · cases h; exact ⟨_, sj_lst, fun M r R h q => ⟨_, h, q⟩⟩
  · cases h; exact ⟨_, sj_tup, fun M r R h q => ⟨_, h.un rfl, q⟩⟩
  · cases h
theorem se_slLH (ha : SE X a da) (hb : SE X b db) (hc : SE X c dc) : SE X (.Subscript a (.Slice (some b) (some c) none p2) pos) (dSlLH da db dc) := ⟨fun e _ _ _ cv m => by
  obtain ⟨⟨r1, st1⟩, e1, e⟩ := bnd e
  obtain ⟨⟨r2, st2⟩, e2, e⟩ := bnd e
  obtain ⟨i, e3, e⟩ := bnd e
  obtain ⟨⟨r4, st4⟩, e4, e⟩ := bnd e
  obtain ⟨j, e5, e⟩ := bnd e
  obtain ⟨d, e6, e⟩ := bnd e
  obtain ⟨z, e7, e⟩ := Option.map_eq_some_iff.mp e
  cases e
  have q2 : r2 = .int i := asI_some e3
  have q4 : r4 = .int j := asI_some e5
  subst q2 q4
  obtain ⟨od, o, ho⟩ := slF (X := X) e7
  exact je_slLH o (ha.bind e1 cv m fun bs r1' M1 q1 c1 m1 => hb.bind e2 c1 m1 fun cs r2' M2 q2 c2 m2 => by
    cases q2
    exact ⟨i, rfl, hc.bind e4 c2 m2 fun ds r3' M3 q3 c3 m3 => by
      cases q3
      exact ⟨j, rfl, ho _ _ _ (rd_is e6 ((q1.app cs).app ds) m3) (Pst.here .dat m3).app.app.app⟩⟩)⟩
theorem se_slL (ha : SE X a da) (hb : SE X b db) : SE X (.Subscript a (.Slice (some b) none none p2) pos) (dSlL da db) := ⟨fun e _ _ _ cv m => by
  obtain ⟨⟨r1, st1⟩, e1, e⟩ := bnd e
  obtain ⟨⟨r2, st2⟩, e2, e⟩ := bnd e
  obtain ⟨i, e3, e⟩ := bnd e
  obtain ⟨d, e6, e⟩ := bnd e
  obtain ⟨z, e7, e⟩ := Option.map_eq_some_iff.mp e
  cases e
  have q2 : r2 = .int i := asI_some e3
  subst q2
  obtain ⟨od, o, ho⟩ := slF (X := X) e7
  exact je_slL o (ha.bind e1 cv m fun bs r1' M1 q1 c1 m1 => hb.bind e2 c1 m1 fun cs r2' M2 q2 c2 m2 => by
    cases q2
    exact ⟨i, rfl, ho _ _ _ (rd_is e6 (q1.app cs) m2) (Pst.here .dat m2).app.app⟩)⟩
theorem se_slH (ha : SE X a da) (hb : SE X b db) : SE X (.Subscript a (.Slice none (some b) none p2) pos) (dSlH da db) := ⟨fun e _ _ _ cv m => by
  obtain ⟨⟨r1, st1⟩, e1, e⟩ := bnd e
  obtain ⟨⟨r2, st2⟩, e2, e⟩ := bnd e
  obtain ⟨i, e3, e⟩ := bnd e
  obtain ⟨d, e6, e⟩ := bnd e
  obtain ⟨z, e7, e⟩ := Option.map_eq_some_iff.mp e
  cases e
  have q2 : r2 = .int i := asI_some e3
  subst q2
  obtain ⟨od, o, ho⟩ := slF (X := X) e7
  exact je_slH o (ha.bind e1 cv m fun bs r1' M1 q1 c1 m1 => hb.bind e2 c1 m1 fun cs r2' M2 q2 c2 m2 => by
    cases q2
    exact ⟨i, rfl, ho _ _ _ (rd_is e6 (q1.app cs) m2) (Pst.here .dat m2).app.app⟩)⟩
/-! ### calls of built-ins -/
inductive BA where
  | d (x : PyData) | v (v : V)
inductive IsA (M : MS) : SD → BA → Prop
  | d {r : SD} {x : PyData} : IsD M r x → IsA M r (.d x)
  | v {v : V} : IsA M (.raw v) (.v v)
def rdA (st : Sto) : AV → Option BA
  | .kv v => some (.v v)
  | a => (rd st a).map .d
def rdAs (st : Sto) : List AV → Option (List BA)
  | [] => some []
  | a :: r => (rdA st a).bind fun x => (rdAs st r).map (x :: ·)
theorem rdA_is {st : Sto} {as : List Addr} {M : MS} {v : AV} {r : SD} {y : BA} (h : rdA st v = some y) (c : Cv as v r) (m : CM as st M) : IsA M r y := by
  cases v with
  | kv v => cases h; cases c; exact .v
  | un => cases h
  | dat d =>
    obtain ⟨z, h1, rfl⟩ := Option.map_eq_some_iff.mp (show (rd st (.dat d)).map BA.d = some y from h)
    exact .d (rd_is h1 c m)
  | han d =>
    obtain ⟨z, h1, rfl⟩ := Option.map_eq_some_iff.mp (show (rd st (.han d)).map BA.d = some y from h)
    exact .d (rd_is h1 c m)
theorem rdAs_is {st : Sto} {as : List Addr} {M : MS} (m : CM as st M) : ∀ {vs : List AV} {rs : List SD} {ys : List BA}, rdAs st vs = some ys → CvS as vs rs → Paired (IsA M) rs ys
  | [], _, ys, h, .nil => by cases h; exact .nil
  | v :: vs, _, ys, h, .cons c t => by
    obtain ⟨y, h1, h⟩ := bnd h
    obtain ⟨zs, h2, rfl⟩ := Option.map_eq_some_iff.mp h
    exact .cons (rdA_is h1 c m) (rdAs_is m h2 t)
/-- a call that tells data, by data -/
structure CF (X : Cx) (f : Value) (g : List BA → Option PyData) : Prop where
  ex : ∀ ys z, g ys = some z → ∃ cd, CallJ X f cd ∧ ∀ M rs R, Paired (IsA M) rs ys → R (.dat z) M → cd rs M R
def dCallB (g : List BA → Option PyData) (ds : DAs) : DX := fun S st => (ds S st).bind fun p => (rdAs p.2 p.1).bind fun ys => (g ys).map fun z => (.dat z, p.2)
theorem dCallB_some {g : List BA → Option PyData} {S : List AV} {st st' : Sto} {r : AV} (h : dCallB g ds S st = some (r, st')) : ∃ vs ys z, ds S st = some (vs, st') ∧ rdAs st' vs = some ys ∧ g ys = some z ∧ r = .dat z := by
  obtain ⟨⟨vs, st1⟩, e1, h⟩ := bnd h
  obtain ⟨ys, e2, h⟩ := bnd h
  obtain ⟨z, e3, h⟩ := Option.map_eq_some_iff.mp h
  cases h
  exact ⟨vs, ys, z, e1, e2, e3, rfl⟩
theorem se_callB {id : String} {g : List BA → Option PyData} (o : CF X (.builtin id) g) (hm : X.mg x = none) (hv : bootBuiltins x = some (.builtin id)) (h : SA X (e :: es) ds) (hg : Gl X x := by rfl) (hn : x ≠ "__name__" := by decide) (hdb : (x == ("__debug__" : Str)) = false := by decide)
    (he : starEach (e :: es) X.env = (false, eval e X.env) :: starEach es X.env := by rfl) (hpl : (backTo pos (starEach es X.env)).any (·.1) = false := by rfl) : SE X (.Call (.Name x p) (e :: es) [] pos) (dCallB g ds) := ⟨fun e _ _ _ c m => by
  obtain ⟨vs, ys, z, e1, e2, e3, rfl⟩ := dCallB_some e
  obtain ⟨cd, oc, ho⟩ := o.ex _ _ e3
  exact je_callB oc hm hv (h.bind e1 c m fun bs r' M1 q1 c1 m1 => ho _ _ _ (rdAs_is m1 e2 q1) (Pst.here .dat m1).app) hg hn hdb he hpl⟩
theorem se_callT {id : String} {g : List BA → Option PyData} (o : CF X (.type id) g) (hm : X.mg x = none) (hv : bootBuiltins x = some (.type id)) (h : SA X (e :: es) ds) (hg : Gl X x := by rfl) (hn : x ≠ "__name__" := by decide) (hdb : (x == ("__debug__" : Str)) = false := by decide)
    (he : starEach (e :: es) X.env = (false, eval e X.env) :: starEach es X.env := by rfl) (hpl : (backTo pos (starEach es X.env)).any (·.1) = false := by rfl) : SE X (.Call (.Name x p) (e :: es) [] pos) (dCallB g ds) := ⟨fun e _ _ _ c m => by
  obtain ⟨vs, ys, z, e1, e2, e3, rfl⟩ := dCallB_some e
  obtain ⟨cd, oc, ho⟩ := o.ex _ _ e3
  exact je_callT oc hm hv (h.bind e1 c m fun bs r' M1 q1 c1 m1 => ho _ _ _ (rdAs_is m1 e2 q1) (Pst.here .dat m1).app) hg hn hdb he hpl⟩
/-- .. that makes a list that will be changed -/
structure CFM (X : Cx) (f : Value) (g : List BA → Option (List PyData)) : Prop where
  ex : ∀ ys z, g ys = some z → ∃ cd, CallJ X f cd ∧ ∀ M rs R, Paired (IsA M) rs ys → (∀ p, R (.raw (.ref p)) ((p, .lst z) :: M)) → cd rs M R
def dCallM (g : List BA → Option (List PyData)) (ds : DAs) : DX := fun S st => (ds S st).bind fun p => (rdAs p.2 p.1).bind fun ys => (g ys).map fun z => (.han p.2.length, p.2 ++ [some (.lst z)])
theorem se_callTM {id : String} {g : List BA → Option (List PyData)} (o : CFM X (.type id) g) (hm : X.mg x = none) (hv : bootBuiltins x = some (.type id)) (h : SA X (e :: es) ds) (hg : Gl X x := by rfl) (hn : x ≠ "__name__" := by decide) (hdb : (x == ("__debug__" : Str)) = false := by decide)
    (he : starEach (e :: es) X.env = (false, eval e X.env) :: starEach es X.env := by rfl) (hpl : (backTo pos (starEach es X.env)).any (·.1) = false := by rfl) : SE X (.Call (.Name x p) (e :: es) [] pos) (dCallM g ds) := ⟨fun q _ _ _ c m => by
  obtain ⟨⟨vs, st1⟩, e1, h1⟩ := bnd q
  obtain ⟨ys, e2, h1⟩ := bnd h1
  obtain ⟨z, e3, h1⟩ := Option.map_eq_some_iff.mp h1
  cases h1
  obtain ⟨cd, oc, ho⟩ := o.ex _ _ e3
  exact JE.nd (je_callT oc hm hv (h.bind e1 c m fun bs r' M1 q1 c1 m1 => ho _ _ _ (rdAs_is m1 e2 q1) fun p nd => (pst_new m1 nd).app) hg hn hdb he hpl)⟩
theorem pair1 {M : MS} {rs : List SD} {y : BA} (h : Paired (IsA M) rs [y]) : ∃ r, rs = [r] ∧ IsA M r y := by
  cases h with
  | cons h t => cases t; exact ⟨_, rfl, h⟩
theorem pair2 {M : MS} {rs : List SD} {y z : BA} (h : Paired (IsA M) rs [y, z]) : ∃ r s, rs = [r, s] ∧ IsA M r y ∧ IsA M s z := by
  cases h with
  | cons h t =>
    obtain ⟨s, rfl, h2⟩ := pair1 t
    exact ⟨_, _, rfl, h, h2⟩
theorem IsA.dat {M : MS} {r : SD} {d : PyData} (h : IsA M r (.d d)) : IsD M r d := by cases h; assumption
def gLen : List BA → Option PyData
  | [.d (.str x)] => if x.length ≤ 1000000 then some (.int (x.length : Nat)) else none
  | [.d (.list ds)] => some (.int (ds.length : Nat))
  | [.d (.tuple ds)] => some (.int (ds.length : Nat))
  | _ => none
theorem cf_len : CF X (.builtin "len") gLen := ⟨fun ys z h => by
  unfold gLen at h
  refine ⟨_, cj_len, fun M rs R hp q => ?_⟩
  split at h
  · split at h
    · cases h
      obtain ⟨r, rfl, hr⟩ := pair1 hp
      exact ⟨r, _, _, rfl, hr.dat, rfl, (fun x e => by cases e; assumption), q⟩
    · cases h
  · cases h
    obtain ⟨r, rfl, hr⟩ := pair1 hp
    exact ⟨r, _, _, rfl, hr.dat, rfl, (fun x e => by cases e), q⟩
  · cases h
    obtain ⟨r, rfl, hr⟩ := pair1 hp
    exact ⟨r, _, _, rfl, hr.dat, rfl, (fun x e => by cases e), q⟩
  · cases h⟩
/-- isinstance: of the types of data -/
def tyIs (n : String) (d : PyData) : Option Bool := if n = "int" then some (tyD d == "int" || tyD d == "bool") else if n = "bool" ∨ n = "str" ∨ n = "list" ∨ n = "tuple" ∨ n = "dict" then some (tyD d == n) else none
def gIsi : List BA → Option PyData
  | [.d d, .v (.ty n)] => (tyIs n d).map .bool
  | _ => none
theorem kitD {K : Frag} {n : String} {d : PyData} {b : Bool} (h : tyIs n d = some b) : PySem.W.kitOne K (.type (tyD d)) (.type n) = some b := by
  refine L2.kit_ty ?_
  unfold tyIs at h
  split at h
  · rename_i e
    subst e
    cases h
    cases d <;> rfl
  · split at h
    · rename_i _ e
      cases h
      rcases e with rfl | rfl | rfl | rfl | rfl <;> (cases d <;> rfl)
    · cases h
theorem cf_isi : CF X (.builtin "isinstance") gIsi := ⟨fun ys z h => by
  unfold gIsi at h
  refine ⟨_, cj_isi, fun M rs R hp q => ?_⟩
  split at h
  · obtain ⟨b, h1, rfl⟩ := Option.map_eq_some_iff.mp h
    obtain ⟨r, s, rfl, hr, hs⟩ := pair2 hp
    cases hs
    exact ⟨r, _, _, b, rfl, hr.dat, kitD h1, q⟩
  · cases h⟩
def gAll : List BA → Option PyData
  | [.d (.list ds)] => (blsOf ds).map fun bs => .bool (bs.all fun b => b)
  | _ => none
theorem cf_all (hc : X.calm = true) : CF X (.builtin "all") gAll := ⟨fun ys z h => by
  unfold gAll at h
  split at h
  · obtain ⟨b, h1, rfl⟩ := Option.map_eq_some_iff.mp h
    rw [blsOf_some h1]
    exact ⟨_, cj_all hc, fun M rs R hp q => by
      obtain ⟨r, rfl, hr⟩ := pair1 hp
      exact ⟨r, b, rfl, hr.dat, q⟩⟩
  · cases h⟩
def gAny : List BA → Option PyData
  | [.d (.list ds)] => (blsOf ds).map fun bs => .bool (bs.any fun b => b)
  | _ => none
theorem cf_any (hc : X.calm = true) : CF X (.builtin "any") gAny := ⟨fun ys z h => by
  unfold gAny at h
  split at h
  · obtain ⟨b, h1, rfl⟩ := Option.map_eq_some_iff.mp h
    rw [blsOf_some h1]
    exact ⟨_, cj_any hc, fun M rs R hp q => by
      obtain ⟨r, rfl, hr⟩ := pair1 hp
      exact ⟨r, b, rfl, hr.dat, q⟩⟩
  · cases h⟩
def gSum : List BA → Option PyData
  | [.d (.list ds)] => (intsOf ds).map fun bs => .int bs.sum
  | _ => none
theorem cf_sum (hc : X.calm = true) : CF X (.builtin "sum") gSum := ⟨fun ys z h => by
  unfold gSum at h
  split at h
  · obtain ⟨b, h1, rfl⟩ := Option.map_eq_some_iff.mp h
    rw [intsOf_some h1]
    exact ⟨_, cj_sum hc, fun M rs R hp q => by
      obtain ⟨r, rfl, hr⟩ := pair1 hp
      exact ⟨r, b, rfl, hr.dat, q⟩⟩
  · cases h⟩
def gItems : List BA → Option (List PyData)
  | [.d d] => itemsD d
  | _ => none
def gTuple (ys : List BA) : Option PyData := (gItems ys).map .tuple
def gList (ys : List BA) : Option PyData := (gItems ys).map .list
theorem gItems_some {ys : List BA} {ds : List PyData} (h : gItems ys = some ds) : ∃ d, ys = [.d d] ∧ itemsD d = some ds := by
  unfold gItems at h
  split at h
  · exact ⟨_, rfl, h⟩
  · cases h
theorem cf_tuple : CF X (.type "tuple") gTuple := ⟨fun ys z h => by
  obtain ⟨ds, h1, rfl⟩ := Option.map_eq_some_iff.mp h
  obtain ⟨d, rfl, h2⟩ := gItems_some h1
  exact ⟨_, cj_tuple, fun M rs R hp q => by
    obtain ⟨r, rfl, hr⟩ := pair1 hp
    exact ⟨r, ds, rfl, itemsD_seq h2 hr.dat, q⟩⟩⟩
theorem cf_list : CF X (.type "list") gList := ⟨fun ys z h => by
  obtain ⟨ds, h1, rfl⟩ := Option.map_eq_some_iff.mp h
  obtain ⟨d, rfl, h2⟩ := gItems_some h1
  exact ⟨_, cj_list, fun M rs R hp q => by
    obtain ⟨r, rfl, hr⟩ := pair1 hp
    exact ⟨r, ds, rfl, itemsD_seq h2 hr.dat, q⟩⟩⟩
theorem cfm_list : CFM X (.type "list") gItems := ⟨fun ys ds h1 => by
  obtain ⟨d, rfl, h2⟩ := gItems_some h1
  exact ⟨_, cj_listM, fun M rs R hp q => by
    obtain ⟨r, rfl, hr⟩ := pair1 hp
    exact ⟨r, ds, rfl, itemsD_seq h2 hr.dat, q⟩⟩⟩
def gAbs : List BA → Option PyData
  | [.d (.int i)] => some (.int (if i < 0 then -i else i))
  | _ => none
theorem cf_abs : CF X (.builtin "abs") gAbs := ⟨fun ys z h => by
  unfold gAbs at h
  split at h
  · cases h
    exact ⟨_, cj_abs, fun M rs R hp q => by
      obtain ⟨r, rfl, hr⟩ := pair1 hp
      exact ⟨_, by rw [hr.dat.un rfl], q⟩⟩
  · cases h⟩
def gMax2 : List BA → Option PyData
  | [.d (.int i), .d (.int j)] => some (.int (if j > i then j else i))
  | _ => none
def gMin2 : List BA → Option PyData
  | [.d (.int i), .d (.int j)] => some (.int (if j < i then j else i))
  | _ => none
theorem cf_max2 (hc : X.calm = true) : CF X (.builtin "max") gMax2 := ⟨fun ys z h => by
  unfold gMax2 at h
  split at h
  · cases h
    exact ⟨_, cj_max2 hc, fun M rs R hp q => by
      obtain ⟨r, s, rfl, hr, hs⟩ := pair2 hp
      exact ⟨_, _, by rw [hr.dat.un rfl, hs.dat.un rfl], q⟩⟩
  · cases h⟩
theorem cf_min2 (hc : X.calm = true) : CF X (.builtin "min") gMin2 := ⟨fun ys z h => by
  unfold gMin2 at h
  split at h
  · cases h
    exact ⟨_, cj_min2 hc, fun M rs R hp q => by
      obtain ⟨r, s, rfl, hr, hs⟩ := pair2 hp
      exact ⟨_, _, by rw [hr.dat.un rfl, hs.dat.un rfl], q⟩⟩
  · cases h⟩
def gIntOf : List BA → Option PyData
  | [.d (.int i)] => some (.int i)
  | [.d (.bool b)] => some (.int (if b then 1 else 0))
  | _ => none
theorem cf_int : CF X (.type "int") gIntOf := ⟨fun ys z h => by
  unfold gIntOf at h
  split at h
  · cases h
    exact ⟨_, cj_int, fun M rs R hp q => by
      obtain ⟨r, rfl, hr⟩ := pair1 hp
      exact .inl ⟨_, by rw [hr.dat.un rfl], q⟩⟩
  · cases h
    exact ⟨_, cj_int, fun M rs R hp q => by
      obtain ⟨r, rfl, hr⟩ := pair1 hp
      exact .inr ⟨_, by rw [hr.dat.un rfl], q⟩⟩
  · cases h⟩
end
end DL
set_option Elab.async false
set_option linter.all false
set_option maxRecDepth 100000
set_option maxHeartbeats 4000000
namespace DL
open PySem PySem.Spec PyProof.Rows L2
/-! ### statements, told as functions -/
inductive Fl where
  | nx | bk | ct | rt (v : AV)
abbrev DSt := List AV → Sto → Option (Fl × List AV × Sto)
abbrev DTg := AV → List AV → Sto → Option (List AV × Sto)
abbrev DTs := List PyData → List AV → Sto → Option (List AV × Sto)
abbrev DTv := List AV → List AV → Sto → Option (List AV × Sto)
def FE (as : List Addr) (fl : Fl) (S1 : List AV) (st1 : Sto) : DEnds where
  nx := fun S2 M2 => fl = .nx ∧ PstS as st1 S1 S2 M2
  rt := fun r M2 => ∃ v, fl = .rt v ∧ Pst as st1 v r M2
  bk := fun S2 M2 => fl = .bk ∧ PstS as st1 S1 S2 M2
  ct := fun S2 M2 => fl = .ct ∧ PstS as st1 S1 S2 M2
theorem JS.mono {X : Cx} {st : Stmt} {S : List SD} {M : MS} {P P' : DEnds} (h : JS X st S M P) (h1 : ∀ S M, P.nx S M → P'.nx S M) (h2 : ∀ r M, P.rt r M → P'.rt r M) (h3 : ∀ S M, P.bk S M → P'.bk S M) (h4 : ∀ S M, P.ct S M → P'.ct S M) : JS X st S M P' := ⟨fun σ H B w s =>
  (h.run σ H B w s).mono (fun _ _ q => QN.back .refl h1 q) (fun _ _ q => QD.back .refl h2 q) (fun _ _ q => QN.back .refl h3 q) fun _ _ q => QN.back .refl h4 q⟩
theorem JB.mono {X : Cx} {st : List Stmt} {S : List SD} {M : MS} {P P' : DEnds} (h : JB X st S M P) (h1 : ∀ S M, P.nx S M → P'.nx S M) (h2 : ∀ r M, P.rt r M → P'.rt r M) (h3 : ∀ S M, P.bk S M → P'.bk S M) (h4 : ∀ S M, P.ct S M → P'.ct S M) : JB X st S M P' := ⟨fun σ H B w s =>
  (h.run σ H B w s).mono (fun _ _ q => QN.back .refl h1 q) (fun _ _ q => QD.back .refl h2 q) (fun _ _ q => QN.back .refl h3 q) fun _ _ q => QN.back .refl h4 q⟩
theorem JG.mono {X : Cx} {tg : Expr} {ws : List Nat} {r : SD} {S : List SD} {M : MS} {R R' : List SD → MS → Prop} (h : JG X tg ws r S M R) (q : ∀ S M, R S M → R' S M) : JG X tg ws r S M R' := ⟨fun σ H B v w s ok =>
  (h.run σ H B v w s ok).mono fun _ _ z => ⟨z.1, z.2.back .refl q⟩⟩
theorem JGs.mono {X : Cx} {tg : List Expr} {ws : List Nat} {r : List PyData} {S : List SD} {M : MS} {R R' : List SD → MS → Prop} (h : JGs X tg ws r S M R) (q : ∀ S M, R S M → R' S M) : JGs X tg ws r S M R' := ⟨fun σ H B v w s ok =>
  (h.run σ H B v w s ok).mono fun _ _ z => ⟨z.1, z.2.back .refl q⟩⟩
structure SS (X : Cx) (s : Stmt) (d : DSt) : Prop where
  run : ∀ {S st fl S1 st1}, d S st = some (fl, S1, st1) → ∀ {as S' M}, CvS as S S' → CM as st M → JS X s S' M (FE as fl S1 st1)
structure SB (X : Cx) (s : List Stmt) (d : DSt) : Prop where
  run : ∀ {S st fl S1 st1}, d S st = some (fl, S1, st1) → ∀ {as S' M}, CvS as S S' → CM as st M → JB X s S' M (FE as fl S1 st1)
structure SG (X : Cx) (tg : Expr) (ws : List Nat) (d : DTg) : Prop where
  run : ∀ {v S st S1 st1}, d v S st = some (S1, st1) → ∀ {as v' S' M}, Cv as v v' → CvS as S S' → CM as st M → JG X tg ws v' S' M (PstS as st1 S1)
structure SGs (X : Cx) (ts : List Expr) (ws : List Nat) (d : DTs) : Prop where
  run : ∀ {ds S st S1 st1}, d ds S st = some (S1, st1) → ∀ {as S' M}, CvS as S S' → CM as st M → JGs X ts ws ds S' M (PstS as st1 S1)
theorem JB.app {as bs : List Addr} {fl : Fl} {S1 : List AV} {st1 : Sto} {X : Cx} {s : List Stmt} {S : List SD} {M : MS} (h : JB X s S M (FE (as ++ bs) fl S1 st1)) : JB X s S M (FE as fl S1 st1) :=
  h.mono (fun _ _ q => ⟨q.1, q.2.app⟩) (fun _ _ ⟨v, q1, q2⟩ => ⟨v, q1, q2.app⟩) (fun _ _ q => ⟨q.1, q.2.app⟩) fun _ _ q => ⟨q.1, q.2.app⟩
theorem CvS.set {as : List Addr} {S : List AV} {S' : List SD} {v : AV} {v' : SD} (c : CvS as S S') (h : Cv as v v') (i : Nat) : CvS as (S.set i v) (S'.set i v') := Paired.setP h i c
section
variable {X : Cx} {e a b c iter tg : Expr} {es ts : List Expr} {pos p p2 pos' spos : Pos} {x y : Str} {da db dc : DX} {ds : DAs} {tc : DTt} {s : Stmt} {rest s1 s2 body : List Stmt} {d1 d2 : DSt} {ws : List Nat} {g : DTg} {gs : DTs} {i : Nat}
/-! ### targets -/
def gName (i : Nat) : DTg := fun v S st => some (S.set i v, st)
def gNil : DTs := fun ds S st => match ds with
  | [] => some (S, st)
  | _ => none
def gCons (g : DTg) (gs : DTs) : DTs := fun ds S st => match ds with
  | d :: r => (g (.dat d) S st).bind fun p => gs r p.1 p.2
  | [] => none
def gTup (n : Nat) (gs : DTs) : DTg := fun v S st => match v with
  | .dat (.tuple ds) => if ds.length = n then gs ds S st else none
  | .dat (.list ds) => if ds.length = n then gs ds S st else none
  | _ => none
def gStarF (i : Nat) (gs : DTs) : DTg := fun v S st => match v with
  | .dat (.tuple ds) => if i ≤ ds.length then gs (ds.take i ++ [.list (ds.drop i)]) S st else none
  | _ => none
theorem sg_name (i : Nat) (hN : X.N.Nodup) (hws : i ∈ ws := by decide) (hi : X.N[i]? = some x := by rfl) (hx : Loc X.env.scope x := by first | exact Or.inl rfl | exact Or.inr rfl) (hf : X.fn x = true ∨ X.env.scope.names.lookup x = some .local := by first | exact .inl rfl | exact .inr rfl) : SG X (.Name x pos) ws (gName i) := ⟨fun q _ _ _ _ cv c m => by
  cases q
  exact jg_name hN (PstS.here (c.set cv i) m) hws hi hx hf⟩
theorem sgs_nil : SGs X [] ws gNil := ⟨fun {ds S st S1 st1} q _ _ _ c m => by
  cases ds with
  | nil => cases q; exact jgs_nil (PstS.here c m)
  | cons _ _ => cases q⟩
theorem sgs_cons (h : SG X tg ws g) (t : SGs X ts ws gs) (hs : (assignEach (tg :: ts) X.env).map (·.2) = assign tg X.env :: (assignEach ts X.env).map (·.2) := by rfl) : SGs X (tg :: ts) ws (DL.gCons g gs) := ⟨fun {ds S st S1 st1} q _ _ _ c m => by
  cases ds with
  | nil => cases q
  | cons d r =>
    obtain ⟨⟨S2, st2⟩, e1, q⟩ := bnd q
    exact jgs_cons ((h.run e1 .dat c m).mono fun S2' M2 ⟨bs, c2, m2⟩ => (t.run q c2 m2).mono fun _ _ z => z.app) hs⟩
theorem sgs_star (h : SG X tg ws g) (t : SGs X ts ws gs) : SGs X (.Starred tg p :: ts) ws (DL.gCons g gs) := ⟨fun {ds S st S1 st1} q _ _ _ c m => by
  cases ds with
  | nil => cases q
  | cons d r =>
    obtain ⟨⟨S2, st2⟩, e1, q⟩ := bnd q
    exact jgs_star ((h.run e1 .dat c m).mono fun S2' M2 ⟨bs, c2, m2⟩ => (t.run q c2 m2).mono fun _ _ z => z.app)⟩
theorem sg_tup {k n : Nat} (hc : X.calm = true) (h : SGs X ts ws gs) (hl : n = ts.length := by rfl) (hn : (assignEach ts X.env).length = ts.length := by rfl) (hst : (assignEach ts X.env).findIdx? (·.1) = none := by rfl) : SG X (.Tuple ts k pos) ws (gTup n gs) := ⟨fun {v S st S1 st1} q _ _ _ _ cv c m => by
  unfold gTup at q
  split at q
  · cases cv
    split at q
    · exact jg_tup hc (h.run q c m) (by omega) hn hst
    · cases q
  · cases cv
    split at q
    · exact jg_lst hc (h.run q c m) (by omega) hn hst
    · cases q
  · cases q⟩
theorem sg_star {k : Nat} (i : Nat) (hc : X.calm = true) (h : SGs X ts ws gs) (hn : (assignEach ts X.env).length = i + 1 := by rfl) (hst : (assignEach ts X.env).findIdx? (·.1) = some i := by rfl) : SG X (.Tuple ts k pos) ws (gStarF i gs) := ⟨fun {v S st S1 st1} q _ _ _ _ cv c m => by
  unfold gStarF at q
  split at q
  · cases cv
    split at q
    · exact jg_star hc i (by assumption) (h.run q c m) hn hst
    · cases q
  · cases q⟩
/-! ### plain statements -/
def sSeq (a b : DSt) : DSt := fun S st => (a S st).bind fun r => match r.1 with
  | .nx => b r.2.1 r.2.2
  | _ => some r
def sNil : DSt := fun S st => some (.nx, S, st)
theorem sb_nil : SB X [] sNil := ⟨fun q _ _ _ c m => by cases q; exact jb_nil ⟨rfl, PstS.here c m⟩⟩
theorem sb_one (h : SS X s d1) : SB X [s] d1 := ⟨fun q _ _ _ c m => jb_one (h.run q c m)⟩
theorem sb_cons (h : SS X s d1) (t : SB X rest d2) : SB X (s :: rest) (sSeq d1 d2) := ⟨fun {S st fl S1 st1} q {as S' M} c m => by
  obtain ⟨⟨fl1, S2, st2⟩, e1, q⟩ := bnd q
  refine jb_cons (JS.mono (h.run e1 c m) (fun S3 M3 z => ?_) (fun r M3 z => ?_) (fun S3 M3 z => ?_) fun S3 M3 z => ?_)
  · obtain ⟨rfl, bs, c2, m2⟩ := z
    exact (t.run q c2 m2).app
  · obtain ⟨v, rfl, z⟩ := z
    cases q
    exact ⟨v, rfl, z⟩
  · obtain ⟨rfl, z⟩ := z
    cases q
    exact ⟨rfl, z⟩
  · obtain ⟨rfl, z⟩ := z
    cases q
    exact ⟨rfl, z⟩⟩
def sPass : DSt := fun S st => some (.nx, S, st)
def sBrk : DSt := fun S st => some (.bk, S, st)
def sCnt : DSt := fun S st => some (.ct, S, st)
def sRet (d : DX) : DSt := fun S st => (d S st).map fun p => (.rt p.1, S, p.2)
def sRetN : DSt := fun S st => some (.rt .non, S, st)
def sIf (t : DTt) (a b : DSt) : DSt := fun S st => (t S st).bind fun p => match p.1 with
  | true => a S p.2
  | false => b S p.2
def sSet (i : Nat) (d : DX) : DSt := fun S st => (d S st).map fun p => (.nx, S.set i p.1, p.2)
def sExpr (d : DX) : DSt := fun S st => (d S st).map fun p => (.nx, S, p.2)
def sAsg (g : DTg) (d : DX) : DSt := fun S st => (d S st).bind fun p => (g p.1 S p.2).map fun q => (.nx, q.1, q.2)
theorem ss_pass : SS X (.Pass pos) sPass := ⟨fun q _ _ _ c m => by cases q; exact js_pass ⟨rfl, PstS.here c m⟩⟩
theorem ss_break : SS X (.Break pos) sBrk := ⟨fun q _ _ _ c m => by cases q; exact js_break ⟨rfl, PstS.here c m⟩⟩
theorem ss_continue : SS X (.Continue pos) sCnt := ⟨fun q _ _ _ c m => by cases q; exact js_continue ⟨rfl, PstS.here c m⟩⟩
theorem ss_ret (h : SE X e da) : SS X (.Return (some e) pos) (sRet da) := ⟨fun q _ _ _ c m => by
  obtain ⟨⟨v, st2⟩, e1, q⟩ := Option.map_eq_some_iff.mp q
  cases q
  exact js_ret ((h.run e1 c m).mono fun r M' z => ⟨v, rfl, z⟩)⟩
theorem ss_retN : SS X (.Return none pos) sRetN := ⟨fun q _ _ _ c m => by cases q; exact js_retN ⟨_, rfl, Pst.here .dat m⟩⟩
theorem ss_if (h : ST X c tc) (h1 : SB X s1 d1) (h2 : SB X s2 d2) : SS X (.If c s1 s2 pos) (sIf tc d1 d2) := ⟨fun q _ _ _ c m => by
  obtain ⟨⟨k, st2⟩, e1, q⟩ := bnd q
  refine js_if (h.bind e1 c m fun bs M1 c1 m1 => ?_)
  cases k with
  | true => exact (h1.run q c1 m1).app
  | false => exact (h2.run q c1 m1).app⟩
theorem ss_set (i : Nat) (hN : X.N.Nodup) (h : SE X e da) (hi : X.N[i]? = some x := by rfl) (hx : Loc X.env.scope x := by first | exact Or.inl rfl | exact Or.inr rfl) (hs : swapsWith e (some (.Name x pos')) pos.line X.env = pure false := by rfl)
    (hf : X.fn x = true ∨ X.env.scope.names.lookup x = some .local := by first | exact .inl rfl | exact .inr rfl) : SS X (.Assign [.Name x pos'] e pos) (sSet i da) := ⟨fun q _ _ _ c m => by
  obtain ⟨⟨v, st2⟩, e1, q⟩ := Option.map_eq_some_iff.mp q
  cases q
  exact js_set hN (h.bind e1 c m fun bs r' M1 q1 c1 m1 => ⟨rfl, bs, c1.set q1 i, m1⟩) hi hx hs hf⟩
theorem ss_expr (h : SE X e da) (hs : swapsWith e none pos.line X.env = pure false := by rfl) : SS X (.Expr e pos) (sExpr da) := ⟨fun q _ _ _ c m => by
  obtain ⟨⟨v, st2⟩, e1, q⟩ := Option.map_eq_some_iff.mp q
  cases q
  exact js_expr (h.bind e1 c m fun bs r' M1 q1 c1 m1 => ⟨rfl, bs, c1, m1⟩) hs⟩
theorem ss_asg (h : SE X e da) (hg : SG X tg (List.range 64) g) (hs : swapsWithSole [tg] e pos.line X.env = pure false := by rfl) (hw : swappedStores [tg] e X.env = pure none := by rfl)
    (h1 : (assignEach [tg] X.env).map (·.2) = [assign tg X.env] := by rfl) : SS X (.Assign [tg] e pos) (sAsg g da) := ⟨fun q _ _ _ c m => by
  obtain ⟨⟨v, st2⟩, e1, q⟩ := bnd q
  obtain ⟨⟨S3, st3⟩, e2, q⟩ := Option.map_eq_some_iff.mp q
  cases q
  exact js_asg (h.bind e1 c m fun bs r' M1 q1 c1 m1 => (hg.run e2 q1 c1 m1).mono fun S4 M4 z => ⟨rfl, z.app⟩) hs hw h1⟩
/-! ### (a, b) = (e, f), of any values -/
structure JGr (X : Cx) (ts : List Expr) (ws : List Nat) (rs : List SD) (S : List SD) (M : MS) (R : List SD → MS → Prop) : Prop where
  run : ∀ (σ : L2.St) (H B : Hp) (vs : List V), Wd X.K B H M → Slots X.K B S σ → SlotsA X.K B rs vs → TGsW X ts vs σ H (QG X.K B H M ws σ R)
theorem jgr_nil {S : List SD} {M : MS} {RN : List SD → MS → Prop} (q : RN S M) : JGr X [] ws [] S M RN := ⟨fun σ H B vs w s r => by
  cases r
  exact of_pgs pgs_nil ⟨rfl, rfl, B, S, M, .refl, w, s, q⟩⟩
theorem jgr_cons {r : SD} {rs S : List SD} {M : MS} {RN : List SD → MS → Prop} (h : JG X tg ws r S M fun S' M' => JGr X ts ws rs S' M' RN) (hs : (assignEach (tg :: ts) X.env).map (·.2) = assign tg X.env :: (assignEach ts X.env).map (·.2) := by rfl) : JGr X (tg :: ts) ws (r :: rs) S M RN := ⟨fun σ H B vs w s q => by
  cases q with
  | cons r1 r2 =>
    refine of_pgs (pgs_cons pg_w pgs_w hs) ⟨_, _, rfl, (h.run σ H B _ w s r1).mono fun σ1 H1 ⟨wp, B1, S1, M1, st1, w1, s1, h1⟩ => ?_⟩
    exact (h1.run σ1 H1 B1 _ w1 s1 (Paired.impP r2 fun _ _ z => z.le st1.bb)).mono fun _ _ q => ⟨q.1.trans wp, q.2.back st1 fun _ _ z => z⟩⟩
theorem js_asgTT {k k' : Nat} {S : List SD} {M : MS} {P : DEnds} (hc : X.calm = true) (h : JA X es S M fun rs M' => rs.length = ts.length ∧ rs.length ≤ 1000000 ∧ JGr X ts (List.range 64) rs S M' P.nx) (hn : (assignEach ts X.env).length = ts.length := by rfl) (hst : (assignEach ts X.env).findIdx? (·.1) = none := by rfl)
    (hs : swapsWithSole [.Tuple ts k p] (.Tuple es k' p2) pos.line X.env = pure false := by rfl) (hw : swappedStores [.Tuple ts k p] (.Tuple es k' p2) X.env = pure none := by rfl)
    (h1 : (assignEach [.Tuple ts k p] X.env).map (·.2) = [assign (.Tuple ts k p) X.env] := by rfl) : JS X (.Assign [.Tuple ts k p] (.Tuple es k' p2) pos) S M P := ⟨fun σ H B w s => by
  refine of_ps (ps_asg (pe_tup pa_w) pg_w hs hw h1) ((h.run σ H B w s).mono fun vs H1 ⟨B1, rs, M1, st1, w1, ok1, hl, hz, h2⟩ => ?_)
  have hlen : rs.length = vs.length := Paired.length ok1
  refine ⟨by rw [sizeLine_eq]; omega, fun q hq => ?_⟩
  obtain ⟨w2, st2⟩ := w1.new (o := .tup vs) hq
  refine of_pg (pg_tup hc pgs_w hn hst) ⟨q, vs, rfl, SqT.of upd_same, by omega, ?_⟩
  exact (h2.run σ _ _ vs w2 (s.le (st1.trans st2).bb) (Paired.impP ok1 fun _ _ z => z.le st2.bb)).mono fun _ _ q => q.2.back (st1.trans st2) fun _ _ z => z⟩
structure SGr (X : Cx) (ts : List Expr) (ws : List Nat) (d : DTv) : Prop where
  run : ∀ {vs S st S1 st1}, d vs S st = some (S1, st1) → ∀ {as rs S' M}, CvS as vs rs → CvS as S S' → CM as st M → rs.length = ts.length ∧ JGr X ts ws rs S' M (PstS as st1 S1)
def rNil : DTv := fun vs S st => match vs with
  | [] => some (S, st)
  | _ => none
def rCons (g : DTg) (gs : DTv) : DTv := fun vs S st => match vs with
  | v :: r => (g v S st).bind fun p => gs r p.1 p.2
  | [] => none
theorem JGr.mono {rs : List SD} {S : List SD} {M : MS} {R R' : List SD → MS → Prop} (h : JGr X ts ws rs S M R) (q : ∀ S M, R S M → R' S M) : JGr X ts ws rs S M R' := ⟨fun σ H B v w s ok =>
  (h.run σ H B v w s ok).mono fun _ _ z => ⟨z.1, z.2.back .refl q⟩⟩
theorem sgr_nil : SGr X [] ws rNil := ⟨fun {vs S st S1 st1} q _ _ _ _ cv c m => by
  cases vs with
  | nil => cases q; cases cv; exact ⟨rfl, jgr_nil (PstS.here c m)⟩
  | cons _ _ => cases q⟩
theorem rs_len {d : DTv} (t : SGr X ts ws d) : ∀ {vs S st S1 st1}, d vs S st = some (S1, st1) → ∀ {as rs S' M}, CvS as vs rs → CvS as S S' → CM as st M → rs.length = ts.length := fun q _ _ _ _ cv c m => (t.run q cv c m).1
theorem sgr_cons {d : DTv} (h : SG X tg ws g) (t : SGr X ts ws d) (hd : ∀ {vs S st S1 st1}, d vs S st = some (S1, st1) → vs.length = ts.length) (hs : (assignEach (tg :: ts) X.env).map (·.2) = assign tg X.env :: (assignEach ts X.env).map (·.2) := by rfl) : SGr X (tg :: ts) ws (rCons g d) := ⟨fun {vs S st S1 st1} q {as rs S' M} cv c m => by
  cases vs with
  | nil => cases q
  | cons v r =>
    obtain ⟨⟨S2, st2⟩, e1, q⟩ := bnd q
    cases cv with
    | cons v1 v2 =>
      refine ⟨?_, jgr_cons ((h.run e1 v1 c m).mono fun S2' M2 ⟨bs, c2, m2⟩ => (t.run q (CvS.app bs v2) c2 m2).2.mono fun _ _ z => z.app) hs⟩
      rw [List.length_cons, List.length_cons, ← Paired.length v2, hd q]⟩
def sAsgTT (g : DTv) (ds : DAs) : DSt := fun S st => (ds S st).bind fun p => if p.1.length ≤ 1000000 then (g p.1 S p.2).map fun q => (.nx, q.1, q.2) else none
theorem ss_asgTT {k k' : Nat} {d : DTv} (hc : X.calm = true) (h : SA X es ds) (hg : SGr X ts (List.range 64) d) (hn : (assignEach ts X.env).length = ts.length := by rfl) (hst : (assignEach ts X.env).findIdx? (·.1) = none := by rfl)
    (hs : swapsWithSole [.Tuple ts k p] (.Tuple es k' p2) pos.line X.env = pure false := by rfl) (hw : swappedStores [.Tuple ts k p] (.Tuple es k' p2) X.env = pure none := by rfl)
    (h1 : (assignEach [.Tuple ts k p] X.env).map (·.2) = [assign (.Tuple ts k p) X.env] := by rfl) : SS X (.Assign [.Tuple ts k p] (.Tuple es k' p2) pos) (sAsgTT d ds) := ⟨fun q _ _ _ c m => by
  obtain ⟨⟨vs, st2⟩, e1, q⟩ := bnd q
  split at q
  · obtain ⟨⟨S3, st3⟩, e2, q⟩ := Option.map_eq_some_iff.mp q
    cases q
    exact js_asgTT hc (h.bind e1 c m fun bs rs M1 q1 c1 m1 => ⟨(hg.run e2 q1 c1 m1).1, by rw [← Paired.length q1]; assumption, (hg.run e2 q1 c1 m1).2.mono fun S4 M4 z => ⟨rfl, z.app⟩⟩) hn hst hs hw h1
  · cases q⟩
end
/-! ### what is walked -/
mutual
/-- the same data, kind for kind -/
def same : PyData → PyData → Bool
  | .none, .none => true
  | .bool a, .bool b => a == b
  | .int i, .int j => decide (i = j)
  | .str x, .str y => decide (x = y)
  | .list xs, .list ys => sameAll xs ys
  | .tuple xs, .tuple ys => sameAll xs ys
  | _, _ => false
def sameAll : List PyData → List PyData → Bool
  | [], [] => true
  | x :: xs, y :: ys => same x y && sameAll xs ys
  | _, _ => false
end
mutual
theorem same_eq : ∀ (x y : PyData), same x y = true → x = y
  | .none, y, h => by cases y <;> first | rfl | (simp [same] at h)
  | .bool a, y, h => by
    cases y with
    | bool b => simp [same] at h; rw [h]
    | _ => simp [same] at h
  | .int a, y, h => by
    cases y with
    | int b => simp [same] at h; rw [h]
    | _ => simp [same] at h
  | .str a, y, h => by
    cases y with
    | str b => simp [same] at h; rw [h]
    | _ => simp [same] at h
  | .list a, y, h => by
    cases y with
    | list b => rw [sameAll_eq a b (by simpa [same] using h)]
    | _ => simp [same] at h
  | .tuple a, y, h => by
    cases y with
    | tuple b => rw [sameAll_eq a b (by simpa [same] using h)]
    | _ => simp [same] at h
  | .dict a, y, h => by cases y <;> simp [same] at h
theorem sameAll_eq : ∀ (x y : List PyData), sameAll x y = true → x = y
  | [], [], _ => rfl
  | [], _ :: _, h => by simp [sameAll] at h
  | _ :: _, [], h => by simp [sameAll] at h
  | x :: xs, y :: ys, h => by
    simp [sameAll] at h
    rw [same_eq x y h.1, sameAll_eq xs ys h.2]
end
mutual
def noDict : PyData → Bool
  | .dict _ => false
  | .list xs => noDictAll xs
  | .tuple xs => noDictAll xs
  | _ => true
def noDictAll : List PyData → Bool
  | [] => true
  | x :: xs => noDict x && noDictAll xs
end
mutual
theorem same_refl : ∀ (x : PyData), noDict x = true → same x x = true
  | .none, _ => by simp [same]
  | .bool a, _ => by simp [same]
  | .int a, _ => by simp [same]
  | .str a, _ => by simp [same]
  | .list a, h => by simpa [same] using sameAll_refl a (by simpa [noDict] using h)
  | .tuple a, h => by simpa [same] using sameAll_refl a (by simpa [noDict] using h)
  | .dict a, h => by simp [noDict] at h
theorem sameAll_refl : ∀ (x : List PyData), noDictAll x = true → sameAll x x = true
  | [], _ => by simp [sameAll]
  | x :: xs, h => by
    simp [noDictAll] at h
    simp [sameAll, same_refl x h.1, sameAll_refl xs h.2]
end
/-- the items; the lists that must stay as they are -/
abbrev DI := List AV → Sto → Option (List PyData × List (Nat × List PyData) × Sto)
def gOk : List (Nat × List PyData) → Sto → Bool
  | [], _ => true
  | (k, ds) :: r, st => (match st[k]? with
    | some (some (.lst es)) => sameAll es ds
    | _ => false) && gOk r st
theorem gOk_one {k : Nat} {ds : List PyData} {st : Sto} (h : gOk [(k, ds)] st = true) : st[k]? = some (some (.lst ds)) := by
  unfold gOk at h
  have h := (Bool.and_eq_true_iff.mp h).1
  cases z : st[k]? with
  | none => simp [z] at h
  | some o => cases o with
    | none => simp [z] at h
    | some o => cases o with
      | dK _ => simp [z] at h
      | ob _ => simp [z] at h
      | lst es => rw [sameAll_eq es ds (by simpa [z] using h)]
theorem gOk_app {g g' : List (Nat × List PyData)} {st : Sto} (h : gOk (g ++ g') st = true) : gOk g st = true ∧ gOk g' st = true := by
  induction g with
  | nil => exact ⟨rfl, h⟩
  | cons p r ih =>
    have h := Bool.and_eq_true_iff.mp (show ((match st[p.1]? with
      | some (some (.lst es)) => sameAll es p.2
      | _ => false) && gOk (r ++ g') st) = true from h)
    exact ⟨Bool.and_eq_true_iff.mpr ⟨h.1, (ih h.2).1⟩, (ih h.2).2⟩
end DL
set_option Elab.async false
set_option linter.all false
set_option maxRecDepth 100000
set_option maxHeartbeats 4000000
namespace DL
open PySem PySem.Spec PyProof.Rows L2
theorem JI.mono {X : Cx} {tg iter : Expr} {S : List SD} {M : MS} {k k' : IK} (h : JI X tg iter S M k) (q : ∀ ds G M1, k ds G M1 → k' ds G M1) : JI X tg iter S M k' := ⟨fun σ H B w s R hR => h.run σ H B w s R fun J H1 B1 M1 ds G a b c d => hR J H1 B1 M1 ds G a b c (q _ _ _ d)⟩
abbrev SIk (as : List Addr) (ds : List PyData) (g : List (Nat × List PyData)) (st1 : Sto) : IK := fun ds' G M1 => ds' = ds ∧ ∃ bs, CM (as ++ bs) st1 M1 ∧ ∀ cs st2 M2, CM (as ++ bs ++ cs) st2 M2 → gOk g st2 = true → G M2
structure SI (X : Cx) (tg iter : Expr) (d : DI) : Prop where
  run : ∀ {S st ds g st1}, d S st = some (ds, g, st1) → ∀ {as S' M}, CvS as S S' → CM as st M → JI X tg iter S' M (SIk as ds g st1)
section
variable {X : Cx} {e a b c iter tg : Expr} {es ts : List Expr} {pos p p2 pos' spos : Pos} {x y : Str} {da db dc : DX} {ds : DAs} {tc : DTt} {s : Stmt} {rest s1 s2 body : List Stmt} {d1 d2 : DSt} {ws : List Nat} {g : DTg} {gs : DTs} {i : Nat} {di : DI}
def dSeqI (d : DX) : DI := fun S st => (d S st).bind fun p => match p.1 with
  | .dat (.list ds) => some (ds, [], p.2)
  | .dat (.tuple ds) => some (ds, [], p.2)
  | .dat (.str z) => some (signsD z, [], p.2)
  | .han k => match p.2[k]? with
    | some (some (.lst ds)) => some (ds, [(k, ds)], p.2)
    | _ => none
  | _ => none
theorem si_seq (h : SE X iter da) : SI X tg iter (dSeqI da) := ⟨fun {S st ds g st1} q {as S' M} c m => by
  obtain ⟨⟨v, st2⟩, e1, q⟩ := bnd q
  cases v with
  | un => cases q
  | kv _ => cases q
  | dat d => cases d with
    | list ds =>
      cases q
      refine ji_list (h.bind e1 c m fun bs r' M1 q1 c1 m1 => ?_)
      cases q1
      exact ⟨_, .dat, rfl, bs, m1, fun _ _ _ _ _ => .dat⟩
    | tuple ds =>
      cases q
      refine ji_tup (h.bind e1 c m fun bs r' M1 q1 c1 m1 => ?_)
      cases q1
      exact ⟨_, rfl, rfl, bs, m1, fun _ _ _ _ _ => trivial⟩
    | str ds =>
      cases q
      refine ji_str (h.bind e1 c m fun bs r' M1 q1 c1 m1 => ?_)
      cases q1
      exact ⟨_, rfl, rfl, bs, m1, fun _ _ _ _ _ => trivial⟩
    | _ => cases q
  | han k =>
    have q : (match st2[k]? with
      | some (some (.lst ds)) => some (ds, [(k, ds)], st2)
      | _ => none) = some (ds, g, st1) := q
    cases z : st2[k]? with
    | none => rw [z] at q; cases q
    | some o => cases o with
      | none => rw [z] at q; cases q
      | some o => cases o with
        | dK _ => rw [z] at q; cases q
        | ob _ => rw [z] at q; cases q
        | lst es =>
          rw [z] at q
          cases q
          refine ji_list (h.bind e1 c m fun bs r' M1 q1 c1 m1 => ?_)
          cases q1 with
          | han ha =>
            refine ⟨_, .lst ((m1.mem _).mpr ⟨k, ha, z⟩), rfl, bs, m1, fun cs st3 M3 m3 hg => ?_⟩
            exact .lst ((m3.mem _).mpr ⟨k, app_get ha, gOk_one hg⟩)⟩
def dRange1 (ds : DAs) : DI := fun S st => (ds S st).bind fun p => match p.1 with
  | [.dat (.int j)] => if -(2 ^ 62) ≤ j ∧ j < 2 ^ 62 then some (rangeD 0 j.toNat, [], p.2) else none
  | _ => none
theorem cvs1 {as : List Addr} {v : AV} {rs : List SD} (h : CvS as [v] rs) : ∃ r, rs = [r] ∧ Cv as v r := by
  cases h with
  | cons h t => cases t; exact ⟨_, rfl, h⟩
theorem cvs2 {as : List Addr} {v w : AV} {rs : List SD} (h : CvS as [v, w] rs) : ∃ r s, rs = [r, s] ∧ Cv as v r ∧ Cv as w s := by
  cases h with
  | cons h t => obtain ⟨s, rfl, h2⟩ := cvs1 t; exact ⟨_, _, rfl, h, h2⟩
theorem si_range1 (hm : X.mg "range" = none) (h : SA X [a] ds) (hg : Gl X "range" := by rfl) (hs : starEach [a] X.env = [(false, eval a X.env)] := by rfl) : SI X tg (.Call (.Name "range" p) [a] [] pos) (dRange1 ds) := ⟨fun {S st ds g st1} q {as S' M} c m => by
  obtain ⟨⟨vs, st2⟩, e1, q⟩ := bnd q
  dsimp only at q
  split at q
  · split at q
    · rename_i hb
      cases q
      refine ji_range1 hm (h.bind e1 c m fun bs r' M1 q1 c1 m1 => ?_) hg hs
      obtain ⟨r, rfl, qa⟩ := cvs1 q1
      cases qa
      exact ⟨_, rfl, hb.1, hb.2, rfl, bs, m1, fun _ _ _ _ _ => trivial⟩
    · cases q
  · cases q⟩
def dRange2 (ds : DAs) : DI := fun S st => (ds S st).bind fun p => match p.1 with
  | [.dat (.int i), .dat (.int j)] => if -(2 ^ 62) ≤ i ∧ i < 2 ^ 62 ∧ -(2 ^ 62) ≤ j ∧ j < 2 ^ 62 then some (rangeD i (j - i).toNat, [], p.2) else none
  | _ => none
theorem si_range2 (hm : X.mg "range" = none) (h : SA X [a, b] ds) (hg : Gl X "range" := by rfl) (hs : starEach [a, b] X.env = [(false, eval a X.env), (false, eval b X.env)] := by rfl) (hs2 : starEach [b] X.env = [(false, eval b X.env)] := by rfl) : SI X tg (.Call (.Name "range" p) [a, b] [] pos) (dRange2 ds) := ⟨fun {S st ds g st1} q {as S' M} c m => by
  obtain ⟨⟨vs, st2⟩, e1, q⟩ := bnd q
  dsimp only at q
  split at q
  · split at q
    · rename_i hb
      cases q
      refine ji_range2 hm (h.bind e1 c m fun bs r' M1 q1 c1 m1 => ?_) hg hs hs2
      obtain ⟨r, r2, rfl, qa, qb⟩ := cvs2 q1
      cases qa
      cases qb
      exact ⟨_, _, rfl, hb, rfl, bs, m1, fun _ _ _ _ _ => trivial⟩
    · cases q
  · cases q⟩
/-- what a value that is walked holds -/
def srcA (st : Sto) : AV → Option (List PyData × List (Nat × List PyData))
  | .dat (.list ds) => some (ds, [])
  | .dat (.tuple ds) => some (ds, [])
  | .dat (.str z) => some (signsD z, [])
  | .han k => match st[k]? with
    | some (some (.lst ds)) => some (ds, [(k, ds)])
    | _ => none
  | _ => none
theorem srcA_ok {st : Sto} {v : AV} {ds : List PyData} {g : List (Nat × List PyData)} (h : srcA st v = some (ds, g)) {as : List Addr} {r : SD} (cv : Cv as v r) : ∀ bs st2 M2, CM (as ++ bs) st2 M2 → gOk g st2 = true → SrcD M2 r ds := by
  cases v with
  | un => cases h
  | kv _ => cases h
  | dat d =>
    cases cv
    cases d with
    | list ds => cases h; exact fun _ _ _ _ _ => .lst .dat
    | tuple ds => cases h; exact fun _ _ _ _ _ => .tup
    | str ds => cases h; exact fun _ _ _ _ _ => .str
    | _ => cases h
  | han k =>
    have h : (match st[k]? with
      | some (some (.lst ds)) => some (ds, [(k, ds)])
      | _ => none) = some (ds, g) := h
    cases z : st[k]? with
    | none => rw [z] at h; cases h
    | some o => cases o with
      | none => rw [z] at h; cases h
      | some o => cases o with
        | dK _ => rw [z] at h; cases h
        | ob _ => rw [z] at h; cases h
        | lst es =>
          rw [z] at h
          cases h
          cases cv with
          | han ha => exact fun bs st2 M2 m2 hg => .lst (.lst ((m2.mem _).mpr ⟨k, app_get ha, gOk_one hg⟩))
theorem srcA_now {st : Sto} {v : AV} {ds : List PyData} {g : List (Nat × List PyData)} (h : srcA st v = some (ds, g)) {as : List Addr} {r : SD} {M : MS} (cv : Cv as v r) (m : CM as st M) : SrcD M r ds := by
  cases v with
  | un => cases h
  | kv _ => cases h
  | dat d =>
    cases cv
    cases d with
    | list ds => cases h; exact .lst .dat
    | tuple ds => cases h; exact .tup
    | str ds => cases h; exact .str
    | _ => cases h
  | han k =>
    have h : (match st[k]? with
      | some (some (.lst ds)) => some (ds, [(k, ds)])
      | _ => none) = some (ds, g) := h
    cases z : st[k]? with
    | none => rw [z] at h; cases h
    | some o => cases o with
      | none => rw [z] at h; cases h
      | some o => cases o with
        | dK _ => rw [z] at h; cases h
        | ob _ => rw [z] at h; cases h
        | lst es =>
          rw [z] at h
          cases h
          cases cv with
          | han ha => exact .lst (.lst ((m.mem _).mpr ⟨k, ha, z⟩))
def dEnum (ds : DAs) : DI := fun S st => (ds S st).bind fun p => match p.1 with
  | [v] => (srcA p.2 v).map fun q => (enumD 0 q.1, q.2, p.2)
  | _ => none
theorem si_enum {elts : List Expr} {kk : Nat} {tpos : Pos} (hm : X.mg "enumerate" = none) (h : SA X [e] ds) (hg : Gl X "enumerate" := by rfl) (hs : starEach [e] X.env = [(false, eval e X.env)] := by rfl) : SI X (.Tuple elts kk tpos) (.Call (.Name "enumerate" p) [e] [] pos) (dEnum ds) := ⟨fun {S st ds g st1} q {as S' M} c m => by
  obtain ⟨⟨vs, st2⟩, e1, q⟩ := bnd q
  dsimp only at q
  split at q
  · obtain ⟨⟨xs, g1⟩, e2, q⟩ := Option.map_eq_some_iff.mp q
    cases q
    refine ji_enum hm (h.bind e1 c m fun bs r' M1 q1 c1 m1 => ?_) hg hs
    obtain ⟨r, rfl, qa⟩ := cvs1 q1
    exact ⟨r, xs, rfl, srcA_now e2 qa m1, rfl, bs, m1, fun cs st3 M3 m3 hg => srcA_ok e2 qa cs _ _ m3 hg⟩
  · cases q⟩
def dZip (ds : DAs) : DI := fun S st => (ds S st).bind fun p => match p.1 with
  | [v, w] => (srcA p.2 v).bind fun q => (srcA p.2 w).map fun r => (zipD q.1 r.1, q.2 ++ r.2, p.2)
  | _ => none
theorem si_zip {elts : List Expr} {kk : Nat} {tpos : Pos} (hm : X.mg "zip" = none) (h : SA X [a, b] ds) (hg : Gl X "zip" := by rfl) (hs : starEach [a, b] X.env = (false, eval a X.env) :: starEach [b] X.env := by rfl) (hpl : (backTo pos (starEach [b] X.env)).any (·.1) = false := by rfl) : SI X (.Tuple elts kk tpos) (.Call (.Name "zip" p) [a, b] [] pos) (dZip ds) := ⟨fun {S st ds g st1} q {as S' M} c m => by
  obtain ⟨⟨vs, st2⟩, e1, q⟩ := bnd q
  dsimp only at q
  split at q
  · obtain ⟨⟨xs, g1⟩, e2, q⟩ := bnd q
    obtain ⟨⟨ys, g2⟩, e3, q⟩ := Option.map_eq_some_iff.mp q
    cases q
    refine ji_zip hm (h.bind e1 c m fun bs r' M1 q1 c1 m1 => ?_) hg hs hpl
    obtain ⟨r, r2, rfl, qa, qb⟩ := cvs2 q1
    exact ⟨r, r2, xs, ys, rfl, srcA_now e2 qa m1, srcA_now e3 qb m1, rfl, bs, m1, fun cs st3 M3 m3 hg => ⟨srcA_ok e2 qa cs _ _ m3 (gOk_app hg).1, srcA_ok e3 qb cs _ _ m3 (gOk_app hg).2⟩⟩
  · cases q⟩
/-! ### for -/
def forL (g : List (Nat × List PyData)) (tg : DTg) (body : DSt) : List PyData → List AV → Sto → Option (Fl × List AV × Sto)
  | [], S, st => if gOk g st then some (.nx, S, st) else none
  | d :: r, S, st => if gOk g st then (tg (.dat d) S st).bind fun p => (body p.1 p.2).bind fun q => match q.1 with
    | .nx => forL g tg body r q.2.1 q.2.2
    | .ct => forL g tg body r q.2.1 q.2.2
    | .bk => some (.nx, q.2.1, q.2.2)
    | .rt v => some (.rt v, q.2.1, q.2.2) else none
def sFor (di : DI) (tg : DTg) (body : DSt) : DSt := fun S st => (di S st).bind fun t => forL t.2.1 tg body t.1 S t.2.2
theorem drop_at {α : Type} {l : List α} {i : Nat} {a : α} (h : l[i]? = some a) : l.drop i = a :: l.drop (i + 1) := by
  obtain ⟨h1, h2⟩ := List.getElem?_eq_some_iff.mp h
  rw [List.drop_eq_getElem_cons h1, h2]
theorem forL_ok {gd : List (Nat × List PyData)} {l : List PyData} {S : List AV} {st : Sto} {r : Fl × List AV × Sto} (h : forL gd g d1 l S st = some r) : gOk gd st = true := by
  cases l with
  | nil =>
    unfold forL at h
    split at h
    · assumption
    · cases h
  | cons _ _ =>
    unfold forL at h
    split at h
    · assumption
    · cases h
theorem ss_for (hp : PassesOwn (model X.prog X.w) X.A X.env X.xe) (hc : X.calm = true) (hi : SI X tg iter di) (hg : SG X tg (List.range 64) g) (hb : SB X body d1) (hs : ∀ x, foldedSetIterable iter X.env x = pure x := by intro _; rfl) : SS X (.For tg iter body [] pos) (sFor di g d1) := ⟨fun {S st fl S1 st1} q {as S' M} c m => by
  obtain ⟨⟨ds, gd, st2⟩, e1, q⟩ := bnd q
  refine js_for hp hc ((hi.run e1 c m).mono fun ds' G M1 ⟨hd, bs, m1, hG⟩ => ?_) hs
  subst hd
  refine ⟨fun i S'' M'' => ∃ S2 st3 cs, forL gd g d1 (ds'.drop i) S2 st3 = some (fl, S1, st1) ∧ CvS (as ++ bs ++ cs) S2 S'' ∧ CM (as ++ bs ++ cs) st3 M'', ⟨S, st2, [], q, by rw [List.append_nil]; exact c.app bs, by rwa [List.append_nil]⟩, ?_, ?_, ?_⟩
  · rintro i S3 M3 _ ⟨S2, st3, cs, h, c3, m3⟩
    exact hG cs st3 M3 m3 (forL_ok h)
  · rintro i d S3 M3 hd ⟨S2, st3, cs, h, c3, m3⟩
    rw [drop_at hd] at h
    have hok := forL_ok h
    unfold forL at h
    rw [if_pos hok] at h
    obtain ⟨⟨S4, st4⟩, e4, h⟩ := bnd h
    obtain ⟨⟨fl5, S5, st5⟩, e5, h⟩ := bnd h
    refine (hg.run e4 .dat c3 m3).mono fun S6 M6 ⟨ds6, c6, m6⟩ => ?_
    refine (hb.run e5 c6 m6).mono (fun S7 M7 z => ?_) (fun r M7 z => ?_) (fun S7 M7 z => ?_) fun S7 M7 z => ?_
    · obtain ⟨rfl, es7, c7, m7⟩ := z
      refine ⟨S5, st5, cs ++ ds6 ++ es7, h, ?_, ?_⟩
      · simpa [List.append_assoc] using c7
      · simpa [List.append_assoc] using m7
    · obtain ⟨v, rfl, z⟩ := z
      cases h
      exact ⟨v, rfl, z.app.app.app⟩
    · obtain ⟨rfl, z⟩ := z
      cases h
      exact ⟨rfl, z.app.app.app⟩
    · obtain ⟨rfl, es7, c7, m7⟩ := z
      refine ⟨S5, st5, cs ++ ds6 ++ es7, h, ?_, ?_⟩
      · simpa [List.append_assoc] using c7
      · simpa [List.append_assoc] using m7
  · rintro S3 M3 ⟨S2, st3, cs, h, c3, m3⟩
    rw [List.drop_length] at h
    have hok := forL_ok h
    unfold forL at h
    rw [if_pos hok] at h
    cases h
    exact ⟨rfl, (PstS.here c3 m3).app.app⟩⟩
/-! ### while: n bounds the turns -/
def whileL (t : DTt) (body : DSt) : Nat → List AV → Sto → Option (Fl × List AV × Sto)
  | 0, _, _ => none
  | n + 1, S, st => (t S st).bind fun p => match p.1 with
    | false => some (.nx, S, p.2)
    | true => (body S p.2).bind fun q => match q.1 with
      | .nx => whileL t body n q.2.1 q.2.2
      | .ct => whileL t body n q.2.1 q.2.2
      | .bk => some (.nx, q.2.1, q.2.2)
      | .rt v => some (.rt v, q.2.1, q.2.2)
def sWhile (n : List AV → Sto → Nat) (t : DTt) (body : DSt) : DSt := fun S st => whileL t body (n S st) S st
theorem ss_while (n : List AV → Sto → Nat) (hp : PassesOwn (model X.prog X.w) X.A X.env X.xe) (ht : ST X c tc) (hb : SB X body d1) : SS X (.While c body [] pos) (sWhile n tc d1) := ⟨fun {S st fl S1 st1} q {as S' M} c m => by
  refine js_while hp (fun k S'' M'' => ∃ S2 st3 cs, whileL tc d1 k S2 st3 = some (fl, S1, st1) ∧ CvS (as ++ cs) S2 S'' ∧ CM (as ++ cs) st3 M'') (n S st) ⟨S, st, [], q, by rwa [List.append_nil], by rwa [List.append_nil]⟩ ?_
  rintro k S3 M3 ⟨S2, st3, cs, h, c3, m3⟩
  cases k with
  | zero => cases h
  | succ k =>
    obtain ⟨⟨b, st4⟩, e4, h⟩ := bnd h
    refine ht.bind e4 c3 m3 fun ds M4 c4 m4 => ?_
    cases b with
    | false =>
      cases h
      exact ⟨rfl, (PstS.here c4 m4).app.app⟩
    | true =>
      obtain ⟨⟨fl5, S5, st5⟩, e5, h⟩ := bnd h
      refine (hb.run e5 c4 m4).mono (fun S7 M7 z => ?_) (fun r M7 z => ?_) (fun S7 M7 z => ?_) fun S7 M7 z => ?_
      · obtain ⟨rfl, es7, c7, m7⟩ := z
        refine ⟨k, Nat.lt_succ_self k, S5, st5, cs ++ ds ++ es7, h, ?_, ?_⟩
        · simpa [List.append_assoc] using c7
        · simpa [List.append_assoc] using m7
      · obtain ⟨v, rfl, z⟩ := z
        cases h
        exact ⟨v, rfl, z.app.app⟩
      · obtain ⟨rfl, z⟩ := z
        cases h
        exact ⟨rfl, z.app.app⟩
      · obtain ⟨rfl, es7, c7, m7⟩ := z
        refine ⟨k, Nat.lt_succ_self k, S5, st5, cs ++ ds ++ es7, h, ?_, ?_⟩
        · simpa [List.append_assoc] using c7
        · simpa [List.append_assoc] using m7⟩
/-! ### list comprehensions -/
structure STs (X : Cx) (ifs : List Expr) (d : DTt) : Prop where
  run : ∀ {S st r st'}, d S st = some (r, st') → ∀ {as S' M}, CvS as S S' → CM as st M → JTs X ifs S' M (fun b M' => b = r ∧ ∃ bs, CM (as ++ bs) st' M')
def tYes : DTt := fun _ st => some (true, st)
theorem sts_nil : STs X [] tYes := ⟨fun e _ _ _ _ m => by cases e; exact jts_nil ⟨rfl, [], by rwa [List.append_nil]⟩⟩
theorem sts_one (h : ST X c tc) : STs X [c] tc := ⟨fun e _ _ _ c m => jts_one (h.run e c m)⟩
def wipeA (S : List AV) : List Nat → List AV
  | [] => S
  | v :: vs => (wipeA S vs).set v .un
theorem CvS.wipe {as : List Addr} {S : List AV} {S' : List SD} (c : CvS as S S') : ∀ ws : List Nat, CvS as (wipeA S ws) (wipeS S' ws)
  | [] => c
  | v :: ws => (CvS.wipe c ws).set .un v
def lcL (g : List (Nat × List PyData)) (tg : DTg) (t : DTt) (el : DX) (S : List AV) : List PyData → Sto → Option (List PyData × Sto)
  | [], st => if gOk g st then some ([], st) else none
  | d :: r, st => if gOk g st then (tg (.dat d) S st).bind fun p => (t p.1 p.2).bind fun q => match q.1 with
    | false => lcL g tg t el S r q.2
    | true => (el p.1 q.2).bind fun v => match v.1 with
      | .dat x => (lcL g tg t el S r v.2).map fun z => (x :: z.1, z.2)
      | _ => none
    else none
def lcAll (di : DI) (ws : List Nat) (tg : DTg) (t : DTt) (el : DX) (S : List AV) (st : Sto) : Option (List PyData × Sto) := (di S st).bind fun u => if u.1.length ≤ 1000000 then lcL u.2.1 tg t el (wipeA S ws) u.1 u.2.2 else none
def dLc (di : DI) (ws : List Nat) (tg : DTg) (t : DTt) (el : DX) : DX := fun S st => (lcAll di ws tg t el S st).map fun z => (.dat (.list z.1), z.2)
def dLcM (di : DI) (ws : List Nat) (tg : DTg) (t : DTt) (el : DX) : DX := fun S st => (lcAll di ws tg t el S st).map fun z => (.han z.2.length, z.2 ++ [some (.lst z.1)])
variable {elt : Expr} {ifs : List Expr} {scope : Scope} {own : List (Str × Nat)} {de : DX}
theorem lcL_ok {gd : List (Nat × List PyData)} {l : List PyData} {S : List AV} {st : Sto} {r : List PyData × Sto} (h : lcL gd g tc de S l st = some r) : gOk gd st = true := by
  cases l with
  | nil =>
    unfold lcL at h
    split at h
    · assumption
    · cases h
  | cons _ _ =>
    unfold lcL at h
    split at h
    · assumption
    · cases h
theorem lcK_of {S : List AV} {st st1 : Sto} {l : List PyData} {as : List Addr} {S' : List SD} {M : MS} {R : List PyData → MS → Prop} (hi : SI X tg iter di) (hg : AllB X scope fun Y => SG Y tg (own.map (·.2)) g) (ht : AllB X scope fun Y => STs Y ifs tc) (he : AllB X scope fun Y => SE Y elt de)
    (q : lcAll di (own.map (·.2)) g tc de S st = some (l, st1)) (c : CvS as S S') (m : CM as st M) (hR : ∀ M' bs, CM (as ++ bs) st1 M' → R l M') : JI X tg iter S' M (LcK X scope own tg elt ifs S' R) := by
  obtain ⟨⟨ds, gd, st2⟩, e1, q⟩ := bnd q
  split at q
  · rename_i hz
    refine (hi.run e1 c m).mono fun ds' G M1 ⟨hd, bs, m1, hG⟩ => ?_
    subst hd
    refine ⟨hz, fun i acc M'' => ∃ rest st3 cs, lcL gd g tc de (wipeA S (own.map (·.2))) (ds'.drop i) st3 = some (rest, st1) ∧ acc ++ rest = l ∧ CM (as ++ bs ++ cs) st3 M'', ⟨l, st2, [], q, rfl, by rwa [List.append_nil]⟩, ?_, ?_, ?_⟩
    · rintro i acc M3 _ ⟨rest, st3, cs, h, ha, m3⟩
      exact hG cs st3 M3 m3 (lcL_ok h)
    · rintro i d acc M3 hd ⟨rest, st3, cs, h, ha, m3⟩
      rw [drop_at hd] at h
      have hok := lcL_ok h
      unfold lcL at h
      rw [if_pos hok] at h
      obtain ⟨⟨S4, st4⟩, e4, h⟩ := bnd h
      obtain ⟨⟨k, st5⟩, e5, h⟩ := bnd h
      have c3 : CvS (as ++ bs ++ cs) (wipeA S (own.map (·.2))) (wipeS S' (own.map (·.2))) := ((c.app bs).app cs).wipe _
      intro s0 H0 C cl fp
      refine ((hg s0 H0 C cl fp).run e4 .dat c3 m3).mono fun S6 M6 ⟨ds6, c6, m6⟩ => ?_
      intro s0 H0 C cl fp
      refine ⟨fun σ H B w s => ?_⟩
      intro pins s' I
      refine thn (((ht s0 H0 C cl fp).run e5 c6 m6).run σ H B w s pins s' I) fun bb s'' ⟨H4, I4, q4⟩ => ⟨H4, I4, QT.back .refl (fun r M' z => ?_) q4⟩
      obtain ⟨rfl, es7, m7⟩ := z
      cases r with
      | false =>
        rw [if_neg Bool.false_ne_true]
        refine ⟨rest, st5, cs ++ ds6 ++ es7, h, ha, ?_⟩
        simpa [List.append_assoc] using m7
      | true =>
        rw [if_pos rfl]
        obtain ⟨⟨v, st8⟩, e8, h⟩ := bnd h
        intro s0 H0 C cl fp
        refine (he s0 H0 C cl fp).bind e8 (c6.app es7) m7 fun fs8 r8 M8 q8 c8 m8 => ?_
        cases v with
        | dat x =>
          cases q8
          obtain ⟨⟨rest', st9⟩, e9, h⟩ := Option.map_eq_some_iff.mp h
          cases h
          refine ⟨x, rfl, rest', st8, cs ++ ds6 ++ es7 ++ fs8, e9, by rw [← ha]; simp, ?_⟩
          simpa [List.append_assoc] using m8
        | _ => cases h
    · rintro acc M3 ⟨rest, st3, cs, h, ha, m3⟩
      rw [List.drop_length] at h
      have hok := lcL_ok h
      unfold lcL at h
      rw [if_pos hok] at h
      cases h
      rw [List.append_nil] at ha
      subst ha
      refine hR M3 (bs ++ cs) ?_
      simpa [List.append_assoc] using m3
  · cases q
theorem se_lc (own : List (Str × Nat)) (hc : X.calm = true) (hN : X.N.Nodup) (ok : blkC X.N X.env.scope scope own = true) (hi : SI X tg iter di) (hg : AllB X scope fun Y => SG Y tg (own.map (·.2)) g) (ht : AllB X scope fun Y => STs Y ifs tc) (he : AllB X scope fun Y => SE Y elt de)
    (hs : ∀ x, foldedSetIterable iter X.env x = pure x := by intro _; rfl) : SE X (.ListComp elt [⟨tg, iter, ifs, 0⟩] scope pos) (dLc di (own.map (·.2)) g tc de) := ⟨fun q _ _ _ c m => by
  obtain ⟨⟨l, st1⟩, e1, q⟩ := Option.map_eq_some_iff.mp q
  cases q
  exact je_lc own hc hN ok (lcK_of hi hg ht he e1 c m fun M' bs m' => ⟨bs, .dat, m'⟩) hs⟩
theorem se_lcM (own : List (Str × Nat)) (hc : X.calm = true) (hN : X.N.Nodup) (ok : blkC X.N X.env.scope scope own = true) (hi : SI X tg iter di) (hg : AllB X scope fun Y => SG Y tg (own.map (·.2)) g) (ht : AllB X scope fun Y => STs Y ifs tc) (he : AllB X scope fun Y => SE Y elt de)
    (hs : ∀ x, foldedSetIterable iter X.env x = pure x := by intro _; rfl) : SE X (.ListComp elt [⟨tg, iter, ifs, 0⟩] scope pos) (dLcM di (own.map (·.2)) g tc de) := ⟨fun q _ _ _ c m => by
  obtain ⟨⟨l, st1⟩, e1, q⟩ := Option.map_eq_some_iff.mp q
  cases q
  exact JE.nd (je_lcM own hc hN ok (lcK_of hi hg ht he e1 c m fun M' bs m' D nd => (pst_new m' nd).app) hs)⟩
/-- y = [..], y a plain local -/
theorem ss_setLc (i : Nat) (own : List (Str × Nat)) (hc : X.calm = true) (hN : X.N.Nodup) (ok : blkC X.N X.env.scope scope own = true) (hi : SI X tg iter di) (hg : AllB X scope fun Y => SG Y tg (own.map (·.2)) g) (ht : AllB X scope fun Y => STs Y ifs tc) (he : AllB X scope fun Y => SE Y elt de)
    (hsw : swapsWith (.ListComp elt [⟨tg, iter, ifs, 0⟩] scope pos) (some (.Name y p)) spos.line X.env = pure true := by exact sw_true rfl rfl rfl (by decide +kernel))
    (hy : X.N[i]? = some y := by rfl) (hyl : X.env.scope.names.lookup y = some .local := by rfl) (hs : ∀ x, foldedSetIterable iter X.env x = pure x := by intro _; rfl) : SS X (.Assign [.Name y p] (.ListComp elt [⟨tg, iter, ifs, 0⟩] scope pos) spos) (sSet i (dLc di (own.map (·.2)) g tc de)) := ⟨fun q _ _ _ c m => by
  obtain ⟨⟨v, st2⟩, e1, q⟩ := Option.map_eq_some_iff.mp q
  cases q
  obtain ⟨⟨l, st1⟩, e2, q⟩ := Option.map_eq_some_iff.mp e1
  cases q
  exact js_setLc own hc hN ok (lcK_of hi hg ht he e2 c m fun M' bs m' => ⟨rfl, bs, (c.app bs).set .dat i, m'⟩) hsw hy hyl hs⟩
theorem JS.nd {s : Stmt} {S : List SD} {M : MS} {P : DEnds} (h : JS X s S M { P with nx := fun S' M' => (dom M').Nodup → P.nx S' M' }) : JS X s S M P := ⟨fun σ H B w s =>
  (h.run σ H B w s).mono (fun _ _ ⟨B', S', M', a, b, c, d⟩ => ⟨B', S', M', a, b, c, d b.nd⟩) (fun _ _ q => q) (fun _ _ q => q) fun _ _ q => q⟩
theorem ss_setLcM (i : Nat) (own : List (Str × Nat)) (hc : X.calm = true) (hN : X.N.Nodup) (ok : blkC X.N X.env.scope scope own = true) (hi : SI X tg iter di) (hg : AllB X scope fun Y => SG Y tg (own.map (·.2)) g) (ht : AllB X scope fun Y => STs Y ifs tc) (he : AllB X scope fun Y => SE Y elt de)
    (hsw : swapsWith (.ListComp elt [⟨tg, iter, ifs, 0⟩] scope pos) (some (.Name y p)) spos.line X.env = pure true := by exact sw_true rfl rfl rfl (by decide +kernel))
    (hy : X.N[i]? = some y := by rfl) (hyl : X.env.scope.names.lookup y = some .local := by rfl) (hs : ∀ x, foldedSetIterable iter X.env x = pure x := by intro _; rfl) : SS X (.Assign [.Name y p] (.ListComp elt [⟨tg, iter, ifs, 0⟩] scope pos) spos) (sSet i (dLcM di (own.map (·.2)) g tc de)) := ⟨fun q _ _ _ c m => by
  obtain ⟨⟨v, st2⟩, e1, q⟩ := Option.map_eq_some_iff.mp q
  cases q
  obtain ⟨⟨l, st1⟩, e2, q⟩ := Option.map_eq_some_iff.mp e1
  cases q
  refine JS.nd (js_setLcM own hc hN ok (lcK_of hi hg ht he e2 c m fun M' bs m' D nd => ?_) hsw hy hyl hs)
  obtain ⟨cs, h1, h2⟩ := pst_new m' nd
  refine ⟨rfl, bs ++ cs, ?_, by rw [← List.append_assoc]; exact h2⟩
  rw [← List.append_assoc]
  exact ((c.app bs).app cs).set h1 i⟩
end
end DL
set_option Elab.async false
set_option linter.all false
set_option maxRecDepth 100000
set_option maxHeartbeats 4000000
namespace DL
open PySem PySem.Spec PyProof.Rows L2
/-! ### own defs -/
theorem CM.pick {as : List Addr} {st : Sto} {M : MS} (c : CM as st M) {ks : List Nat} {as' : List Addr} {st' : Sto} (nd : ks.Nodup) (l1 : as'.length = ks.length) (l2 : st'.length = ks.length) (hA : ∀ (j k : Nat), ks[j]? = some k → as'[j]? = as[k]?) (hS : ∀ (j k : Nat), ks[j]? = some k → st'[j]? = st[k]?) :
    ∃ M', (∀ p, p ∈ M' ↔ p ∈ M ∧ ∃ k ∈ ks, as[k]? = some p.1 ∧ st[k]? = some (some p.2)) ∧ (dom M').Nodup ∧ CM as' st' M' := by
  classical
  refine ⟨M.filter fun p => decide (∃ k ∈ ks, as[k]? = some p.1 ∧ st[k]? = some (some p.2)), fun p => by rw [List.mem_filter, decide_eq_true_iff], c.nd.sublist (List.filter_sublist.map _), ⟨by rw [l1, l2], fun p => ?_, c.nd.sublist (List.filter_sublist.map _), fun i j a m m' h1 h2 h3 h4 => ?_⟩⟩
  · rw [List.mem_filter, decide_eq_true_iff]
    constructor
    · rintro ⟨_, k, hk, e1, e2⟩
      obtain ⟨j, hj, e⟩ := List.mem_iff_getElem.mp hk
      have ej : ks[j]? = some k := by rw [List.getElem?_eq_getElem hj, e]
      exact ⟨j, by rw [hA j k ej]; exact e1, by rw [hS j k ej]; exact e2⟩
    · rintro ⟨j, e1, e2⟩
      have hj : j < ks.length := by rw [← l1]; exact (List.getElem?_eq_some_iff.mp e1).1
      have ej := List.getElem?_eq_getElem hj
      rw [hA j _ ej] at e1
      rw [hS j _ ej] at e2
      exact ⟨(c.mem p).mpr ⟨_, e1, e2⟩, _, List.getElem_mem hj, e1, e2⟩
  · have hi : i < ks.length := by rw [← l1]; exact (List.getElem?_eq_some_iff.mp h1).1
    have hj : j < ks.length := by rw [← l1]; exact (List.getElem?_eq_some_iff.mp h2).1
    have ei := List.getElem?_eq_getElem hi
    have ej := List.getElem?_eq_getElem hj
    rw [hA i _ ei] at h1
    rw [hA j _ ej] at h2
    rw [hS i _ ei] at h3
    rw [hS j _ ej] at h4
    exact (List.getElem_inj nd).mp (c.inj _ _ a m m' h1 h2 h3 h4)
theorem QD.less {K : Frag} {B H : Hp} {M : MS} {R R' : SD → MS → Prop} {v : V} {H' : Hp} (q : QD K B H M R v H') (h : ∀ r M', (dom M').Nodup → R r M' → ∃ M'', (∀ p, p ∈ M'' → p ∈ M') ∧ (dom M'').Nodup ∧ R' r M'') : QD K B H M R' v H' := by
  obtain ⟨B', r, M', st, w, ok, hr⟩ := q
  obtain ⟨M'', h1, h2, h3⟩ := h r M' w.nd hr
  refine ⟨B', r, M'', ⟨st.bb, st.fb, fun a ha => st.fm a ?_, st.fr⟩, ⟨w.le, fun p hp => w.mo p (h1 p hp), h2⟩, ok, h3⟩
  obtain ⟨p, hp, e⟩ := List.mem_map.mp ha
  exact List.mem_map.mpr ⟨p, h1 p hp, e⟩
abbrev DF := List AV → Sto → Option (AV × Sto)
def preF (fd : DF) : CDt := fun rs M R => ∃ as S0 st0 v st', CvS as S0 rs ∧ CM as st0 M ∧ fd S0 st0 = some (v, st') ∧ ∀ r M', Pst as st' v r M' → R r M'
/-- the def x computes fd; no deeper than k -/
abbrev SFn (P : Program) (w : World) (K : Frag) (mg : Str → Option Value) (base : Heap) (x : Str) (k : Nat) (fd : DF) : Prop := OwnD P w K mg base x k (preF fd)
/-- what is seen from outside: the first n objects, the one that is told -/
def outF (n : Nat) (v : AV) (st : Sto) : Option (AV × Sto) := match v with
  | .un => none
  | .han k => if k < n then some (.han k, st.take n) else match st[k]? with
    | some c => some (.han n, st.take n ++ [c])
    | none => none
  | v => some (v, st.take n)
def fnOf (np n : Nat) (body : DSt) : DF := fun S0 st0 => if S0.length = np then (body (S0 ++ List.replicate (n - S0.length) .un) st0).bind fun r => match r.1 with
  | .rt v => outF st0.length v r.2.2
  | .nx => outF st0.length .non r.2.2
  | _ => none else none
theorem get_in {α : Type} {n : Nat} {l : List α} (h : n ≤ l.length) (j k : Nat) (e : (List.range n)[j]? = some k) : (l.take n)[j]? = l[k]? := by
  obtain ⟨h1, h2⟩ := List.getElem?_eq_some_iff.mp e
  rw [List.length_range] at h1
  rw [List.getElem_range] at h2
  subst h2
  rw [List.getElem?_take_of_lt h1]
theorem outF_ok {as bs : List Addr} {st1 st' : Sto} {v v' : AV} {r : SD} {M : MS} (cv : Cv (as ++ bs) v r) (c : CM (as ++ bs) st1 M) (h : outF as.length v st1 = some (v', st')) : ∃ M'', (∀ p, p ∈ M'' → p ∈ M) ∧ (dom M'').Nodup ∧ Pst as st' v' r M'' := by
  have hl := c.len
  rw [List.length_append] at hl
  have plain : ∀ {u : AV}, Cv as u r → ∃ M'', (∀ p, p ∈ M'' → p ∈ M) ∧ (dom M'').Nodup ∧ Pst as (st1.take as.length) u r M'' := fun {u} hu => by
    obtain ⟨M'', h1, h2, h3⟩ := c.pick (ks := List.range as.length) (as' := as) (st' := st1.take as.length) List.nodup_range (by simp) (by simp; omega) (fun j k e => by
      have := get_in (l := as) (Nat.le_refl _) j k e
      rw [List.take_length] at this
      rw [this]
      rw [List.getElem?_append_left]
      obtain ⟨g1, g2⟩ := List.getElem?_eq_some_iff.mp e
      rw [List.length_range] at g1
      rw [List.getElem_range] at g2
      omega) (fun j k e => get_in (by omega) j k e)
    exact ⟨M'', fun p hp => ((h1 p).mp hp).1, h2, Pst.here hu h3⟩
  cases v with
  | un => cases h
  | dat d => cases h; cases cv; exact plain .dat
  | kv d => cases h; cases cv; exact plain .kv
  | han k =>
    cases cv with
    | han ha =>
      rename_i a
      unfold outF at h
      dsimp only at h
      split at h
      · rename_i hk
        cases h
        exact plain (.han (by rw [← ha, List.getElem?_append_left hk]))
      · rename_i hk
        split at h
        · rename_i cell hc
          cases h
          have nd : (List.range as.length ++ [k]).Nodup := by
            refine List.nodup_append.mpr ⟨List.nodup_range, by simp, fun x hx y hy e => ?_⟩
            have e2 : y = k := by simpa using hy
            rw [List.mem_range] at hx
            omega
          have hlt : (st1.take as.length).length = as.length := by simp; omega
          have last : ∀ (j i : Nat), ¬ j < as.length → (List.range as.length ++ [k])[j]? = some i → j - as.length = 0 ∧ i = k := fun j i hj e => by
            rw [List.getElem?_append_right (by simpa using hj)] at e
            have hz : j - as.length = 0 := by
              have := (List.getElem?_eq_some_iff.mp e).1
              simp at this; omega
            simp [hz] at e
            exact ⟨hz, e.symm⟩
          have first : ∀ (j i : Nat), j < as.length → (List.range as.length ++ [k])[j]? = some i → i = j := fun j i hj e => by
            rw [List.getElem?_append_left (by simpa using hj), List.getElem?_range hj] at e
            cases e
            rfl
          have hA : ∀ (j i : Nat), (List.range as.length ++ [k])[j]? = some i → (as ++ [a])[j]? = (as ++ bs)[i]? := fun j i e => by
            by_cases hj : j < as.length
            · rw [first j i hj e, List.getElem?_append_left hj, List.getElem?_append_left hj]
            · obtain ⟨hz, hi⟩ := last j i hj e
              rw [List.getElem?_append_right (by omega), hz, hi, ha]
              rfl
          have hS : ∀ (j i : Nat), (List.range as.length ++ [k])[j]? = some i → (st1.take as.length ++ [cell])[j]? = st1[i]? := fun j i e => by
            by_cases hj : j < as.length
            · rw [first j i hj e, List.getElem?_append_left (by omega), List.getElem?_take_of_lt hj]
            · obtain ⟨hz, hi⟩ := last j i hj e
              rw [List.getElem?_append_right (by omega), hlt, hz, hi, hc]
              rfl
          obtain ⟨M'', h1, h2, h3⟩ := c.pick nd (by simp) (by simp; omega) hA hS
          exact ⟨M'', fun p hp => ((h1 p).mp hp).1, h2, [a], .han (by simp), h3⟩
        · cases h
/-- what the rules ask of a context -/
structure Good (X : Cx) : Prop where
  hc : X.calm = true
  hN : X.N.Nodup
  sm : SysM X.K
  hu : X.A.units + 64 < cLine
structure GoodS (X : Cx) : Prop extends Good X where
  po : PassesOwn (model X.prog X.w) X.A X.env X.xe
theorem Good.blk {X : Cx} (G : Good X) (s0 : Shared) (H0 : Hp) (scope : Scope) (C : Addr) (cl : List (Str × Addr)) (fp : List Addr) : Good (blkX X s0 H0 scope C cl fp) := ⟨G.hc, G.hN, G.sm, G.hu⟩
section
variable {P : Program} {w : World} {K : Frag} {mg : Str → Option Value} {base : Heap} {x : Str} {params : Arguments} {body : List Stmt} {scope : Scope} {f : Addr} {fd : FuncData}
theorem own_F {N ps : List Str} {k : Nat} {d : DSt} (F : FunD K x x params body scope [] [] f fd) (hg : mg x = some (.ref f)) (S : FnScope N ps scope)
    (hb : ∀ (kV doc pm : Value) (an : Option Addr) (cdv ct : Value) (us : List Value), us.length = ps.length → bindArgs (PySem.W.fnOf x x params body scope .none kV doc pm an cdv ct) ⟨us, []⟩ = pure (ps.zip us))
    (hN : N.Nodup) (sm : SysM K)
    (h : ∀ (cdv : Value) (A : Around) (outer : List Env) (s : Shared) (H : Hp) (E : XK), GoodS (cxD P w K mg base N x scope f cdv A outer s H E) → Room k (cxD P w K mg base N x scope f cdv A outer s H E).A → SB (cxD P w K mg base N x scope f cdv A outer s H E) body d) :
    SFn P w K mg base x (k + 1) (fnOf ps.length N.length d) := by
  refine own_D F hg S hb ?_ ?_
  · rintro rs M R ⟨as, S0, st0, v, st', c, m, e, q⟩
    unfold fnOf at e
    split at e
    · rw [← Paired.length c]; assumption
    · cases e
  · rintro cdv A outer s H E hr rs M R ⟨as, S0, st0, v, st', c, m, e, q⟩
    unfold fnOf at e
    split at e
    · rename_i hl
      obtain ⟨⟨fl, S1, st1⟩, e1, e⟩ := bnd e
      have un : ∀ n, CvS as (List.replicate n .un) (List.replicate n .un) := fun n => by
        induction n with
        | zero => exact .nil
        | succ n ih => exact .cons .un ih
      have cs : CvS as (S0 ++ List.replicate (N.length - S0.length) .un) (rs ++ List.replicate (N.length - rs.length) .un) := by
        rw [Paired.length c]
        exact Paired.appP c (un _)
      have hh := (h cdv A outer s H E ⟨⟨rfl, hN, sm, hr.units⟩, PassesOwn.never⟩ hr).run e1 cs m
      refine ⟨fun σ H B wd sl => ?_⟩
      refine TBW.mono (hh.run σ H B wd sl) ?_ ?_ ?_ ?_
      · rintro σ' H' ⟨B', S', M', a, b, c', d'⟩
        obtain ⟨rfl, bs, c2, m2⟩ := d'
        have e : outF st0.length .non st1 = some (v, st') := e
        rw [← m.len] at e
        obtain ⟨M'', h1, h2, h3⟩ := outF_ok (Cv.dat (as := as ++ bs)) m2 e
        refine ⟨B', S', M'', ⟨a.bb, a.fb, fun z hz => a.fm z ?_, a.fr⟩, ⟨b.le, fun p hp => b.mo p (h1 p hp), h2⟩, c', q _ _ h3⟩
        obtain ⟨p, hp, e⟩ := List.mem_map.mp hz
        exact List.mem_map.mpr ⟨p, h1 p hp, e⟩
      · intro u H' z
        refine z.less fun r M' nd ⟨v0, e0, bs, q1, q2⟩ => ?_
        subst e0
        have e : outF st0.length v0 st1 = some (v, st') := e
        rw [← m.len] at e
        obtain ⟨M'', h1, h2, h3⟩ := outF_ok q1 q2 e
        exact ⟨M'', h1, h2, q _ _ h3⟩
      · rintro σ' H' ⟨B', S', M', a, b, c', d'⟩
        obtain ⟨rfl, _⟩ := d'
        cases e
      · rintro σ' H' ⟨B', S', M', a, b, c', d'⟩
        obtain ⟨rfl, _⟩ := d'
        cases e
    · cases e
end
theorem SFn.to {P : Program} {w : World} {K : Frag} {mg : Str → Option Value} {base : Heap} {x : Str} {k : Nat} {f g : DF} (h : SFn P w K mg base x k f) (q : ∀ S st r, g S st = some r → f S st = some r) : SFn P w K mg base x k g := by
  obtain ⟨a, fd, ps, h1, h2, h3, h4⟩ := h.ex
  exact ⟨a, fd, ps, h1, h2, h3.imp fun vs H Q E ⟨B, M, rs, R, wd, ok, ⟨as, S0, st0, v, st', c, m, e, qq⟩, hq⟩ => ⟨B, M, rs, R, wd, ok, ⟨as, S0, st0, v, st', c, m, q _ _ _ e, qq⟩, hq⟩, h4⟩
end DL
set_option Elab.async false
set_option linter.all false
set_option maxRecDepth 100000
set_option maxHeartbeats 4000000
namespace DL
open PySem PySem.Spec PyProof.Rows L2
/-! ### calls of own defs: the objects handed in are told anew, from 0 on -/
def hansA : List AV → List Nat
  | [] => []
  | .han k :: r => k :: hansA r
  | .un :: r => hansA r
  | .dat _ :: r => hansA r
  | .kv _ :: r => hansA r
def renA : Nat → List AV → List AV
  | _, [] => []
  | n, .han _ :: r => .han n :: renA (n + 1) r
  | n, .un :: r => .un :: renA n r
  | n, .dat d :: r => .dat d :: renA n r
  | n, .kv v :: r => .kv v :: renA n r
def wb : Sto → List Nat → Sto → Sto
  | st, k :: ks, c :: cs => wb (st.set k c) ks cs
  | st, _, _ => st
def cells (st : Sto) : List Nat → Sto
  | [] => []
  | k :: ks => (st[k]?).getD none :: cells st ks
def inAll (n : Nat) : List Nat → Bool
  | [] => true
  | k :: ks => decide (k < n) && inAll n ks
def fresh1 : List Nat → Bool
  | [] => true
  | k :: ks => !ks.elem k && fresh1 ks
def callF (fd : DF) (vs : List AV) (st : Sto) : Option (AV × Sto) :=
  if inAll st.length (hansA vs) && fresh1 (hansA vs) then (fd (renA 0 vs) (cells st (hansA vs))).bind fun r => (outF (hansA vs).length r.1 r.2).bind fun o => match o.1 with
    | .han j => some (if j < (hansA vs).length then .han ((hansA vs)[j]?.getD 0) else .han (st.length + (j - (hansA vs).length)), wb st (hansA vs) o.2 ++ o.2.drop (hansA vs).length)
    | v => some (v, wb st (hansA vs) o.2 ++ o.2.drop (hansA vs).length)
  else none
theorem inAll_mem {n : Nat} : ∀ {ks : List Nat}, inAll n ks = true → ∀ k ∈ ks, k < n
  | k :: ks, h, i, hi => by
    simp [inAll] at h
    rcases List.mem_cons.mp hi with rfl | hi
    · exact h.1
    · exact inAll_mem h.2 i hi
theorem fresh1_nodup : ∀ {ks : List Nat}, fresh1 ks = true → ks.Nodup
  | [], _ => List.nodup_nil
  | k :: ks, h => by
    simp [fresh1] at h
    exact List.nodup_cons.mpr ⟨h.1, fresh1_nodup h.2⟩
theorem cells_length {st : Sto} : ∀ {ks : List Nat}, (cells st ks).length = ks.length
  | [] => rfl
  | k :: ks => by simp [cells, cells_length]
theorem cells_get {st : Sto} : ∀ {ks : List Nat} {j k : Nat}, (∀ i ∈ ks, i < st.length) → ks[j]? = some k → (cells st ks)[j]? = st[k]?
  | [], j, k, _, h => by simp at h
  | i :: ks, 0, k, hl, h => by
    simp at h
    subst h
    have := hl i (by simp)
    simp [cells, List.getElem?_eq_getElem this]
  | i :: ks, j + 1, k, hl, h => by
    simp at h
    simp [cells]
    exact cells_get (fun i hi => hl i (by simp [hi])) h
theorem wb_length : ∀ {ks : List Nat} {st cs : Sto}, (wb st ks cs).length = st.length
  | [], st, cs => by simp [wb]
  | k :: ks, st, [] => by simp [wb]
  | k :: ks, st, c :: cs => by simp [wb, wb_length]
theorem wb_off : ∀ {ks : List Nat} {st cs : Sto} {k : Nat}, k ∉ ks → (wb st ks cs)[k]? = st[k]?
  | [], st, cs, k, _ => by simp [wb]
  | i :: ks, st, [], k, _ => by simp [wb]
  | i :: ks, st, c :: cs, k, h => by
    simp at h
    rw [wb, wb_off h.2, List.getElem?_set_ne (fun z => h.1 z.symm)]
theorem wb_on : ∀ {ks : List Nat} {st cs : Sto} {j k : Nat}, ks.Nodup → ks[j]? = some k → k < st.length → j < cs.length → (wb st ks cs)[k]? = cs[j]?
  | [], st, cs, j, k, _, h, _, _ => by simp at h
  | i :: ks, st, [], j, k, _, _, _, h => by simp at h
  | i :: ks, st, c :: cs, 0, k, nd, h, hk, _ => by
    simp at h
    subst h
    rw [wb, wb_off (List.nodup_cons.mp nd).1, List.getElem?_set_self hk]
    rfl
  | i :: ks, st, c :: cs, j + 1, k, nd, h, hk, hj => by
    simp at h
    rw [wb, wb_on (List.nodup_cons.mp nd).2 h (by simpa using hk) (by simpa using hj)]
    rfl
theorem ren_ok {as1 as0 : List Addr} : ∀ {vs : List AV} {rs : List SD} {n : Nat}, CvS as1 vs rs → (∀ j k : Nat, (hansA vs)[j]? = some k → as0[n + j]? = as1[k]?) → CvS as0 (renA n vs) rs
  | [], _, _, .nil, _ => .nil
  | .un :: vs, _, n, .cons .un t, h => .cons .un (ren_ok t h)
  | .dat d :: vs, _, n, .cons .dat t, h => .cons .dat (ren_ok t h)
  | .kv d :: vs, _, n, .cons .kv t, h => .cons .kv (ren_ok t h)
  | .han k :: vs, _, n, .cons (.han e) t, h => .cons (.han (by have := h 0 k rfl; rw [Nat.add_zero] at this; rw [this]; exact e)) (ren_ok t fun j i q => by
      have := h (j + 1) i (by simpa [hansA] using q)
      rw [show n + 1 + j = n + (j + 1) by omega]; exact this)
theorem Stp.congr {B H B' H' : Hp} {A A1 A' : List Addr} (x : Stp B H A B' H' A') (h : ∀ a, a ∈ A ↔ a ∈ A1) : Stp B H A1 B' H' A' :=
  ⟨x.bb, fun a q => by rcases x.fb a q with z | z | z; exact .inl z; exact .inr (.inl z); exact .inr (.inr ((h a).mp z)), fun a q => by rcases x.fm a q with z | z; exact .inl ((h a).mp z); exact .inr z, fun a o q n => x.fr a o q fun z => n ((h a).mp z)⟩
theorem dom_uniq {M : MS} (nd : (dom M).Nodup) {p q : Addr × MO} (hp : p ∈ M) (hq : q ∈ M) (e : p.1 = q.1) : p = q := by
  obtain ⟨i, hi, ei⟩ := List.mem_iff_getElem.mp hp
  obtain ⟨j, hj, ej⟩ := List.mem_iff_getElem.mp hq
  have h : i = j := (List.getElem_inj (xs := dom M) (h₀ := by simpa using hi) (h₁ := by simpa using hj) nd).mp (by simp [ei, ej, e])
  subst h
  rw [← ei, ← ej]
/-- the caller's objects behind the call -/
theorem CM.join {as1 as0 bs : List Addr} {st1 st' : Sto} {hs : List Nat} {M1 M2 M3 L : MS} (c : CM as1 st1 M1) (lt : ∀ k ∈ hs, k < st1.length) (nd : hs.Nodup) (l0 : as0.length = hs.length) (hA : ∀ (j k : Nat), hs[j]? = some k → as0[j]? = as1[k]?)
    (h2 : ∀ p, p ∈ M2 ↔ p ∈ M1 ∧ ∃ k ∈ hs, as1[k]? = some p.1 ∧ st1[k]? = some (some p.2)) (hL : ∀ p, p ∈ L ↔ p ∈ M1 ∧ p ∉ M2) (c3 : CM (as0 ++ bs) st' M3) (ndF : (dom (L ++ M3)).Nodup) :
    CM (as1 ++ bs) (wb st1 hs st' ++ st'.drop hs.length) (L ++ M3) := by
  have hl := c3.len
  rw [List.length_append, l0] at hl
  have l1 := c.len
  have wl : (wb st1 hs st').length = st1.length := wb_length
  have sep : ∀ p ∈ L, ∀ q ∈ M3, p.1 ≠ q.1 := fun p hp q hq e => by
    have := dom_uniq ndF (List.mem_append_left _ hp) (List.mem_append_right _ hq) e
    have nd2 : (dom L ++ dom M3).Nodup := by simpa using ndF
    exact (List.nodup_append.mp nd2).2.2 p.1 (List.mem_map.mpr ⟨p, hp, rfl⟩) q.1 (List.mem_map.mpr ⟨q, hq, rfl⟩) e
  -- the callee's index of the caller's index k
  have inv : ∀ k a m, (as1 ++ bs)[k]? = some a → (wb st1 hs st' ++ st'.drop hs.length)[k]? = some (some m) →
      (k < st1.length ∧ k ∉ hs ∧ as1[k]? = some a ∧ st1[k]? = some (some m)) ∨ ∃ j, (as0 ++ bs)[j]? = some a ∧ st'[j]? = some (some m) ∧ ((j < hs.length ∧ hs[j]? = some k) ∨ (hs.length ≤ j ∧ k = st1.length + (j - hs.length))) := fun k a m e1 e2 => by
    by_cases hk : k < st1.length
    · rw [List.getElem?_append_left (by omega)] at e1
      rw [List.getElem?_append_left (by omega)] at e2
      by_cases hm : k ∈ hs
      · obtain ⟨j, hj, e⟩ := List.mem_iff_getElem.mp hm
        have ej : hs[j]? = some k := by rw [List.getElem?_eq_getElem hj, e]
        rw [wb_on nd ej hk (by omega)] at e2
        exact .inr ⟨j, by rw [List.getElem?_append_left (by omega), hA j k ej]; exact e1, e2, .inl ⟨hj, ej⟩⟩
      · rw [wb_off hm] at e2
        exact .inl ⟨hk, hm, e1, e2⟩
    · rw [List.getElem?_append_right (by omega)] at e1
      rw [List.getElem?_append_right (by omega), List.getElem?_drop, wl] at e2
      refine .inr ⟨hs.length + (k - st1.length), ?_, e2, .inr ⟨by omega, by omega⟩⟩
      rw [List.getElem?_append_right (by omega), l0]
      rw [show hs.length + (k - st1.length) - hs.length = k - as1.length by omega]
      exact e1
  have fwd : ∀ j a m, (as0 ++ bs)[j]? = some a → st'[j]? = some (some m) → ∃ k, (as1 ++ bs)[k]? = some a ∧ (wb st1 hs st' ++ st'.drop hs.length)[k]? = some (some m) := fun j a m e1 e2 => by
    have hj := (List.getElem?_eq_some_iff.mp e2).1
    by_cases hm : j < hs.length
    · have ej := List.getElem?_eq_getElem hm
      have hk := lt _ (List.getElem_mem hm)
      refine ⟨hs[j], ?_, ?_⟩
      · rw [List.getElem?_append_left (by omega), ← hA j _ ej]
        rw [List.getElem?_append_left (by omega)] at e1
        exact e1
      · rw [List.getElem?_append_left (by omega), wb_on nd ej hk hj]
        exact e2
    · refine ⟨st1.length + (j - hs.length), ?_, ?_⟩
      · rw [List.getElem?_append_right (by omega), l0] at e1
        rw [List.getElem?_append_right (by omega)]
        rw [show st1.length + (j - hs.length) - as1.length = j - hs.length by omega]
        exact e1
      · rw [List.getElem?_append_right (by omega), List.getElem?_drop, wl]
        rw [show hs.length + (st1.length + (j - hs.length) - st1.length) = j by omega]
        exact e2
  refine ⟨by simp [wl]; omega, fun p => ?_, ndF, fun i j a m m' e1 e2 e3 e4 => ?_⟩
  · rw [List.mem_append, hL, c.mem, c3.mem]
    constructor
    · rintro (⟨⟨k, e1, e2⟩, nm⟩ | ⟨j, e1, e2⟩)
      · have hk : k ∉ hs := fun z => nm ((h2 p).mpr ⟨(c.mem p).mpr ⟨k, e1, e2⟩, k, z, e1, e2⟩)
        have hlt := (List.getElem?_eq_some_iff.mp e2).1
        exact ⟨k, app_get e1, by rw [List.getElem?_append_left (by omega), wb_off hk]; exact e2⟩
      · exact fwd j _ _ e1 e2
    · rintro ⟨k, e1, e2⟩
      rcases inv k _ _ e1 e2 with ⟨hk, hm, g1, g2⟩ | ⟨j, g1, g2, _⟩
      · refine .inl ⟨⟨k, g1, g2⟩, fun z => ?_⟩
        obtain ⟨_, k', hk', f1, f2⟩ := (h2 p).mp z
        have := c.inj k k' _ _ _ g1 f1 g2 f2
        subst this
        exact hm hk'
      · exact .inr ⟨j, g1, g2⟩
  · have inL : ∀ k b x, k ∉ hs → as1[k]? = some b → st1[k]? = some (some x) → (b, x) ∈ L := fun k b x hm f1 f2 => (hL _).mpr ⟨(c.mem _).mpr ⟨k, f1, f2⟩, fun z => by
      obtain ⟨_, k', hk', g1, g2⟩ := (h2 _).mp z
      have := c.inj k k' _ _ _ f1 g1 f2 g2
      subst this
      exact hm hk'⟩
    rcases inv i _ _ e1 e3 with ⟨hk, hm, g1, g2⟩ | ⟨i', g1, g2, g3⟩ <;> rcases inv j _ _ e2 e4 with ⟨hk', hm', f1, f2⟩ | ⟨j', f1, f2, f3⟩
    · exact c.inj _ _ _ _ _ g1 f1 g2 f2
    · exact absurd rfl (sep (a, m) (inL _ _ _ hm g1 g2) (a, m') ((c3.mem _).mpr ⟨j', f1, f2⟩))
    · exact absurd rfl (sep (a, m') (inL _ _ _ hm' f1 f2) (a, m) ((c3.mem _).mpr ⟨i', g1, g2⟩))
    · have e := c3.inj _ _ _ _ _ g1 f1 g2 f2
      subst e
      rcases g3 with ⟨q1, q2⟩ | ⟨q1, q2⟩ <;> rcases f3 with ⟨r1, r2⟩ | ⟨r1, r2⟩
      · rw [q2] at r2; exact Option.some.inj r2
      · omega
      · omega
      · omega
theorem call_ok {fd : DF} {as1 : List Addr} {st1 st3 : Sto} {vs : List AV} {rs : List SD} {v : AV} {M1 : MS} (h : callF fd vs st1 = some (v, st3)) (c : CM as1 st1 M1) (cv : CvS as1 vs rs) :
    ∃ (M2 L : MS) (R0 : SD → MS → Prop), preF fd rs M2 R0 ∧ (∀ p, p ∈ L ++ M2 ↔ p ∈ M1) ∧ (dom (L ++ M2)).Nodup ∧
      ∀ r M', (dom (L ++ M')).Nodup → R0 r M' → ∃ M'', (∀ p, p ∈ M'' → p ∈ L ++ M') ∧ (dom M'').Nodup ∧ Pst as1 st3 v r M'' := by
  classical
  unfold callF at h
  split at h
  · rename_i hb
    have hb := Bool.and_eq_true_iff.mp hb
    have lt := inAll_mem hb.1
    have nd := fresh1_nodup hb.2
    obtain ⟨⟨v0, st2⟩, e1, h⟩ := bnd h
    obtain ⟨⟨v1, st'⟩, e2, h⟩ := bnd h
    have hA : ∀ (j k : Nat), (hansA vs)[j]? = some k → ((hansA vs).map fun k => (as1[k]?).getD 0)[j]? = as1[k]? := fun j k e => by
      rw [List.getElem?_map, e]
      have := lt k (List.mem_of_getElem? e)
      rw [← c.len] at this
      simp [List.getElem?_eq_getElem this]
    obtain ⟨M2, h2, nd2, c2⟩ := c.pick nd (as' := (hansA vs).map fun k => (as1[k]?).getD 0) (st' := cells st1 (hansA vs)) (by simp) cells_length hA (fun j k e => cells_get lt e)
    refine ⟨M2, M1.filter fun p => decide (p ∉ M2), fun r M' => Pst ((hansA vs).map fun k => (as1[k]?).getD 0) st2 v0 r M', ⟨_, _, _, v0, st2, ren_ok cv fun j k e => by rw [Nat.zero_add]; exact hA j k e, c2, e1, fun _ _ z => z⟩, fun p => ?_, ?_, fun r M' ndF hr => ?_⟩
    · rw [List.mem_append, List.mem_filter, decide_eq_true_iff]
      constructor
      · rintro (z | z)
        · exact z.1
        · exact ((h2 p).mp z).1
      · intro z
        by_cases q : p ∈ M2
        · exact .inr q
        · exact .inl ⟨z, q⟩
    · have : (dom (M1.filter fun p => decide (p ∉ M2)) ++ dom M2).Nodup := by
        refine List.nodup_append.mpr ⟨c.nd.sublist (List.filter_sublist.map _), nd2, fun x hx y hy e => ?_⟩
        obtain ⟨p, hp, rfl⟩ := List.mem_map.mp hx
        obtain ⟨q, hq, rfl⟩ := List.mem_map.mp hy
        rw [List.mem_filter, decide_eq_true_iff] at hp
        have := dom_uniq c.nd hp.1 ((h2 q).mp hq).1 e
        subst this
        exact hp.2 hq
      simpa using this
    · obtain ⟨bs, q1, q2⟩ := hr
      have e2' : outF ((hansA vs).map fun k => (as1[k]?).getD 0).length v0 st2 = some (v1, st') := by rw [List.length_map]; exact e2
      obtain ⟨M3, g1, g2, cs, g3, g4⟩ := outF_ok q1 q2 e2'
      have nd3 : (dom ((M1.filter fun p => decide (p ∉ M2)) ++ M3)).Nodup := by
        have n1 : (dom (M1.filter fun p => decide (p ∉ M2)) ++ dom M').Nodup := by simpa using ndF
        obtain ⟨a1, a2, a3⟩ := List.nodup_append.mp n1
        have : (dom (M1.filter fun p => decide (p ∉ M2)) ++ dom M3).Nodup := List.nodup_append.mpr ⟨a1, g2, fun x hx y hy e => by
          obtain ⟨q, hq, rfl⟩ := List.mem_map.mp hy
          exact a3 x hx q.1 (List.mem_map.mpr ⟨q, g1 q hq, rfl⟩) e⟩
        simpa using this
      have J := CM.join c lt nd (by simp) hA h2 (fun p => by rw [List.mem_filter, decide_eq_true_iff]) g4 nd3
      have fin : ∀ {u : AV}, Cv (as1 ++ cs) u r → st3 = wb st1 (hansA vs) st' ++ st'.drop (hansA vs).length → v = u → ∃ M'', (∀ p, p ∈ M'' → p ∈ (M1.filter fun p => decide (p ∉ M2)) ++ M') ∧ (dom M'').Nodup ∧ Pst as1 st3 v r M'' := fun {u} hu es ev => by
        subst es ev
        refine ⟨_, fun p hp => ?_, nd3, cs, hu, J⟩
        rcases List.mem_append.mp hp with z | z
        · exact List.mem_append_left _ z
        · exact List.mem_append_right _ (g1 p z)
      cases v1 with
      | un => cases g3; cases h; exact fin .un rfl rfl
      | dat d => cases g3; cases h; exact fin .dat rfl rfl
      | kv d => cases g3; cases h; exact fin .kv rfl rfl
      | han j =>
        cases g3 with
        | han ga =>
          cases h
          have l0 : ((hansA vs).map fun k => (as1[k]?).getD 0).length = (hansA vs).length := by simp
          by_cases hj : j < (hansA vs).length
          · rw [List.getElem?_append_left (by omega)] at ga
            have ej := List.getElem?_eq_getElem hj
            rw [hA j _ ej] at ga
            refine fin (u := .han ((hansA vs)[j])) (.han (app_get ga)) rfl ?_
            rw [if_pos hj, ej]
            rfl
          · rw [List.getElem?_append_right (by omega), l0] at ga
            refine fin (u := .han (st1.length + (j - (hansA vs).length))) (.han ?_) rfl (by rw [if_neg hj])
            have := c.len
            rw [List.getElem?_append_right (by omega)]
            rw [show st1.length + (j - (hansA vs).length) - as1.length = j - (hansA vs).length by omega]
            exact ga
  · cases h
section
variable {X : Cx} {e : Expr} {es : List Expr} {pos p : Pos} {x : Str} {ds : DAs} {fd : DF}
def dCall (fd : DF) (ds : DAs) : DX := fun S st => (ds S st).bind fun q => callF fd q.1 q.2
theorem se_call {k : Nat} (o : SFn X.prog X.w X.K X.mg X.base x k fd) (hr : Room k X.A) (ha : SA X (e :: es) ds)
    (hg : Gl X x := by rfl) (hdb : (x == ("__debug__" : Str)) = false := by decide) (he : starEach (e :: es) X.env = (false, eval e X.env) :: starEach es X.env := by rfl) (hpl : (backTo pos (starEach es X.env)).any (·.1) = false := by rfl) : SE X (.Call (.Name x p) (e :: es) [] pos) (dCall fd ds) := ⟨fun {S st r st'} q {as S' M} cS m => ⟨fun σ H B w s => by
  obtain ⟨⟨vs, st1⟩, e1, q⟩ := bnd q
  obtain ⟨f, fdd, ps, hm, hk, F, hb⟩ := o.ex
  refine of_pe (pe_call F hr hg hm hk hb .nil pass0 pa_w hdb he hpl) (((ha.run e1 cS m).run σ H B w s).mono fun us H1 ⟨B1, rs, M1, stp1, w1, ok1, bs, c1, m1⟩ => ?_)
  rw [List.append_nil]
  obtain ⟨M2, L, R0, hp, hmem, hnd, hout⟩ := call_ok q m1 c1
  have w1' : Wd X.K B1 H1 (L ++ M2) := ⟨w1.le, fun p hp => w1.mo p ((hmem p).mp hp), hnd⟩
  have w2 : Wd X.K B1 H1 M2 := ⟨w1.le, fun p hp => w1.mo p ((hmem p).mp (List.mem_append_right _ hp)), by
    have : (dom L ++ dom M2).Nodup := by simpa using hnd
    exact (List.nodup_append.mp this).2.1⟩
  refine ⟨B1, M2, rs, _, w2, ok1, hp, fun v H' ⟨B2, r, M', st2, w3, ok2, h2⟩ => ?_⟩
  obtain ⟨w4, st4⟩ := Wd.frame w1' st2 w3
  obtain ⟨M'', g1, g2, g3⟩ := hout r M' w4.nd h2
  have st5 : Stp B1 H1 (dom M1) B2 H' (dom (L ++ M')) := st4.congr fun a => by
    constructor
    · intro z
      obtain ⟨p, hp, e⟩ := List.mem_map.mp z
      exact List.mem_map.mpr ⟨p, (hmem p).mp hp, e⟩
    · intro z
      obtain ⟨p, hp, e⟩ := List.mem_map.mp z
      exact List.mem_map.mpr ⟨p, (hmem p).mpr hp, e⟩
  refine QD.less (R := fun r' M1 => r' = r ∧ M1 = L ++ M') ⟨B2, r, L ++ M', stp1.trans st5, w4, ok2, rfl, rfl⟩ ?_
  rintro r' M5 nd5 ⟨rfl, rfl⟩
  exact ⟨M'', g1, g2, g3.app⟩⟩⟩
theorem se_call0 {k : Nat} (o : SFn X.prog X.w X.K X.mg X.base x k fd) (hr : Room k X.A)
    (hg : Gl X x := by rfl) (hdb : (x == ("__debug__" : Str)) = false := by decide) : SE X (.Call (.Name x p) [] [] pos) (dCall fd aNil) := ⟨fun {S st r st'} q {as S' M} cS m => ⟨fun σ H B w s => by
  obtain ⟨⟨vs, st1⟩, e1, q⟩ := bnd q
  cases e1
  obtain ⟨f, fdd, ps, hm, hk, F, hb⟩ := o.ex
  refine of_pe (pe_call0 F hr hg hm hk hb .nil pass0 hdb) ?_
  show spD X.K _ ([] ++ []) H _ E0
  obtain ⟨M2, L, R0, hp, hmem, hnd, hout⟩ := call_ok q m (.nil : CvS as [] [])
  have w1' : Wd X.K B H (L ++ M2) := ⟨w.le, fun p hp => w.mo p ((hmem p).mp hp), hnd⟩
  have w2 : Wd X.K B H M2 := ⟨w.le, fun p hp => w.mo p ((hmem p).mp (List.mem_append_right _ hp)), by
    have : (dom L ++ dom M2).Nodup := by simpa using hnd
    exact (List.nodup_append.mp this).2.1⟩
  refine ⟨B, M2, [], _, w2, .nil, hp, fun v H' ⟨B2, r, M', st2, w3, ok2, h2⟩ => ?_⟩
  obtain ⟨w4, st4⟩ := Wd.frame w1' st2 w3
  obtain ⟨M'', g1, g2, g3⟩ := hout r M' w4.nd h2
  have st5 : Stp B H (dom M) B2 H' (dom (L ++ M')) := st4.congr fun a => by
    constructor
    · intro z
      obtain ⟨p, hp, e⟩ := List.mem_map.mp z
      exact List.mem_map.mpr ⟨p, (hmem p).mp hp, e⟩
    · intro z
      obtain ⟨p, hp, e⟩ := List.mem_map.mp z
      exact List.mem_map.mpr ⟨p, (hmem p).mpr hp, e⟩
  refine QD.less (R := fun r' M1 => r' = r ∧ M1 = L ++ M') ⟨B2, r, L ++ M', st5, w4, ok2, rfl, rfl⟩ ?_
  rintro r' M5 nd5 ⟨rfl, rfl⟩
  exact ⟨M'', g1, g2, g3⟩⟩⟩
end
end DL
set_option Elab.async false
set_option linter.all false
set_option maxRecDepth 100000
set_option maxHeartbeats 4000000
namespace DL
open PySem PySem.Spec PyProof.Rows L2
/-! ### methods of lists that change them -/
section
variable {X : Cx} {o a e oe ie : Expr} {apos cpos tpos pos : Pos} {d1 d2 dv : DX}
abbrev mAppendE : MD := fun ro rs M R => ∃ i, mAppend i ro rs M R
theorem mj_appendE : MetJ X "list.append" mAppendE := ⟨_, mt_append, fun B H M ro rs R x vs Q w ok oks h hq => by
  obtain ⟨i, l, ds, d, rfl, rfl, hi, hz, h⟩ := h
  obtain ⟨v, rfl, okv⟩ := slots1 oks
  have e := ok.raw
  subst e
  obtain ⟨_, xs, hx, rx⟩ := w.mo _ (List.mem_of_getElem? hi)
  obtain ⟨w2, st2⟩ := w.upd (m' := .lst (ds ++ [d])) (o := .lst (xs ++ [v])) hi ⟨_, upd_same, rx.append (.one okv.dat)⟩
  exact ⟨l, xs, v, rfl, rfl, hx, by rw [rx.length, sizeLine_eq]; omega, hq _ _ ⟨B, _, _, st2, w2, .of .non, h⟩⟩⟩
/-- the list behind a number -/
def lstAt (st : Sto) : AV → Option (Nat × List PyData)
  | .han k => match st[k]? with
    | some (some (.lst ds)) => some (k, ds)
    | _ => none
  | _ => none
theorem lstAt_some {st : Sto} {v : AV} {k : Nat} {ds : List PyData} (h : lstAt st v = some (k, ds)) : v = .han k ∧ st[k]? = some (some (.lst ds)) := by
  cases v with
  | han j =>
    have h : (match st[j]? with
      | some (some (.lst ds)) => some (j, ds)
      | _ => none) = some (k, ds) := h
    cases z : st[j]? with
    | none => rw [z] at h; cases h
    | some o => cases o with
      | none => rw [z] at h; cases h
      | some o => cases o with
        | dK _ => rw [z] at h; cases h
        | ob _ => rw [z] at h; cases h
        | lst es => rw [z] at h; cases h; exact ⟨rfl, z⟩
  | _ => cases h
def dAppend (a b : DX) : DX := fun S st => (a S st).bind fun p => (lstAt p.2 p.1).bind fun _ => (b S p.2).bind fun q => (lstAt q.2 p.1).bind fun l => match q.1 with
  | .dat x => if l.2.length < 1000000 then some (.non, q.2.set l.1 (some (.lst (l.2 ++ [x])))) else none
  | _ => none
theorem isd_han {as : List Addr} {st : Sto} {M : MS} {v : AV} {r : SD} {k : Nat} {ds : List PyData} (h : lstAt st v = some (k, ds)) (cv : Cv as v r) (m : CM as st M) : ∃ (a : Addr) (i : Nat), r = .raw (.ref a) ∧ as[k]? = some a ∧ M[i]? = some (a, .lst ds) ∧ IsD M r (.list ds) := by
  obtain ⟨rfl, hk⟩ := lstAt_some h
  cases cv with
  | han ha =>
    obtain ⟨i, hi⟩ := m.idx ha hk
    exact ⟨_, i, rfl, ha, hi, .lst ((m.mem _).mpr ⟨k, ha, hk⟩)⟩
theorem se_append (h1 : SE X o d1) (h2 : SE X a d2) (hbase : attributeBase o "append" X.env (eval o X.env) = eval o X.env := by rfl)
    (hfew : ((backTo cpos (starEach [a] X.env)).all (fun x => !x.1) && (backToKw cpos (keywordEach [] X.env)).all (fun x => x.1.isSome)
      && decide ((a :: ([] : List Expr)).length + ([] : List Keyword).length + (if ([] : List Keyword).isEmpty then 0 else 1) < 30)) = true := by rfl)
    (hline : (apos.endLine == cpos.line) = true := by rfl) (hs : starEach [a] X.env = (false, eval a X.env) :: starEach [] X.env := by rfl) (hplain : (backTo cpos (starEach [] X.env)).any (·.1) = false := by rfl) :
    SE X (.Call (.Attribute o "append" apos) [a] [] cpos) (dAppend d1 d2) := ⟨fun {S st r st'} q {as S' M} c m => by
  obtain ⟨⟨v1, st1⟩, e1, q⟩ := bnd q
  obtain ⟨⟨k0, ds0⟩, e2, q⟩ := bnd q
  obtain ⟨⟨v3, st3⟩, e3, q⟩ := bnd q
  obtain ⟨⟨k, ds⟩, e4, q⟩ := bnd q
  cases v3 with
  | dat x =>
    have q : (if ds.length < 1000000 then some (AV.non, st3.set k (some (.lst (ds ++ [x])))) else none) = some (r, st') := q
    split at q
    · rename_i hz
      cases q
      refine je_bmL PySem.F.plainAttrs_list PySem.F.slot_list_append PySem.F.type_list_append mj_appendE (h1.bind e1 c m fun bs r1 M1 q1 c1 m1 => ?_) hbase hfew hline hs hplain
      obtain ⟨_, _, _, _, _, hd0⟩ := isd_han e2 q1 m1
      refine ⟨_, hd0, ja_cons (h2.bind e3 c1 m1 fun cs r3 M3 q3 c3 m3 => ?_) hs⟩
      refine ja_nil ?_
      obtain ⟨l, i, rfl, ha, hi, _⟩ := isd_han e4 (q1.app cs) m3
      cases q3
      obtain ⟨rfl, hk⟩ := lstAt_some e4
      exact ⟨i, l, ds, x, rfl, rfl, hi, hz, (Pst.here .dat (m3.upd ha hk hi)).app.app⟩
    · cases q
  | _ => cases q⟩
abbrev mPopE : MD := fun ro rs M R => ∃ i, mPop i ro rs M R
theorem mj_popE : MetJ X "list.pop" mPopE := ⟨_, mt_pop, fun B H M ro rs R x vs Q w ok oks h hq => by
  obtain ⟨i, l, ds, d, rfl, rfl, hi, h⟩ := h
  cases oks
  have e := ok.raw
  subst e
  obtain ⟨_, xs, hx, rx⟩ := w.mo _ (List.mem_of_getElem? hi)
  have hl := rx.length
  rw [List.length_append, List.length_singleton] at hl
  obtain ⟨v, hv, rv⟩ := rx.getD (i := ds.length) (d := d) (by simp)
  have rd := rx.dropLast
  rw [List.dropLast_concat] at rd
  obtain ⟨w2, st2⟩ := w.upd (m' := .lst ds) (o := .lst xs.dropLast) hi ⟨_, upd_same, rd⟩
  exact ⟨l, xs, v, rfl, rfl, hx, by rw [hl]; simpa using hv, hq _ _ ⟨B, _, _, st2, w2, .of rv, h⟩⟩⟩
def dPop (a : DX) : DX := fun S st => (a S st).bind fun p => (lstAt p.2 p.1).bind fun l => match l.2.getLast? with
  | some x => some (.dat x, p.2.set l.1 (some (.lst l.2.dropLast)))
  | none => none
theorem se_pop (h1 : SE X o d1) (hbase : attributeBase o "pop" X.env (eval o X.env) = eval o X.env := by rfl) (hline : (apos.endLine == cpos.line) = true := by rfl) :
    SE X (.Call (.Attribute o "pop" apos) [] [] cpos) (dPop d1) := ⟨fun {S st r st'} q {as S' M} c m => by
  obtain ⟨⟨v1, st1⟩, e1, q⟩ := bnd q
  obtain ⟨⟨k, ds⟩, e2, q⟩ := bnd q
  dsimp only at q
  split at q
  · rename_i x hx
    cases q
    refine je_bmL0 PySem.F.plainAttrs_list PySem.F.slot_list_pop PySem.F.type_list_pop mj_popE (h1.bind e1 c m fun bs r1 M1 q1 c1 m1 => ?_) hbase hline
    obtain ⟨l, i, rfl, ha, hi, hd0⟩ := isd_han e2 q1 m1
    obtain ⟨rfl, hk⟩ := lstAt_some e2
    obtain ⟨ys, rfl⟩ := List.getLast?_eq_some_iff.mp hx
    rw [List.dropLast_concat]
    exact ⟨⟨_, hd0⟩, i, l, ys, x, rfl, rfl, hi, (Pst.here .dat (m1.upd ha hk hi)).app⟩
  · cases q⟩
/-! ### xs[i] = e -/
theorem js_setIxE {S : List SD} {M : MS} {P : DEnds} (h : JE X e S M fun rv M1 => JE X oe S M1 fun ro M2 => JE X ie S M2 fun ri M3 => ∃ (j : Nat) (l : Addr) (ds : List PyData) (k : Nat) (d : PyData), ro = .raw (.ref l) ∧ ri = .int (k : Int) ∧ rv = .dat d ∧ M3[j]? = some (l, .lst ds) ∧ k < ds.length ∧ P.nx S (M3.set j (l, .lst (ds.set k d))))
    (ha : ∀ v, assign (.Subscript oe ie tpos) X.env v = (do
      let ov ← holding [v] (eval oe X.env)
      let iv ← holding [v, ov] (eval ie X.env)
      standAt tpos
      holding [v, ov, iv] (setItem ov iv v)
      release [v, ov, iv] []) := by intro _; rfl)
    (hs : swapsWithSole [.Subscript oe ie tpos] e pos.line X.env = pure false := by rfl) (hw : swappedStores [.Subscript oe ie tpos] e X.env = pure none := by rfl)
    (h1 : (assignEach [.Subscript oe ie tpos] X.env).map (·.2) = [assign (.Subscript oe ie tpos) X.env] := by rfl) : JS X (.Assign [.Subscript oe ie tpos] e pos) S M P := ⟨fun σ H B w s => by
  refine of_ps (ps_asg pe_w (pg_sub pe_w pe_w set_list ha) hs hw h1) ((h.run σ H B w s).mono fun v H1 ⟨B1, rv, M1, st1, w1, ok1, h1⟩ => ?_)
  refine (h1.run σ H1 B1 w1 (s.le st1.bb)).mono fun v2 H2 ⟨B2, ro, M2, st2, w2, ok2, h2⟩ => ?_
  have s12 := st1.trans st2
  refine (h2.run σ H2 B2 w2 (s.le s12.bb)).mono fun v3 H3 ⟨B3, ri, M3, st3, w3, ok3, j, l, ds, k, d, e1, e2, e3, hj, hk, h3⟩ => ?_
  subst e1 e2 e3
  have q1 := ok2.raw
  have q2 := ok3.dat.inv_int
  subst q1 q2
  obtain ⟨_, xs, hx, rx⟩ := w3.mo _ (List.mem_of_getElem? hj)
  have hl := rx.length
  obtain ⟨w4, st4⟩ := w3.upd (m' := .lst (ds.set k d)) (o := .lst (xs.set k v)) hj ⟨_, upd_same, rx.set k ((ok1.le st2.bb).le st3.bb).dat⟩
  refine ⟨l, xs, (k : Int), k, rfl, rfl, hx, by unfold ixN; rw [if_pos (by omega), if_pos (by omega)]; simp, ?_⟩
  exact ⟨B3, S, _, (s12.trans st3).trans st4, w4, s.le (s12.trans st3).bb, h3⟩⟩
def sSetIx (o i v : DX) : DSt := fun S st => (v S st).bind fun p => (o S p.2).bind fun q => (i S q.2).bind fun r => (lstAt r.2 q.1).bind fun l => (asI r.1).bind fun n => match p.1 with
  | .dat x => if 0 ≤ n ∧ n.toNat < l.2.length then some (.nx, S, r.2.set l.1 (some (.lst (l.2.set n.toNat x)))) else none
  | _ => none
theorem ss_setIx (ho : SE X oe d1) (hi : SE X ie d2) (hv : SE X e dv)
    (ha : ∀ v, assign (.Subscript oe ie tpos) X.env v = (do
      let ov ← holding [v] (eval oe X.env)
      let iv ← holding [v, ov] (eval ie X.env)
      standAt tpos
      holding [v, ov, iv] (setItem ov iv v)
      release [v, ov, iv] []) := by intro _; rfl)
    (hs : swapsWithSole [.Subscript oe ie tpos] e pos.line X.env = pure false := by rfl) (hw : swappedStores [.Subscript oe ie tpos] e X.env = pure none := by rfl)
    (h1 : (assignEach [.Subscript oe ie tpos] X.env).map (·.2) = [assign (.Subscript oe ie tpos) X.env] := by rfl) : SS X (.Assign [.Subscript oe ie tpos] e pos) (sSetIx d1 d2 dv) := ⟨fun {S st fl S1 st1} q {as S' M} c m => by
  obtain ⟨⟨v1, s1⟩, e1, q⟩ := bnd q
  obtain ⟨⟨v2, s2⟩, e2, q⟩ := bnd q
  obtain ⟨⟨v3, s3⟩, e3, q⟩ := bnd q
  obtain ⟨⟨k, ds⟩, e4, q⟩ := bnd q
  obtain ⟨n, e5, q⟩ := bnd q
  cases v1 with
  | dat x =>
    have q : (if 0 ≤ n ∧ n.toNat < ds.length then some (Fl.nx, S, s3.set k (some (.lst (ds.set n.toNat x)))) else none) = some (fl, S1, st1) := q
    split at q
    · rename_i hn
      cases q
      refine js_setIxE (hv.bind e1 c m fun bs r1 M1 q1 c1 m1 => ho.bind e2 c1 m1 fun cs r2 M2 q2 c2 m2 => hi.bind e3 c2 m2 fun ds3 r3 M3 q3 c3 m3 => ?_) ha hs hw h1
      obtain ⟨l, i, rfl, ha, hi, _⟩ := isd_han e4 (q2.app ds3) m3
      obtain ⟨rfl, hk⟩ := lstAt_some e4
      have e6 : v3 = .int n := asI_some e5
      subst e6
      cases q1
      cases q3
      exact ⟨i, l, ds, n.toNat, x, rfl, by rw [Int.toNat_of_nonneg hn.1], rfl, hi, hn.2, rfl, (PstS.here c3 (m3.upd ha hk hi)).app.app.app⟩
    · cases q
  | _ => cases q⟩
end
/-! ### sorted -/
section
variable {α : Type}
def insS (le : α → α → Bool) (x : α) : List α → List α
  | [] => [x]
  | y :: r => if le x y then x :: y :: r else y :: insS le x r
def isort (le : α → α → Bool) : List α → List α
  | [] => []
  | x :: r => insS le x (isort le r)
theorem insS_mem {le : α → α → Bool} {x z : α} : ∀ {l : List α}, z ∈ insS le x l ↔ z = x ∨ z ∈ l
  | [] => by simp [insS]
  | y :: r => by
    unfold insS
    split
    · simp
    · rw [List.mem_cons, insS_mem, List.mem_cons]
      constructor
      · rintro (h | h | h)
        · exact .inr (.inl h)
        · exact .inl h
        · exact .inr (.inr h)
      · rintro (h | h | h)
        · exact .inr (.inl h)
        · exact .inl h
        · exact .inr (.inr h)
theorem isort_mem {le : α → α → Bool} {z : α} : ∀ {l : List α}, z ∈ isort le l ↔ z ∈ l
  | [] => by simp [isort]
  | x :: r => by rw [isort, insS_mem, isort_mem, List.mem_cons]
theorem insS_length {le : α → α → Bool} {x : α} : ∀ {l : List α}, (insS le x l).length = l.length + 1
  | [] => rfl
  | y :: r => by
    unfold insS
    split
    · simp
    · simp [insS_length]
theorem isort_length {le : α → α → Bool} : ∀ {l : List α}, (isort le l).length = l.length
  | [] => rfl
  | x :: r => by rw [isort, insS_length, isort_length]; rfl
variable {le : α → α → Bool}
theorem insS_pw (h : PySem.W.TotalLe le) {x : α} : ∀ {l : List α}, l.Pairwise (fun a b => le a b = true) → (insS le x l).Pairwise (fun a b => le a b = true)
  | [], _ => by simp [insS]
  | y :: r, p => by
    obtain ⟨p1, p2⟩ := List.pairwise_cons.mp p
    unfold insS
    split
    · rename_i hx
      refine List.pairwise_cons.mpr ⟨fun z hz => ?_, p⟩
      rcases List.mem_cons.mp hz with rfl | hz
      · exact hx
      · exact h.trans _ _ _ hx (p1 z hz)
    · rename_i hx
      refine List.pairwise_cons.mpr ⟨fun z hz => ?_, insS_pw h p2⟩
      rcases insS_mem.mp hz with rfl | hz
      · exact (h.total y z).resolve_right hx
      · exact p1 z hz
theorem isort_pw (h : PySem.W.TotalLe le) : ∀ (l : List α), (isort le l).Pairwise (fun a b => le a b = true)
  | [] => by simp [isort]
  | x :: r => insS_pw h (isort_pw h r)
theorem insS_filter (h : PySem.W.TotalLe le) (c x : α) : ∀ (l : List α), (insS le x l).filter (PySem.W.sameRank le c) = (x :: l).filter (PySem.W.sameRank le c)
  | [] => rfl
  | y :: r => by
    unfold insS
    split
    · rfl
    · rename_i hx
      have ih := insS_filter h c x r
      by_cases hy : PySem.W.sameRank le c y = true
      · have hn : ¬ PySem.W.sameRank le c x = true := fun z => hx (h.trans _ _ _ (Bool.and_eq_true_iff.mp z).2 (Bool.and_eq_true_iff.mp hy).1)
        rw [List.filter_cons_of_pos hy, ih, List.filter_cons_of_neg hn, List.filter_cons_of_neg hn, List.filter_cons_of_pos hy]
      · rw [List.filter_cons_of_neg hy, ih]
        by_cases hx2 : PySem.W.sameRank le c x = true
        · rw [List.filter_cons_of_pos hx2, List.filter_cons_of_pos hx2, List.filter_cons_of_neg hy]
        · rw [List.filter_cons_of_neg hx2, List.filter_cons_of_neg hx2, List.filter_cons_of_neg hy]
theorem isort_eq (h : PySem.W.TotalLe le) (l : List α) : isort le l = l.mergeSort le := by
  refine PySem.W.sort_unique h (isort_pw h l) fun c => ?_
  induction l with
  | nil => rfl
  | cons x r ih =>
    rw [isort, insS_filter h]
    by_cases hx : PySem.W.sameRank le c x = true
    · rw [List.filter_cons_of_pos hx, List.filter_cons_of_pos hx, ih]
    · rw [List.filter_cons_of_neg hx, List.filter_cons_of_neg hx, ih]
end
theorem insS_map {α β : Type} (f : α → β) {le : β → β → Bool} (x : α) : ∀ (l : List α), (insS (fun a b => le (f a) (f b)) x l).map f = insS le (f x) (l.map f)
  | [] => rfl
  | y :: r => by
    unfold insS
    rw [List.map_cons]
    dsimp only
    split
    · rfl
    · rw [List.map_cons, insS_map f x r]
theorem isort_map {α β : Type} (f : α → β) {le : β → β → Bool} : ∀ (l : List α), (isort (fun a b => le (f a) (f b)) l).map f = isort le (l.map f)
  | [] => rfl
  | x :: r => by rw [isort, insS_map, isort_map f r]; rfl
/-- a kind of data that is sorted: its items, their order -/
structure Ords (γ : Type) (enc : γ → PyData) (le : γ → γ → Bool) : Prop where
  tot : PySem.W.TotalLe le
  is : PySem.W.dataLe false enc = le
  al : ∀ a b, PySem.W.alike (enc a) (enc b) = true
  so : ∀ l : List γ, PySem.W.Sortable (l.map enc)
  dp : ∀ a, (enc a).depth ≤ 8
section
variable {X : Cx} {γ : Type} {enc : γ → PyData} {le : γ → γ → Bool}
def rSortD (K : Frag) (enc : γ → PyData) (le : γ → γ → Bool) : List V → Hp → VK → Prop := fun xs H Q => ∃ (a : Addr) (vs : List V) (ns : List γ), xs = [.ref a] ∧ SqL K H a vs ∧ RpAll K H vs (ns.map enc) ∧ ∀ p vs', H p = none → vs'.length = ns.length → (∀ B : Hp, RpAll K B vs (ns.map enc) → RpAll K B vs' ((isort le ns).map enc)) → Q (.ref p) (upd H p (.lst vs'))
theorem rp_zip {K : Frag} {B : Hp} : ∀ {vs : List V} {ns : List γ}, RpAll K B vs (ns.map enc) → ∀ q ∈ vs.zip ns, Rp K B q.1 (enc q.2)
  | [], _, _, q, hq => by simp at hq
  | _ :: _, [], h, _, _ => by cases h
  | v :: vs, n :: ns, h, q, hq => by
    cases h with
    | cons h1 h2 =>
      rcases List.mem_cons.mp hq with rfl | hq
      · exact h1
      · exact rp_zip h2 q hq
theorem rpAll_of {K : Frag} {B : Hp} : ∀ {l : List (V × γ)}, (∀ q ∈ l, Rp K B q.1 (enc q.2)) → RpAll K B (l.map (·.1)) ((l.map (·.2)).map enc)
  | [], _ => .nil
  | q :: l, h => .cons (h q (by simp)) (rpAll_of fun p hp => h p (by simp [hp]))
theorem cr_sortD (O : Ords γ enc le) (sm : SysM X.K) (hu : X.A.units + 64 < cLine) : CallR X (.builtin "sorted") (rSortD X.K enc le) := by
  intro pins s σ H xs us Q I r h
  obtain ⟨a, vs, ns, rfl, hs, ra, q⟩ := h
  obtain ⟨its, rv, hl, hz⟩ := I.list hs
  rw [Vals.ref1 r]
  have len1 : its.length = vs.length := rv.length.symm
  have len2 : vs.length = ns.length := by rw [ra.length, List.length_map]
  have tot : PySem.W.TotalLe (fun p q : V × γ => le p.2 q.2) := ⟨fun a b c => O.tot.trans _ _ _, fun a b => O.tot.total _ _⟩
  have e1 : ∀ {us : List Value} {vs : List V} {ns : List γ}, Vals vs us → vs.length = ns.length → PySem.W.EachIs (fun v (b : V × γ) => RelV b.1 v) us (vs.zip ns) := by
    intro us vs ns rv
    induction rv generalizing ns with
    | nil => intro h; cases ns with
      | nil => exact .nil
      | cons _ _ => cases h
    | cons h t ih => intro h2; cases ns with
      | nil => cases h2
      | cons n ns => exact .cons h (ih (by simpa using h2))
  have e2 : PySem.W.EachIs (fun v (b : V × γ) => RelV b.1 v) its (vs.zip ns) := e1 rv len2
  have e3 : ∀ {us : List Value} {l : List (V × γ)}, PySem.W.EachIs (fun v (b : V × γ) => RelV b.1 v) us l → (∀ q ∈ l, Rp X.K H q.1 (enc q.2)) → PySem.W.EachIs (fun v (b : V × γ) => ∃ as, Reads s.heap v (enc b.2) as) us l := by
    intro us l e
    induction e with
    | nil => intro _; exact .nil
    | cons h t ih => intro h2; exact .cons (let ⟨as, r, _⟩ := Rp.reads I sm _ _ _ (h2 _ (by simp)) h; ⟨as, r⟩) (ih fun q hq => h2 q (by simp [hq]))
  have hle : PySem.W.dataLe false (fun b : V × γ => enc b.2) = fun p q => le p.2 q.2 := by
    funext p q
    have := congrFun (congrFun O.is p.2) q.2
    exact this
  have al : PySem.W.AllAlike ((vs.zip ns).map fun b => enc b.2) := PySem.W.AllAlike.of fun b b' => O.al _ _
  have so : PySem.W.Sortable ((vs.zip ns).map fun b => enc b.2) := by
    have := O.so ((vs.zip ns).map (·.2))
    rw [List.map_map] at this
    exact this
  refine PySem.W.sorted_data hl.isList e2 (e3 e2 (rp_zip ra)) al so (by rw [List.length_zip]; omega) (fun b hb => by have := O.dp b.2; omega) fun out ho eo => ?_
  rw [hle, ← isort_eq tot] at eo
  obtain ⟨ep, he'⟩ := PyProof.Rows.sortedAll_at s.heap its out.toArray
  have rout : Vals ((isort (fun p q : V × γ => le p.2 q.2) (vs.zip ns)).map (·.1)) out := by
    have : ∀ {us : List Value} {l : List (V × γ)}, PySem.W.EachIs (fun v (b : V × γ) => RelV b.1 v) us l → Vals (l.map (·.1)) us := by
      intro us l e
      induction e with
      | nil => exact .nil
      | cons h t ih => exact .cons h ih
    exact this eo
  have lz : (vs.zip ns).length = vs.length := by rw [List.length_zip]; omega
  have hlen : ((isort (fun p q : V × γ => le p.2 q.2) (vs.zip ns)).map (·.1)).length ≤ sizeLine := by
    rw [List.length_map, isort_length, lz]; omega
  refine ⟨.ref _, upd H (s.heap.objs.size + 1) (.lst ((isort (fun p q : V × γ => le p.2 q.2) (vs.zip ns)).map (·.1))), I.laid (t' := s.toks) (fun _ _ => PyProof.Rows.sortedAll_old) (Nat.le_succ _) ⟨hlen, out, ep, rout, he'⟩, rfl, q _ _ (I.hok.fresh (Nat.le_succ _)) (by rw [List.length_map, isort_length, lz, len2]) fun B hB => ?_⟩
  have m2 : (isort (fun p q : V × γ => le p.2 q.2) (vs.zip ns)).map (·.2) = isort le ns := by
    rw [isort_map (fun b : V × γ => b.2)]
    congr 1
    rw [List.map_snd_zip]
    omega
  rw [← m2]
  exact rpAll_of fun q hq => rp_zip hB q (isort_mem.mp hq)
abbrev cSortD (enc : γ → PyData) (le : γ → γ → Bool) : CDt := fun rs M R => ∃ (r : SD) (ns : List γ), rs = [r] ∧ IsD M r (.list (ns.map enc)) ∧ R (.dat (.list ((isort le ns).map enc))) M
theorem cj_sortD (O : Ords γ enc le) (sm : SysM X.K) (hu : X.A.units + 64 < cLine) : CallJ X (.builtin "sorted") (cSortD enc le) := ⟨_, cr_sortD O sm hu, fun B H M rs R vs Q w oa h hq => by
  obtain ⟨r, ns, rfl, h1, h⟩ := h
  obtain ⟨v, rfl, ok⟩ := slots1 oa
  obtain ⟨a, xs, rfl, hs, ra⟩ := h1.items w ok
  refine ⟨a, xs, ns, rfl, hs, ra.le w.le, fun p vs' hp hl hB => ?_⟩
  obtain ⟨w2, st2⟩ := w.new (o := .lst vs') hp
  exact hq _ _ ⟨_, _, M, st2, w2, .of (.lst (SqL.of upd_same) ((hB B ra).le st2.bb)), h⟩⟩
end
def leI (a b : Int) : Bool := decide (a ≤ b)
def leII (a b : Int × Int) : Bool := decide (a.1 < b.1 ∨ (a.1 = b.1 ∧ a.2 ≤ b.2))
def encII (a : Int × Int) : PyData := .tuple [.int a.1, .int a.2]
theorem ordI : Ords Int PyData.int leI where
  tot := ⟨fun a b c h1 h2 => by unfold leI at *; simp at *; omega, fun a b => by unfold leI; simp; omega⟩
  is := PySem.W.dataLe_int (fun i : Int => i)
  al := fun a b => by simp [PySem.W.alike]
  so := fun l => PySem.W.Sortable.others fun b => ⟨(fun h => by cases h), (fun xs h => by cases h)⟩
  dp := fun a => by simp [PyData.depth]
theorem ordII : Ords (Int × Int) encII leII where
  tot := ⟨fun a b c h1 h2 => by unfold leII at *; simp at *; omega, fun a b => by unfold leII; simp; omega⟩
  is := PySem.W.dataLe_ii (fun p : Int × Int => p.1) (fun p => p.2)
  al := fun a b => by simp [encII, PySem.W.alike, PySem.W.alikeAll]
  so := fun l => PySem.W.Sortable.tuples fun b => ⟨_, _, rfl⟩
  dp := fun a => by simp [encII, PyData.depth, PyData.depthAll]
def pairsOf : List PyData → Option (List (Int × Int))
  | [] => some []
  | .tuple [.int i, .int j] :: r => (pairsOf r).map ((i, j) :: ·)
  | _ :: _ => none
theorem pairsOf_some : ∀ {ds : List PyData} {ns : List (Int × Int)}, pairsOf ds = some ns → ds = ns.map encII := by
  intro ds
  induction ds with
  | nil => intro ns h; cases h; rfl
  | cons d r ih =>
    intro ns h
    unfold pairsOf at h
    split at h
    · exact absurd (by assumption : d :: r = []) (by simp)
    · rename_i i j r' h0
      cases h0
      obtain ⟨ms, h1, rfl⟩ := Option.map_eq_some_iff.mp h
      rw [ih h1]; rfl
    · cases h
def gSorted : List BA → Option PyData
  | [.d (.list ds)] => match intsOf ds with
    | some ns => some (.list ((isort leI ns).map PyData.int))
    | none => (pairsOf ds).map fun ns => .list ((isort leII ns).map encII)
  | _ => none
theorem cf_sorted {X : Cx} (sm : SysM X.K) (hu : X.A.units + 64 < cLine) : CF X (.builtin "sorted") gSorted := ⟨fun ys z h => by
  unfold gSorted at h
  split at h
  · split at h
    · rename_i ns hn
      cases h
      rw [intsOf_some hn]
      exact ⟨_, cj_sortD ordI sm hu, fun M rs R hp q => by
        obtain ⟨r, rfl, hr⟩ := pair1 hp
        exact ⟨r, ns, rfl, hr.dat, q⟩⟩
    · obtain ⟨ns, hn, rfl⟩ := Option.map_eq_some_iff.mp h
      rw [pairsOf_some hn]
      exact ⟨_, cj_sortD ordII sm hu, fun M rs R hp q => by
        obtain ⟨r, rfl, hr⟩ := pair1 hp
        exact ⟨r, ns, rfl, hr.dat, q⟩⟩
  · cases h⟩
end DL
set_option Elab.async false
set_option linter.all false
set_option maxRecDepth 100000
set_option maxHeartbeats 4000000
namespace DL
open PySem PySem.Spec PyProof.Rows L2
/-! ### dicts with keys ints and texts -/
def keyD : Key → PyData
  | .inl i => .int i
  | .inr x => .str x
def keyOf : PyData → Option Key
  | .int i => some (.inl i)
  | .str x => some (.inr x)
  | _ => none
theorem keyOf_some {d : PyData} {k : Key} (h : keyOf d = some k) : d = keyD k := by
  unfold keyOf at h
  split at h
  · cases h; rfl
  · cases h; rfl
  · cases h
theorem rp_key {K : Frag} {B : Hp} {v : V} {k : Key} (h : Rp K B v (keyD k)) : v = kV k := by
  cases k with
  | inl i => exact h.inv_int
  | inr x => exact h.inv_str
def valP (kvs : List (Key × PyData)) (k : Key) : Option PyData := (kvs.find? fun kv => decide (kv.1 = k)).map (·.2)
def putP (kvs : List (Key × PyData)) (k : Key) (d : PyData) : List (Key × PyData) :=
  if (kvs.any fun kv => decide (kv.1 = k)) = true then kvs.map (fun kv => if kv.1 = k then (kv.1, d) else kv) else kvs ++ [(k, d)]
def mergeP (kvs more : List (Key × PyData)) : List (Key × PyData) := more.foldl (fun acc kv => putP acc kv.1 kv.2) kvs
section
variable {K : Frag} {B : Hp}
theorem kv_val : ∀ {ks : List (Key × V)} {kvs : List (Key × PyData)} (k : Key), KvOk K B ks kvs → (valP kvs k = none ∧ valV ks k = none) ∨ ∃ v d, valV ks k = some v ∧ valP kvs k = some d ∧ Rp K B v d
  | [], [], k, _ => .inl ⟨rfl, rfl⟩
  | p :: ks, q :: kvs, k, h => by
    cases h with
    | cons h t =>
      obtain ⟨e, r⟩ := h
      by_cases c : p.1 = k
      · rw [valV_pos c]
        exact .inr ⟨_, q.2, rfl, by simp [valP, List.find?_cons, e ▸ c], r⟩
      · rw [valV_neg c]
        have e2 : valP (q :: kvs) k = valP kvs k := by
          have : ¬ q.1 = k := e ▸ c
          simp [valP, List.find?_cons, this]
        rw [e2]
        exact kv_val k t
theorem kv_any {k : Key} : ∀ {ks : List (Key × V)} {kvs : List (Key × PyData)}, KvOk K B ks kvs → (ks.any fun kv => decide (kv.1 = k)) = kvs.any fun kv => decide (kv.1 = k)
  | [], [], _ => rfl
  | p :: ks, q :: kvs, h => by
    cases h with
    | cons h t => rw [List.any_cons, List.any_cons, h.1, kv_any t]
theorem kv_map {k : Key} {v : V} {d : PyData} (r : Rp K B v d) : ∀ {ks : List (Key × V)} {kvs : List (Key × PyData)}, KvOk K B ks kvs → KvOk K B (ks.map fun kv => if kv.1 = k then (kv.1, v) else kv) (kvs.map fun kv => if kv.1 = k then (kv.1, d) else kv)
  | [], [], _ => .nil
  | p :: ks, q :: kvs, h => by
    cases h with
    | cons h t =>
      refine .cons ?_ (kv_map r t)
      dsimp only
      by_cases c : p.1 = k
      · rw [if_pos c, if_pos (h.1 ▸ c)]
        exact ⟨h.1, r⟩
      · rw [if_neg c, if_neg (h.1 ▸ c)]
        exact h
theorem kv_put {ks : List (Key × V)} {kvs : List (Key × PyData)} {k : Key} {v : V} {d : PyData} (h : KvOk K B ks kvs) (r : Rp K B v d) : KvOk K B (putK ks k v) (putP kvs k d) := by
  unfold putK putP
  rw [kv_any h]
  split
  · exact kv_map r h
  · exact Paired.appP h (.cons ⟨rfl, r⟩ .nil)
theorem kv_merge : ∀ {ms : List (Key × V)} {mvs : List (Key × PyData)} {ks : List (Key × V)} {kvs : List (Key × PyData)}, KvOk K B ms mvs → KvOk K B ks kvs → KvOk K B (mergeK ks ms) (mergeP kvs mvs)
  | [], [], _, _, _, h => h
  | p :: ms, q :: mvs, ks, kvs, m, h => by
    cases m with
    | cons m t =>
      have := kv_put (k := q.1) h m.2
      rw [← m.1] at this
      show KvOk K B (mergeK (putK ks p.1 p.2) ms) (mergeP (putP kvs q.1 q.2) mvs)
      rw [← m.1]
      exact kv_merge t this
end
section
variable {X : Cx} {S : List SD} {M : MS} {R : SD → MS → Prop} {o i a b e : Expr} {pos pos' p : Pos} {d1 d2 dv : DX}
/-- d[k] -/
theorem je_dget (hu : X.A.units + 1 < cLine) (h : JE X o S M fun ro M1 => JE X i S M1 fun ri M2 => ∃ a kvs k d, ro = .raw (.ref a) ∧ (a, MO.dK kvs) ∈ M2 ∧ ri = .dat (keyD k) ∧ valP kvs k = some d ∧ R (.dat d) M2) (hs : NoSl i := by exact fun _ _ => rfl) : JE X (.Subscript o i pos) S M R := ⟨fun σ H B w s => by
  refine of_pe (pe_dget hu pe_w pe_w hs) ((h.run σ H B w s).mono fun v1 H1 ⟨B1, r1, M1, st1, w1, ok1, h1⟩ => ?_)
  refine (h1.run σ H1 B1 w1 (s.le st1.bb)).mono fun v2 H2 ⟨B2, r2, M2, st2, w2, ok2, a, kvs, k, d, e1, hm, e2, hv, h2⟩ => ?_
  subst e1 e2
  have q1 := ok1.raw
  have q2 := rp_key ok2.dat
  subst q1 q2
  obtain ⟨_, ks, hx, rx⟩ := w2.mo _ hm
  rcases kv_val k rx with ⟨z, _⟩ | ⟨v, d', g1, g2, g3⟩
  · rw [z] at hv; cases hv
  · rw [g2] at hv
    cases hv
    exact ⟨a, v, rfl, by rw [← g1]; exact DGet.k hx, B2, _, M2, st1.trans st2, w2, .of g3, h2⟩⟩
/-- the dict behind a number -/
def dctAt (st : Sto) : AV → Option (Nat × List (Key × PyData))
  | .han k => match st[k]? with
    | some (some (.dK ds)) => some (k, ds)
    | _ => none
  | _ => none
theorem dctAt_some {st : Sto} {v : AV} {k : Nat} {ds : List (Key × PyData)} (h : dctAt st v = some (k, ds)) : v = .han k ∧ st[k]? = some (some (.dK ds)) := by
  cases v with
  | han j =>
    have h : (match st[j]? with
      | some (some (.dK ds)) => some (j, ds)
      | _ => none) = some (k, ds) := h
    cases z : st[j]? with
    | none => rw [z] at h; cases h
    | some o => cases o with
      | none => rw [z] at h; cases h
      | some o => cases o with
        | lst _ => rw [z] at h; cases h
        | ob _ => rw [z] at h; cases h
        | dK es => rw [z] at h; cases h; exact ⟨rfl, z⟩
  | _ => cases h
theorem dct_han {as : List Addr} {st : Sto} {M : MS} {v : AV} {r : SD} {k : Nat} {ds : List (Key × PyData)} (h : dctAt st v = some (k, ds)) (cv : Cv as v r) (m : CM as st M) : ∃ (a : Addr) (i : Nat), r = .raw (.ref a) ∧ as[k]? = some a ∧ M[i]? = some (a, .dK ds) ∧ (a, MO.dK ds) ∈ M := by
  obtain ⟨rfl, hk⟩ := dctAt_some h
  cases cv with
  | han ha =>
    obtain ⟨i, hi⟩ := m.idx ha hk
    exact ⟨_, i, rfl, ha, hi, List.mem_of_getElem? hi⟩
def asK : AV → Option Key
  | .dat d => keyOf d
  | _ => none
theorem asK_some {v : AV} {k : Key} (h : asK v = some k) : v = .dat (keyD k) := by
  unfold asK at h
  split at h
  · rw [keyOf_some h]
  · cases h
/-- x[i], x a dict that may change, or a list, a tuple -/
def dIxA (a b : DX) : DX := fun S st => (a S st).bind fun p => (b S p.2).bind fun q => match dctAt q.2 p.1 with
  | some (_, kvs) => (asK q.1).bind fun k => (valP kvs k).map fun d => (.dat d, q.2)
  | none => lift2 ixD p.1 q.1 q.2
theorem se_ixA (hu : X.A.units + 64 < cLine) (ha : SE X a d1) (hb : SE X b d2) (hs : PlainIx b := by exact fun _ _ => rfl) (hs2 : NoSl b := by exact fun _ _ => rfl) : SE X (.Subscript a b pos) (dIxA d1 d2) := ⟨fun {S st r st'} q {as S' M} c m => by
  obtain ⟨⟨v1, s1⟩, e1, q⟩ := bnd q
  obtain ⟨⟨v2, s2⟩, e2, q⟩ := bnd q
  dsimp only at q
  split at q
  · rename_i k0 kvs hd
    obtain ⟨k, e3, q⟩ := bnd q
    obtain ⟨d, e4, q⟩ := Option.map_eq_some_iff.mp q
    cases q
    have e5 := asK_some e3
    subst e5
    refine je_dget (by omega) (ha.bind e1 c m fun bs r1 M1 q1 c1 m1 => hb.bind e2 c1 m1 fun cs r2 M2 q2 c2 m2 => ?_) hs2
    obtain ⟨a, i, rfl, _, _, hm⟩ := dct_han hd (q1.app cs) m2
    cases q2
    exact ⟨a, kvs, k, d, rfl, hm, rfl, e4, (Pst.here .dat m2).app.app⟩
  · exact (se_ix ha hb hs).run (show dIx d1 d2 S st = some (r, st') by unfold dIx dBin; rw [e1]; show (d2 S s1).bind _ = _; rw [e2]; exact q) c m⟩
/-- k in d -/
theorem dictIn {σ : L2.St} {H B : Hp} {op : Bool} {Q : VK} (h : JE X a S M fun ri M1 => JE X b S M1 fun ro M2 => ∃ a kvs k, ro = .raw (.ref a) ∧ (a, MO.dK kvs) ∈ M2 ∧ ri = .dat (keyD k) ∧ R (.bl (if op then !(valP kvs k).isSome else (valP kvs k).isSome)) M2) (w : Wd X.K B H M) (s : Slots X.K B S σ) (hQ : ∀ v H', QD X.K B H M R v H' → Q v H') :
    TW X a σ H fun y H1 => TW X b σ H1 fun x H2 => ∃ a o, x = .ref a ∧ DGet H2 a y o ∧ Q (.bl (if op then !o.isSome else o.isSome)) H2 := by
  refine (h.run σ H B w s).mono fun v1 H1 ⟨B1, r1, M1, st1, w1, ok1, h1⟩ => ?_
  refine (h1.run σ H1 B1 w1 (s.le st1.bb)).mono fun v2 H2 ⟨B2, r2, M2, st2, w2, ok2, a, kvs, k, e1, hm, e2, h2⟩ => ?_
  subst e1 e2
  have q1 := ok2.raw
  have q2 := rp_key ok1.dat
  subst q1 q2
  obtain ⟨_, ks, hx, rx⟩ := w2.mo _ hm
  have e3 : (valV ks k).isSome = (valP kvs k).isSome := by
    rcases kv_val k rx with ⟨z1, z2⟩ | ⟨v, d', g1, g2, g3⟩
    · rw [z1, z2]; rfl
    · rw [g1, g2]; rfl
  refine ⟨a, _, rfl, DGet.k (k := k) hx, ?_⟩
  rw [e3]
  exact hQ _ _ ⟨B2, _, M2, st1.trans st2, w2, .of (.bl _), h2⟩
theorem je_din (hu : X.A.units + 1 < cLine) (h : JE X a S M fun ri M1 => JE X b S M1 fun ro M2 => ∃ a kvs k, ro = .raw (.ref a) ∧ (a, MO.dK kvs) ∈ M2 ∧ ri = .dat (keyD k) ∧ R (.bl (valP kvs k).isSome) M2) (hm : behindInMarks .In b = false := by first | exact nomark _ | rfl) : JE X (.Compare a [.In] [b] pos) S M R := ⟨fun σ H B w s =>
  of_pe (pe_cmp (pc_din hu pe_w pe_w) hm) (dictIn (op := false) h w s fun _ _ q => q)⟩
theorem je_dnotin (hu : X.A.units + 1 < cLine) (h : JE X a S M fun ri M1 => JE X b S M1 fun ro M2 => ∃ a kvs k, ro = .raw (.ref a) ∧ (a, MO.dK kvs) ∈ M2 ∧ ri = .dat (keyD k) ∧ R (.bl (!(valP kvs k).isSome)) M2) (hm : behindInMarks .NotIn b = false := by first | exact nomark _ | rfl) : JE X (.Compare a [.NotIn] [b] pos) S M R := ⟨fun σ H B w s =>
  of_pe (pe_cmp (pc_dnotin hu pe_w pe_w) hm) (dictIn (op := true) h w s fun _ _ q => q)⟩
theorem jt_din {RT : Bool → MS → Prop} (hu : X.A.units + 1 < cLine) (h : JE X a S M fun ri M1 => JE X b S M1 fun ro M2 => ∃ a kvs k, ro = .raw (.ref a) ∧ (a, MO.dK kvs) ∈ M2 ∧ ri = .dat (keyD k) ∧ RT (valP kvs k).isSome M2) (hm : behindInMarks .In b = false := by first | exact nomark _ | rfl) : JT X (.Compare a [.In] [b] pos) S M RT := ⟨fun σ H B w s =>
  of_pt (pt_cmp (pc_din hu pe_w pe_w) hm) (dictIn (op := false) (R := isB RT) (h.mono fun ri M1 q => q.mono fun ro M2 ⟨a, kvs, k, x1, x2, x3, x4⟩ => ⟨a, kvs, k, x1, x2, x3, _, rfl, x4⟩) w s fun _ _ q => qt_of q)⟩
theorem jt_dnotin {RT : Bool → MS → Prop} (hu : X.A.units + 1 < cLine) (h : JE X a S M fun ri M1 => JE X b S M1 fun ro M2 => ∃ a kvs k, ro = .raw (.ref a) ∧ (a, MO.dK kvs) ∈ M2 ∧ ri = .dat (keyD k) ∧ RT (!(valP kvs k).isSome) M2) (hm : behindInMarks .NotIn b = false := by first | exact nomark _ | rfl) : JT X (.Compare a [.NotIn] [b] pos) S M RT := ⟨fun σ H B w s =>
  of_pt (pt_cmp (pc_dnotin hu pe_w pe_w) hm) (dictIn (op := true) (R := isB RT) (h.mono fun ri M1 q => q.mono fun ro M2 ⟨a, kvs, k, x1, x2, x3, x4⟩ => ⟨a, kvs, k, x1, x2, x3, _, rfl, x4⟩) w s fun _ _ q => qt_of q)⟩
def dInA (neg : Bool) (a b : DX) : DX := fun S st => (a S st).bind fun p => (b S p.2).bind fun q => match dctAt q.2 q.1 with
  | some (_, kvs) => (asK p.1).map fun k => (.bl (if neg then !(valP kvs k).isSome else (valP kvs k).isSome), q.2)
  | none => lift2 (gIn neg) p.1 q.1 q.2
theorem dInA_some {neg : Bool} {SA : List AV} {st st' : Sto} {r : AV} (h : dInA neg d1 d2 SA st = some (r, st')) : (∃ v1 s1 v2 k0 kvs k, d1 SA st = some (v1, s1) ∧ d2 SA s1 = some (v2, st') ∧ dctAt st' v2 = some (k0, kvs) ∧ v1 = .dat (keyD k) ∧ r = .bl (if neg then !(valP kvs k).isSome else (valP kvs k).isSome)) ∨ dBin (lift2 (gIn neg)) d1 d2 SA st = some (r, st') := by
  obtain ⟨⟨v1, s1⟩, e1, q⟩ := bnd h
  obtain ⟨⟨v2, s2⟩, e2, q⟩ := bnd q
  dsimp only at q
  split at q
  · rename_i k0 kvs hd
    obtain ⟨k, e3, q⟩ := Option.map_eq_some_iff.mp q
    cases q
    exact .inl ⟨v1, s1, v2, k0, kvs, k, e1, e2, hd, asK_some e3, rfl⟩
  · refine .inr ?_
    unfold dBin
    rw [e1]
    show (d2 SA s1).bind _ = _
    rw [e2]
    exact q
theorem se_inA (hu : X.A.units + 64 < cLine) (ha : SE X a d1) (hb : SE X b d2) (hm : behindInMarks .In b = false := by first | exact nomark _ | rfl) : SE X (.Compare a [.In] [b] pos) (dInA false d1 d2) := ⟨fun {S st r st'} q {as S' M} c m => by
  rcases dInA_some q with ⟨v1, s1, v2, k0, kvs, k, e1, e2, hd, rfl, rfl⟩ | q
  · refine je_din (by omega) (ha.bind e1 c m fun bs r1 M1 q1 c1 m1 => hb.bind e2 c1 m1 fun cs r2 M2 q2 c2 m2 => ?_) hm
    obtain ⟨a, i, rfl, _, _, hm⟩ := dct_han hd q2 m2
    cases q1
    exact ⟨a, kvs, k, rfl, hm, rfl, (Pst.here .dat m2).app.app⟩
  · exact (se_cmp of_in ha hb hm).run q c m⟩
theorem se_notinA (hu : X.A.units + 64 < cLine) (ha : SE X a d1) (hb : SE X b d2) (hm : behindInMarks .NotIn b = false := by first | exact nomark _ | rfl) : SE X (.Compare a [.NotIn] [b] pos) (dInA true d1 d2) := ⟨fun {S st r st'} q {as S' M} c m => by
  rcases dInA_some q with ⟨v1, s1, v2, k0, kvs, k, e1, e2, hd, rfl, rfl⟩ | q
  · refine je_dnotin (by omega) (ha.bind e1 c m fun bs r1 M1 q1 c1 m1 => hb.bind e2 c1 m1 fun cs r2 M2 q2 c2 m2 => ?_) hm
    obtain ⟨a, i, rfl, _, _, hm⟩ := dct_han hd q2 m2
    cases q1
    exact ⟨a, kvs, k, rfl, hm, rfl, (Pst.here .dat m2).app.app⟩
  · exact (se_cmp of_notin ha hb hm).run q c m⟩
theorem st_inA (hu : X.A.units + 64 < cLine) (ha : SE X a d1) (hb : SE X b d2) (hm : behindInMarks .In b = false := by first | exact nomark _ | rfl) : ST X (.Compare a [.In] [b] pos) (tOf (dInA false d1 d2)) := ⟨fun {S st r st'} q {as S' M} c m => by
  rcases dInA_some (tOf_some q) with ⟨v1, s1, v2, k0, kvs, k, e1, e2, hd, rfl, e3⟩ | q
  · cases e3
    refine jt_din (by omega) (ha.bind e1 c m fun bs r1 M1 q1 c1 m1 => hb.bind e2 c1 m1 fun cs r2 M2 q2 c2 m2 => ?_) hm
    obtain ⟨a, i, rfl, _, _, hm⟩ := dct_han hd q2 m2
    cases q1
    exact ⟨a, kvs, k, rfl, hm, rfl, rfl, bs ++ cs, by rw [← List.append_assoc]; exact m2⟩
  · exact (st_cmp of_in ha hb hm).run (show tOf _ S st = some (r, st') by unfold tOf; rw [q]; rfl) c m⟩
theorem st_notinA (hu : X.A.units + 64 < cLine) (ha : SE X a d1) (hb : SE X b d2) (hm : behindInMarks .NotIn b = false := by first | exact nomark _ | rfl) : ST X (.Compare a [.NotIn] [b] pos) (tOf (dInA true d1 d2)) := ⟨fun {S st r st'} q {as S' M} c m => by
  rcases dInA_some (tOf_some q) with ⟨v1, s1, v2, k0, kvs, k, e1, e2, hd, rfl, e3⟩ | q
  · cases e3
    refine jt_dnotin (by omega) (ha.bind e1 c m fun bs r1 M1 q1 c1 m1 => hb.bind e2 c1 m1 fun cs r2 M2 q2 c2 m2 => ?_) hm
    obtain ⟨a, i, rfl, _, _, hm⟩ := dct_han hd q2 m2
    cases q1
    exact ⟨a, kvs, k, rfl, hm, rfl, rfl, bs ++ cs, by rw [← List.append_assoc]; exact m2⟩
  · exact (st_cmp of_notin ha hb hm).run (show tOf _ S st = some (r, st') by unfold tOf; rw [q]; rfl) c m⟩
/-! ### {k: v, ..} -/
abbrev DPs := List AV → Sto → Option (List (Key × PyData) × Sto)
structure SPs (X : Cx) (trs : List (TE × TE)) (d : DPs) : Prop where
  run : ∀ {S st kvs st1}, d S st = some (kvs, st1) → ∀ {as S' M}, CvS as S S' → CM as st M → ∀ (σ : L2.St) (H B : Hp), Wd X.K B H M → Slots X.K B S' σ → ∀ Q : List (V × V) → Hp → Prop,
    (∀ ks H' B' M' bs, Stp B H (dom M) B' H' (dom M') → Wd X.K B' H' M' → KvOk X.K B' ks kvs → CM (as ++ bs) st1 M' → Q (ks.map fun kv => (kV kv.1, kv.2)) H') → tPairs trs σ H Q
def pNil : DPs := fun _ st => some ([], st)
def pCons (k v : DX) (r : DPs) : DPs := fun S st => (k S st).bind fun p => (asK p.1).bind fun kk => (v S p.2).bind fun q => match q.1 with
  | .dat d => (r S q.2).map fun z => ((kk, d) :: z.1, z.2)
  | _ => none
theorem sps_nil : SPs X [] pNil := ⟨fun q _ _ _ c m σ H B w s Q hQ => by
  cases q
  exact hQ [] H B _ [] .refl w .nil (by rwa [List.append_nil])⟩
theorem sps_cons {trs : List (TE × TE)} {dr : DPs} (h1 : SE X a d1) (h2 : SE X b d2) (t : SPs X trs dr) : SPs X ((TW X a, TW X b) :: trs) (pCons d1 d2 dr) := ⟨fun {S st kvs st1} q {as S' M} c m σ H B w s Q hQ => by
  obtain ⟨⟨v1, s1⟩, e1, q⟩ := bnd q
  obtain ⟨k, e2, q⟩ := bnd q
  obtain ⟨⟨v2, s2⟩, e3, q⟩ := bnd q
  have e4 := asK_some e2
  have e4 : v1 = .dat (keyD k) := e4
  subst e4
  cases v2 with
  | dat d =>
    obtain ⟨⟨kvs2, s3⟩, e5, q⟩ := Option.map_eq_some_iff.mp q
    cases q
    refine ((h1.run e1 c m).run σ H B w s).mono fun u1 H1 ⟨B1, r1, M1, st1, w1, ok1, bs, q1, m1⟩ => ?_
    cases q1
    refine ((h2.run e3 (c.app bs) m1).run σ H1 B1 w1 (s.le st1.bb)).mono fun u2 H2 ⟨B2, r2, M2, st2, w2, ok2, cs, q2, m2⟩ => ?_
    cases q2
    refine t.run e5 ((c.app bs).app cs) m2 σ H2 B2 w2 (s.le (st1.trans st2).bb) _ fun ks H' B' M' ds st3 w3 kv m3 => ?_
    have e6 := rp_key ok1.dat
    subst e6
    refine hQ ((k, u2) :: ks) H' B' M' (bs ++ cs ++ ds) ((st1.trans st2).trans st3) w3 (.cons ⟨rfl, ok2.dat.le st3.bb⟩ kv) ?_
    simpa [List.append_assoc] using m3
  | _ => cases q⟩
def dDisp (ps : DPs) : DX := fun S st => (ps S (st ++ [some (.dK [])])).bind fun p => match p.2[st.length]? with
  | some (some (.dK [])) => if p.1.length ≤ 15 then some (.han st.length, p.2.set st.length (some (.dK (mergeP [] p.1)))) else none
  | _ => none
theorem se_disp {keys : List (Option Expr)} {values : List Expr} {trs : List (TE × TE)} {dp : DPs} (h : PPs X pos keys values trs) (hp : SPs X trs dp) (hall : keys.all (·.isSome) = true := by rfl) (hl : keys.length = values.length := by rfl) (h0 : keys ≠ [] := by exact fun z => nomatch z)
    (h15 : keys.length ≤ 15 := by decide) : SE X (.Dict keys values pos) (dDisp dp) := ⟨fun {S st r st'} q {as S' M} c m => ⟨fun σ H B w s => by
  obtain ⟨⟨kvs, st1⟩, e1, q⟩ := bnd q
  dsimp only at q
  split at q
  · rename_i hc
    split at q
    · rename_i hz
      cases q
      refine of_pe (pe_disp h hall hl h0 h15) fun p hp0 => ?_
      obtain ⟨w1, stp1⟩ := w.newM (o := .dK []) (m := .dK []) hp0 ⟨[], upd_same, .nil⟩
      have np : p ∉ dom M := (List.nodup_cons.mp w1.nd).1
      have m1 := m.new (m := .dK []) np
      refine hp.run e1 (c.app [p]) m1 σ _ B w1 (s.le stp1.bb) _ fun ks H' B' M' bs st2 w2 kv m2 => ?_
      have ha : (as ++ [p] ++ bs)[st.length]? = some p := by rw [← m.len]; simp
      obtain ⟨i, hi⟩ := m2.idx ha hc
      obtain ⟨_, ks0, hx, hk0⟩ := w2.mo _ (List.mem_of_getElem? hi)
      cases hk0
      obtain ⟨w3, st3⟩ := w2.upd (m' := .dK (mergeP [] kvs)) (o := .dK (mergeK [] ks)) hi ⟨_, upd_same, kv_merge kv .nil⟩
      refine ⟨hx, ks, rfl, by rw [Paired.length kv]; exact hz, B', .raw (.ref p), _, (stp1.trans st2).trans st3, w3, rfl, [p] ++ bs, ?_, ?_⟩
      · rw [← List.append_assoc]; exact .han ha
      · rw [← List.append_assoc]; exact m2.upd ha hc hi
    · cases q
  · cases q⟩⟩
end
end DL
set_option Elab.async false
set_option linter.all false
set_option maxRecDepth 100000
set_option maxHeartbeats 4000000
namespace DL
open PySem PySem.Spec PyProof.Rows L2
/-! ### tuple * int, also by 0 and 1 -/
theorem tuple_mul0 (l : Addr) (items : Array Value) (n : Nat) (dd : Option Addr) (sl : Array (Option Value)) (x : Int) (u : Tok) (c0 : (decide (x < -(2 ^ 63)) || decide (x ≥ 2 ^ 63)) = false) (c1 : (items.isEmpty || x == 1) = false) (c2 : (decide (x ≤ 0) || items.isEmpty) = true) :
    Meets (Builtin.«tuple.__mul__» ⟨[.ref l, .int x u], []⟩) (fun _ R s => s.heap.get? l = some { cls := .type "tuple", dict := dd, data := .seq items n, slots := sl } ∧
      R (.ok (.ret (Value.ref s.heap.objs.size))) { s with heap := s.heap.push { cls := Value.type "tuple", data := Data.seq #[] }, toks := s.toks }) :=
  .of_wp fun prog w A R s h => by
    obtain ⟨hp, g, d, tk, os⟩ := s
    obtain ⟨hl, h⟩ := h
    have f1 := AutoSeq1.idx_int
    wp_walk using wpAny_loadPart' hl
    repeat (first
      | (refine wpAny_ite_false (decide_eq_false (by rw [c0]; exact Bool.false_ne_true)) ?_; wp_walk using wpAny_loadPart' hl)
      | (refine wpAny_ite_false (decide_eq_false (by rw [c1]; exact Bool.false_ne_true)) ?_; wp_walk using wpAny_loadPart' hl)
      | (refine wpAny_ite_true (decide_eq_true c2) ?_; wp_walk using wpAny_loadPart' hl))
    exact ⟨_, rfl, h⟩
theorem tuple_mul1 (l : Addr) (items : Array Value) (n : Nat) (dd : Option Addr) (sl : Array (Option Value)) (x : Int) (u : Tok) (c0 : (decide (x < -(2 ^ 63)) || decide (x ≥ 2 ^ 63)) = false) (c1 : (items.isEmpty || x == 1) = true) :
    Meets (Builtin.«tuple.__mul__» ⟨[.ref l, .int x u], []⟩) (fun _ R s => s.heap.get? l = some { cls := .type "tuple", dict := dd, data := .seq items n, slots := sl } ∧
      R (.ok (.ret (Value.ref l))) s) :=
  .of_wp fun prog w A R s h => by
    obtain ⟨hp, g, d, tk, os⟩ := s
    obtain ⟨hl, h⟩ := h
    have f1 := AutoSeq1.idx_int
    wp_walk using wpAny_loadPart' hl
    repeat (first
      | (refine wpAny_ite_false (decide_eq_false (by rw [c0]; exact Bool.false_ne_true)) ?_; wp_walk using wpAny_loadPart' hl)
      | (refine wpAny_ite_true (decide_eq_true c1) ?_; wp_walk using wpAny_loadPart' hl))
    exact ⟨_, rfl, h⟩
def rRep01 (K : Frag) : R2 := fun x y H Q => ∃ l k xs, x = .ref l ∧ y = .int k ∧ SqT K H l xs ∧ -(2 ^ 62) ≤ k ∧ ((xs ≠ [] ∧ k ≤ 0 ∧ ∀ p, H p = none → Q (.ref p) (upd H p (.tup []))) ∨ (k = 1 ∧ Q (.ref l) H))
section
variable {X : Cx}
theorem op_rep01 : OpR X (binaryOp .Mult) (rRep01 X.K) := by
  intro pins s σ H x y v u Q I rx ry h
  obtain ⟨l, k, xs, rfl, rfl, hT, h0, q⟩ := h
  cases rx
  obtain ⟨t, rfl⟩ := ry
  obtain ⟨its, r, ⟨⟨cls, dd, data, sl⟩, ho, hc, n, hd⟩, hs⟩ := I.tuple hT
  simp only at hc hd
  subst hc hd
  have hle : its.length = xs.length := r.length.symm
  rcases q with ⟨hne, hk, q⟩ | ⟨hk, q⟩
  · have hi : its.toArray.isEmpty = false := by
      cases its with
      | nil => exact absurd (List.eq_nil_of_length_eq_zero hle.symm) hne
      | cons a b => rfl
    have c0 : (decide (k < -(2 ^ 63)) || decide (k ≥ 2 ^ 63)) = false := by
      rw [decide_eq_false (by omega), decide_eq_false (by omega)] <;> rfl
    have c1 : (its.toArray.isEmpty || k == 1) = false := by
      rw [hi, Bool.false_or]
      exact beq_eq_false_iff_ne.mpr (by omega)
    have c2 : (decide (k ≤ 0) || its.toArray.isEmpty) = true := by
      rw [decide_eq_true hk, Bool.true_or]
    refine wpAny_binaryOp_repeat_ref (T := "tuple") (U := "int") (by decide) ⟨_, ho, rfl⟩ (fun s' => typeIs_int s' k t) noFill_tuple_mul F.fills_int_mul F.slot_int_rmul repeat_tuple F.slot_int_index.lookup
      (call_meets F.slot_int_rmul (typeIs_int s k t) F.entry_int_rmul (F.args_int_rmul_2 _ _) (int_rmul_tuple k t l its.toArray n dd sl)
        ⟨ho, rfl, ⟨_, ho, rfl⟩, call_meets F.slot_tuple_mul ⟨_, ho, rfl⟩ F.entry_tuple_mul (F.args_tuple_mul_2 _ _) (tuple_mul0 l its.toArray n dd sl k t c0 c1 c2) ⟨ho, ?_⟩⟩)
    refine ⟨.ref s.heap.objs.size, _, I.laid (t' := s.toks) (o := .tup []) (fun b ob q => Heap.get?_push_of_some _ q) (Nat.le_refl _) ?_, rfl, q _ (I.hok.fresh (Nat.le_refl _))⟩
    exact ⟨Nat.zero_le _, [], .nil, IsTup.new _ _⟩
  · subst hk
    have c0 : (decide ((1 : Int) < -(2 ^ 63)) || decide ((1 : Int) ≥ 2 ^ 63)) = false := by decide
    have c1 : (its.toArray.isEmpty || (1 : Int) == 1) = true := by rw [beq_self_eq_true, Bool.or_true]
    exact wpAny_binaryOp_repeat_ref (T := "tuple") (U := "int") (by decide) ⟨_, ho, rfl⟩ (fun s' => typeIs_int s' 1 t) noFill_tuple_mul F.fills_int_mul F.slot_int_rmul repeat_tuple F.slot_int_index.lookup
      (call_meets F.slot_int_rmul (typeIs_int s 1 t) F.entry_int_rmul (F.args_int_rmul_2 _ _) (int_rmul_tuple 1 t l its.toArray n dd sl)
        ⟨ho, rfl, ⟨_, ho, rfl⟩, call_meets F.slot_tuple_mul ⟨_, ho, rfl⟩ F.entry_tuple_mul (F.args_tuple_mul_2 _ _) (tuple_mul1 l its.toArray n dd sl 1 t c0 c1) ⟨ho, .ref l, H, I, rfl, q⟩⟩)
abbrev oRepA : OD := fun a b M R => ∃ xs k, a = .dat (.tuple xs) ∧ b = .int k ∧ xs ≠ [] ∧ 2 ≤ k ∧ k ≤ 1000 ∧ xs.length ≤ 1000 ∧ R (.dat (.tuple (List.replicate k.toNat xs).flatten)) M
theorem rp_rep {K : Frag} {B : Hp} {us : List V} {xs : List PyData} (h : RpAll K B us xs) : ∀ n : Nat, RpAll K B (List.replicate n us).flatten (List.replicate n xs).flatten
  | 0 => .nil
  | n + 1 => by
    rw [List.replicate_succ, List.replicate_succ, List.flatten_cons, List.flatten_cons]
    exact h.append (rp_rep h n)
theorem oj_repA : OpJ X (binaryOp .Mult) oRepA := ⟨_, op_repT, fun B H M a b R x y Q w oa ob h hq => by
  obtain ⟨xs, k, rfl, rfl, hne, h1, h2, hz, h⟩ := h
  obtain ⟨p, us, rfl, hp, ra⟩ := oa.dat.inv_tup
  obtain rfl := ob.dat.inv_int
  refine ⟨p, k, us, rfl, rfl, sqt_le w.le hp, fun z => hne ?_, h1, h2, by rw [ra.length]; exact hz, fun t ht => ?_⟩
  · subst z; cases ra; rfl
  · obtain ⟨w2, st2⟩ := w.new (o := .tup (List.replicate k.toNat us).flatten) ht
    exact hq _ _ ⟨_, _, M, st2, w2, .of (.tup (SqT.of upd_same) ((rp_rep ra _).le st2.bb)), h⟩⟩
abbrev oRep0 : OD := fun a b M R => ∃ xs k, a = .dat (.tuple xs) ∧ b = .int k ∧ -(2 ^ 62) ≤ k ∧ ((xs ≠ [] ∧ k ≤ 0 ∧ R (.dat (.tuple [])) M) ∨ (k = 1 ∧ R (.dat (.tuple xs)) M))
theorem oj_rep0 : OpJ X (binaryOp .Mult) oRep0 := ⟨_, op_rep01, fun B H M a b R x y Q w oa ob h hq => by
  obtain ⟨xs, k, rfl, rfl, h0, h⟩ := h
  obtain ⟨p, us, rfl, hp, ra⟩ := oa.dat.inv_tup
  obtain rfl := ob.dat.inv_int
  refine ⟨p, k, us, rfl, rfl, sqt_le w.le hp, h0, ?_⟩
  rcases h with ⟨hne, hk, h⟩ | ⟨hk, h⟩
  · refine .inl ⟨fun z => hne ?_, hk, fun t ht => ?_⟩
    · subst z; cases ra; rfl
    · obtain ⟨w2, st2⟩ := w.new (o := .tup []) ht
      exact hq _ _ ⟨_, _, M, st2, w2, .of (.tup (SqT.of upd_same) .nil), h⟩
  · exact .inr ⟨hk, hq _ _ (.here w (.of (.tup hp ra)) h)⟩⟩
def gMul : PyData → PyData → Option PyData
  | .int i, .int j => if CMulW i j then some (.int (i * j)) else none
  | .tuple (x :: xs), .int k => if k = 1 then some (.tuple (x :: xs)) else if k ≤ 0 then (if -(2 ^ 62) ≤ k then some (.tuple []) else none) else if k ≤ 1000 ∧ (x :: xs).length ≤ 1000 then some (.tuple (List.replicate k.toNat (x :: xs)).flatten) else none
  | _, _ => none
theorem of_mul : OF X (binaryOp .Mult) gMul := ⟨fun x y z h => by
  unfold gMul at h
  split at h
  · split at h
    · cases h
      exact ⟨_, oj_mul, fun M a b R h1 h2 q => by rw [h1.un rfl, h2.un rfl]; exact ⟨by assumption, q⟩⟩
    · cases h
  · split at h
    · rename_i hk
      cases h
      exact ⟨_, oj_rep0, fun M a b R h1 h2 q => ⟨_, _, h1.un rfl, h2.un rfl, by omega, .inr ⟨hk, q⟩⟩⟩
    · split at h
      · split at h
        · cases h
          exact ⟨_, oj_rep0, fun M a b R h1 h2 q => ⟨_, _, h1.un rfl, h2.un rfl, by assumption, .inl ⟨(fun z => nomatch z), by assumption, q⟩⟩⟩
        · cases h
      · split at h
        · rename_i h1 h0 hb
          cases h
          exact ⟨_, oj_repA, fun M a b R g1 g2 q => ⟨_, _, g1.un rfl, g2.un rfl, (fun z => nomatch z), by omega, hb.1, hb.2, q⟩⟩
        · cases h
  · cases h⟩
end
/-! ### dicts of the module -/
def tabGet (tab : List (Str × PyData)) (z : Str) : Option PyData := (tab.find? fun p => decide (p.1 = z)).map (·.2)
structure KTab (K : Frag) (w : World) (mg : Str → Option Value) (x : Str) (tab : List (Str × PyData)) : Prop where
  ex : ∃ d es n, mg x = some (.ref d) ∧ KDict K w d es n ∧ ∀ z, (tabGet tab z = none → PySem.W.nsIn K d z = some none) ∧ ∀ y, tabGet tab z = some y → ∃ u0 v0, PySem.W.nsIn K d z = some (some u0) ∧ RelV v0 u0 ∧ ∀ B, Rp K B v0 y
section
variable {X : Cx} {a b : Expr} {pos p : Pos} {x : Str} {da : DX} {tab : List (Str × PyData)}
def dInK (tab : List (Str × PyData)) (neg : Bool) (a : DX) : DX := fun S st => (a S st).bind fun p => match p.1 with
  | .dat (.str z) => some (.bl (if neg then !(tabGet tab z).isSome else (tabGet tab z).isSome), p.2)
  | _ => none
def dIxK (tab : List (Str × PyData)) (a : DX) : DX := fun S st => (a S st).bind fun p => match p.1 with
  | .dat (.str z) => (tabGet tab z).map fun d => (.dat d, p.2)
  | _ => none
theorem ns_some {K : Frag} {w : World} {mg : Str → Option Value} {d : Addr} {z : Str} (h : (tabGet tab z = none → PySem.W.nsIn K d z = some none) ∧ ∀ y, tabGet tab z = some y → ∃ u0 v0, PySem.W.nsIn K d z = some (some u0) ∧ RelV v0 u0 ∧ ∀ B, Rp K B v0 y) : ∃ r, PySem.W.nsIn K d z = some r ∧ r.isSome = (tabGet tab z).isSome := by
  cases q : tabGet tab z with
  | none => exact ⟨none, h.1 q, rfl⟩
  | some y => obtain ⟨u0, v0, h1, _⟩ := h.2 y q; exact ⟨_, h1, rfl⟩
theorem oj_inK {d : Addr} {es : Array DictEntry} {n : Nat} (D : KDict X.K X.w d es n) (hz : ∀ z, (tabGet tab z = none → PySem.W.nsIn X.K d z = some none) ∧ ∀ y, tabGet tab z = some y → ∃ u0 v0, PySem.W.nsIn X.K d z = some (some u0) ∧ RelV v0 u0 ∧ ∀ B, Rp X.K B v0 y) :
    OpJ X (compareOp .In) fun a b M R => ∃ z, a = .str z ∧ b = .raw (.ref d) ∧ R (.bl (tabGet tab z).isSome) M := ⟨_, op_in_kd D, fun B H M a b R x y Q w oa ob h hq => by
  obtain ⟨z, rfl, rfl, h⟩ := h
  obtain ⟨r, h1, h2⟩ := ns_some (w := X.w) (mg := X.mg) (hz z)
  exact ⟨z, r, oa.dat.inv_str, ob.raw, h1, by rw [h2]; exact hq _ _ (.here w (.of (.bl _)) h)⟩⟩
theorem oj_notinK {d : Addr} {es : Array DictEntry} {n : Nat} (D : KDict X.K X.w d es n) (hz : ∀ z, (tabGet tab z = none → PySem.W.nsIn X.K d z = some none) ∧ ∀ y, tabGet tab z = some y → ∃ u0 v0, PySem.W.nsIn X.K d z = some (some u0) ∧ RelV v0 u0 ∧ ∀ B, Rp X.K B v0 y) :
    OpJ X (compareOp .NotIn) fun a b M R => ∃ z, a = .str z ∧ b = .raw (.ref d) ∧ R (.bl (!(tabGet tab z).isSome)) M := ⟨_, op_notIn_kd D, fun B H M a b R x y Q w oa ob h hq => by
  obtain ⟨z, rfl, rfl, h⟩ := h
  obtain ⟨r, h1, h2⟩ := ns_some (w := X.w) (mg := X.mg) (hz z)
  exact ⟨z, r, oa.dat.inv_str, ob.raw, h1, by rw [h2]; exact hq _ _ (.here w (.of (.bl _)) h)⟩⟩
theorem globK {d : Addr} (h : X.mg x = some (.ref d)) : GlobD X.K X.mg x (.raw (.ref d)) := ⟨.ref d, _, h, rfl, fun _ => rfl⟩
theorem dInK_some {neg : Bool} {S : List AV} {st st' : Sto} {r : AV} (h : dInK tab neg da S st = some (r, st')) : ∃ z, da S st = some (.str z, st') ∧ r = .bl (if neg then !(tabGet tab z).isSome else (tabGet tab z).isSome) := by
  obtain ⟨⟨v, st1⟩, e1, h⟩ := bnd h
  dsimp only at h
  split at h
  · cases h; exact ⟨_, e1, rfl⟩
  · cases h
theorem se_inK (T : KTab X.K X.w X.mg x tab) (ha : SE X a da) (hg : Gl X x := by rfl) (hd : (x == ("__debug__" : Str)) = false := by decide) : SE X (.Compare a [.In] [.Name x p] pos) (dInK tab false da) := ⟨fun e _ _ _ c m => by
  obtain ⟨d, es, n, h1, D, hz⟩ := T.ex
  obtain ⟨z, e1, rfl⟩ := dInK_some e
  exact je_cmp (oj_inK D hz) (ha.bind e1 c m fun bs r' M1 q1 c1 m1 => by cases q1; exact je_glob (globK h1) ⟨z, rfl, rfl, bs, .dat, m1⟩ hg hd)⟩
theorem se_notinK (T : KTab X.K X.w X.mg x tab) (ha : SE X a da) (hg : Gl X x := by rfl) (hd : (x == ("__debug__" : Str)) = false := by decide) : SE X (.Compare a [.NotIn] [.Name x p] pos) (dInK tab true da) := ⟨fun e _ _ _ c m => by
  obtain ⟨d, es, n, h1, D, hz⟩ := T.ex
  obtain ⟨z, e1, rfl⟩ := dInK_some e
  exact je_cmp (oj_notinK D hz) (ha.bind e1 c m fun bs r' M1 q1 c1 m1 => by cases q1; exact je_glob (globK h1) ⟨z, rfl, rfl, bs, .dat, m1⟩ hg hd)⟩
theorem st_inK (T : KTab X.K X.w X.mg x tab) (ha : SE X a da) (hg : Gl X x := by rfl) (hd : (x == ("__debug__" : Str)) = false := by decide) : ST X (.Compare a [.In] [.Name x p] pos) (tOf (dInK tab false da)) := ⟨fun e _ _ _ c m => by
  obtain ⟨d, es, n, h1, D, hz⟩ := T.ex
  obtain ⟨z, e1, e2⟩ := dInK_some (tOf_some e)
  cases e2
  exact jt_cmp (oj_inK D hz) (ha.bind e1 c m fun bs r' M1 q1 c1 m1 => by cases q1; exact je_glob (globK h1) ⟨z, rfl, rfl, _, rfl, rfl, bs, m1⟩ hg hd)⟩
theorem st_notinK (T : KTab X.K X.w X.mg x tab) (ha : SE X a da) (hg : Gl X x := by rfl) (hd : (x == ("__debug__" : Str)) = false := by decide) : ST X (.Compare a [.NotIn] [.Name x p] pos) (tOf (dInK tab true da)) := ⟨fun e _ _ _ c m => by
  obtain ⟨d, es, n, h1, D, hz⟩ := T.ex
  obtain ⟨z, e1, e2⟩ := dInK_some (tOf_some e)
  cases e2
  exact jt_cmp (oj_notinK D hz) (ha.bind e1 c m fun bs r' M1 q1 c1 m1 => by cases q1; exact je_glob (globK h1) ⟨z, rfl, rfl, _, rfl, rfl, bs, m1⟩ hg hd)⟩
theorem ix_kd {d : Addr} {es : Array DictEntry} {n : Nat} (D : KDict X.K X.w d es n) : IxR X (fun x y H Q => ∃ (z : Str) (u0 : Value) (v0 : V), x = .ref d ∧ y = .str z ∧ PySem.W.nsIn X.K d z = some (some u0) ∧ RelV v0 u0 ∧ Q v0 H) := by
  intro value slice pins s σ H x y v u Q I rx ry h hs
  have hx : v = .ref d := by
    obtain ⟨z, u0, v0, rfl, _⟩ := h
    exact rx
  subst hx
  exact tail_any (kd_type D I) PySem.F.slot_dict_getitem.lookup (op_item_kd D pins s σ H x y _ u Q I rx ry h) hs
theorem se_ixK (T : KTab X.K X.w X.mg x tab) (hb : SE X b da) (hs : PlainIx b := by exact fun _ _ => rfl) (hg : Gl X x := by rfl) (hd : (x == ("__debug__" : Str)) = false := by decide) : SE X (.Subscript (.Name x p) b pos) (dIxK tab da) := ⟨fun e _ _ _ c m => by
  obtain ⟨d, es, n, h1, D, hz⟩ := T.ex
  obtain ⟨⟨v, st1⟩, e1, e⟩ := bnd e
  dsimp only at e
  split at e
  · rename_i z
    obtain ⟨y, e2, e⟩ := Option.map_eq_some_iff.mp e
    cases e
    obtain ⟨u0, v0, g1, g2, g3⟩ := (hz z).2 y e2
    have o : IxJ X fun a b M R => a = .raw (.ref d) ∧ b = .str z ∧ R (.dat y) M := ⟨_, ix_kd D, fun B H M a b R x y' Q w oa ob h hq => by
      obtain ⟨rfl, rfl, h⟩ := h
      exact ⟨z, u0, v0, oa.raw, ob.dat.inv_str, g1, g2, hq _ _ (.here w (.of (g3 B)) h)⟩⟩
    exact je_ix o (je_glob (globK h1) (hb.bind e1 c m fun bs r' M1 q1 c1 m1 => by cases q1; exact ⟨rfl, rfl, bs, .dat, m1⟩) hg hd) hs
  · cases e⟩
end
/-! ### dict(pairs), d.update(d2) -/
section
variable {X : Cx} {e o a : Expr} {es : List Expr} {pos p apos cpos : Pos} {x : Str} {ds : DAs} {d1 d2 : DX}
def kvsOf : List PyData → Option (List (Key × PyData))
  | [] => some []
  | .tuple [k, v] :: r => (keyOf k).bind fun kk => (kvsOf r).map ((kk, v) :: ·)
  | _ :: _ => none
theorem kvsOf_some {K : Frag} {B H : Hp} (le : Same B H) : ∀ {ds : List PyData} {kvs : List (Key × PyData)} {vs : List V}, kvsOf ds = some kvs → RpAll K B vs ds → ∃ (ps : List Addr) (ks : List (Key × V)), vs = ps.map V.ref ∧ Paired (fun p kv => SqT K H p [kV kv.1, kv.2]) ps ks ∧ KvOk K B ks kvs := by
  intro ds
  induction ds with
  | nil => intro kvs vs h r; cases h; cases r; exact ⟨[], [], rfl, .nil, .nil⟩
  | cons d r ih =>
    intro kvs vs h rp
    unfold kvsOf at h
    split at h
    · exact absurd (by assumption : d :: r = []) (by simp)
    · rename_i k v r' h0
      cases h0
      obtain ⟨kk, h1, h⟩ := bnd h
      obtain ⟨ms, h2, rfl⟩ := Option.map_eq_some_iff.mp h
      cases rp with
      | cons rv rr =>
        obtain ⟨ps, ks, rfl, g1, g2⟩ := ih h2 rr
        obtain ⟨q, xs, rfl, hq, hx⟩ := rv.inv_tup
        cases hx with
        | cons hk hx =>
          cases hx with
          | cons hv hx =>
            cases hx
            rw [keyOf_some h1] at hk
            have e := rp_key hk
            subst e
            exact ⟨q :: ps, (kk, _) :: ks, rfl, .cons (sqt_le le hq) g1, .cons ⟨rfl, hv⟩ g2⟩
    · cases h
abbrev cDictP : CDt := fun rs M R => ∃ (r : SD) (ds : List PyData) (kvs : List (Key × PyData)), rs = [r] ∧ IsD M r (.list ds) ∧ kvsOf ds = some kvs ∧ ∀ p, R (.raw (.ref p)) ((p, .dK (mergeP [] kvs)) :: M)
theorem cj_dictP (hc : X.calm = true) : CallJ X (.type "dict") cDictP := ⟨_, call_dictP hc, fun B H M rs R vs Q w oa h hq => by
  obtain ⟨r, ds, kvs, rfl, h1, h2, h⟩ := h
  obtain ⟨v, rfl, ok⟩ := slots1 oa
  obtain ⟨a, xs, rfl, hs, ra⟩ := h1.items w ok
  obtain ⟨ps, ks, rfl, g1, g2⟩ := kvsOf_some w.le h2 ra
  refine ⟨a, ps, ks, rfl, hs, g1, fun p hp => ?_⟩
  obtain ⟨w2, st2⟩ := w.newM (o := .dK (mergeK [] ks)) (m := .dK (mergeP [] kvs)) hp ⟨_, upd_same, kv_merge g2 .nil⟩
  exact hq _ _ ⟨_, SD.raw (.ref p), _, st2, w2, rfl, h p⟩⟩
def dDictP (ds : DAs) : DX := fun S st => (ds S st).bind fun p => match p.1 with
  | [v] => (rd p.2 v).bind fun d => match d with
    | .list xs => (kvsOf xs).map fun kvs => (.han p.2.length, p.2 ++ [some (.dK (mergeP [] kvs))])
    | _ => none
  | _ => none
theorem se_dictP (hc : X.calm = true) (hm : X.mg x = none) (hv : bootBuiltins x = some (.type "dict")) (h : SA X (e :: es) ds) (hg : Gl X x := by rfl) (hn : x ≠ "__name__" := by decide) (hdb : (x == ("__debug__" : Str)) = false := by decide)
    (he : starEach (e :: es) X.env = (false, eval e X.env) :: starEach es X.env := by rfl) (hpl : (backTo pos (starEach es X.env)).any (·.1) = false := by rfl) : SE X (.Call (.Name x p) (e :: es) [] pos) (dDictP ds) := ⟨fun {S st r st'} q {as S' M} c m => by
  obtain ⟨⟨vs, st1⟩, e1, q⟩ := bnd q
  dsimp only at q
  split at q
  · obtain ⟨d, e2, q⟩ := bnd q
    split at q
    · obtain ⟨kvs, e3, q⟩ := Option.map_eq_some_iff.mp q
      cases q
      refine JE.nd (je_callT (cj_dictP hc) hm hv (h.bind e1 c m fun bs r' M1 q1 c1 m1 => ?_) hg hn hdb he hpl)
      obtain ⟨r, rfl, qa⟩ := cvs1 q1
      exact ⟨r, _, kvs, rfl, rd_is e2 qa m1, e3, fun p nd => (pst_new m1 nd).app⟩
    · cases q
  · cases q⟩
theorem mt_update : MtR X "dict.update" (fun x vs H Q => ∃ a b ks ls, x = .ref a ∧ vs = [.ref b] ∧ a ≠ b ∧ H a = some (.dK ks) ∧ H b = some (.dK ls) ∧ ks.length + ls.length ≤ sizeLine ∧ Q .non (upd H a (.dK (mergeK ks ls)))) := by
  intro pins s σ H x vs v us Q I rx rv h
  obtain ⟨a, b, ks, ls, rfl, rfl, hne, hA, hB, hz, q⟩ := h
  cases rx
  obtain ⟨u, rfl, ru⟩ := rv.one
  cases ru
  obtain ⟨z1, d1, vs1, rel1, dd1⟩ := dk_of I.hok hA
  obtain ⟨z2, d2, vs2, rel2, dd2⟩ := dk_of I.hok hB
  refine call_meetsIn PySem.F.slot_dict_update dd1.typeIs PySem.F.entry_dict_update (PySem.F.args_dict_update_2 _ _) (meets_dict_update (mixKind X.prog X.w) a b hne d2)
    ⟨vs1, vs2, dd1, dd2, by rw [← rel1.length, ← rel2.length]; exact hz, fun h' hmm _ hs => ?_⟩
  have he : ∃ q, h'.get? a = some q := let ⟨q, _, _, hq, _⟩ := hmm; ⟨q, hq⟩
  refine ⟨.non, _, d_write (t' := s.toks) I (by rw [hA]; exact True.intro) hs he (dk_new ?_ d1 (rel2.merge rel1) hmm), rfl, q⟩
  have := length_mergeK ls ks
  omega
abbrev mUpd : MD := fun ro rs M R => ∃ (i j : Nat) (a b : Addr) (ks ls : List (Key × PyData)), ro = .raw (.ref a) ∧ rs = [.raw (.ref b)] ∧ a ≠ b ∧ M[i]? = some (a, MO.dK ks) ∧ M[j]? = some (b, MO.dK ls) ∧ ks.length + ls.length ≤ 1000000 ∧ R .non (M.set i (a, .dK (mergeP ks ls)))
theorem je_upd {S : List SD} {M : MS} {R : SD → MS → Prop} (h : JE X o S M fun ro M1 => (∃ a ks, ro = .raw (.ref a) ∧ (a, MO.dK ks) ∈ M1) ∧ JA X [a] S M1 fun rs M2 => mUpd ro rs M2 R)
    (hbase : attributeBase o "update" X.env (eval o X.env) = eval o X.env := by rfl)
    (hfew : ((backTo cpos (starEach [a] X.env)).all (fun x => !x.1) && (backToKw cpos (keywordEach [] X.env)).all (fun x => x.1.isSome)
      && decide ((a :: ([] : List Expr)).length + ([] : List Keyword).length + (if ([] : List Keyword).isEmpty then 0 else 1) < 30)) = true := by rfl)
    (hline : (apos.endLine == cpos.line) = true := by rfl) (hs : starEach [a] X.env = (false, eval a X.env) :: starEach [] X.env := by rfl) (hplain : (backTo cpos (starEach [] X.env)).any (·.1) = false := by rfl) :
    JE X (.Call (.Attribute o "update" apos) [a] [] cpos) S M R := ⟨fun σ H B w s => by
  refine of_pe (pe_bm PySem.F.plainAttrs_dict PySem.F.slot_dict_update PySem.F.type_dict_update mt_update pe_w pa_w hbase hfew hline hs hplain) ((h.run σ H B w s).mono fun v H1 ⟨B1, ro, M1, st1, w1, ok1, ⟨a0, ks0, e0, hm0⟩, h1⟩ => ?_)
  subst e0
  obtain ⟨_, xs0, hx0, _⟩ := w1.mo _ hm0
  have e1 := ok1.raw
  subst e1
  refine ⟨.inr (.inr (.inl ⟨rfl, .inl ⟨_, hx0⟩⟩)), (h1.run σ H1 B1 w1 (s.le st1.bb)).mono fun vs H2 ⟨B2, rs, M2, st2, w2, ok2, i, j, a1, b1, ks, ls, e2, e3, hne, hi, hj, hz, h2⟩ => ?_⟩
  cases e2
  subst e3
  obtain ⟨v2, rfl, ok3⟩ := slots1 ok2
  have e4 := ok3.raw
  subst e4
  obtain ⟨_, xs, hx, rx⟩ := w2.mo _ (List.mem_of_getElem? hi)
  obtain ⟨_, ys, hy, ry⟩ := w2.mo _ (List.mem_of_getElem? hj)
  obtain ⟨w3, st3⟩ := w2.upd (m' := .dK (mergeP ks ls)) (o := .dK (mergeK xs ys)) hi ⟨_, upd_same, kv_merge ry rx⟩
  refine ⟨_, _, xs, ys, rfl, rfl, hne, hx, hy, by rw [Paired.length rx, Paired.length ry, sizeLine_eq]; omega, B2, .non, _, (st1.trans st2).trans st3, w3, .of .non, h2⟩⟩
def dUpdate (a b : DX) : DX := fun S st => (a S st).bind fun p => (dctAt p.2 p.1).bind fun _ => (b S p.2).bind fun q => (dctAt q.2 p.1).bind fun l => (dctAt q.2 q.1).bind fun r => if l.1 ≠ r.1 ∧ l.2.length + r.2.length ≤ 1000000 then some (.non, q.2.set l.1 (some (.dK (mergeP l.2 r.2)))) else none
theorem se_update (h1 : SE X o d1) (h2 : SE X a d2) (hbase : attributeBase o "update" X.env (eval o X.env) = eval o X.env := by rfl)
    (hfew : ((backTo cpos (starEach [a] X.env)).all (fun x => !x.1) && (backToKw cpos (keywordEach [] X.env)).all (fun x => x.1.isSome)
      && decide ((a :: ([] : List Expr)).length + ([] : List Keyword).length + (if ([] : List Keyword).isEmpty then 0 else 1) < 30)) = true := by rfl)
    (hline : (apos.endLine == cpos.line) = true := by rfl) (hs : starEach [a] X.env = (false, eval a X.env) :: starEach [] X.env := by rfl) (hplain : (backTo cpos (starEach [] X.env)).any (·.1) = false := by rfl) :
    SE X (.Call (.Attribute o "update" apos) [a] [] cpos) (dUpdate d1 d2) := ⟨fun {S st r st'} q {as S' M} c m => by
  obtain ⟨⟨v1, s1⟩, e1, q⟩ := bnd q
  obtain ⟨⟨k0, ks0⟩, e2, q⟩ := bnd q
  obtain ⟨⟨v3, s3⟩, e3, q⟩ := bnd q
  obtain ⟨⟨k, ks⟩, e4, q⟩ := bnd q
  obtain ⟨⟨k', ls⟩, e5, q⟩ := bnd q
  dsimp only at q
  split at q
  · rename_i hz
    cases q
    refine je_upd (h1.bind e1 c m fun bs r1 M1 q1 c1 m1 => ?_) hbase hfew hline hs hplain
    obtain ⟨a0, i0, e0, _, _, hm0⟩ := dct_han e2 q1 m1
    refine ⟨⟨a0, ks0, e0, hm0⟩, ja_cons (h2.bind e3 c1 m1 fun cs r3 M3 q3 c3 m3 => ja_nil ?_) hs⟩
    obtain ⟨l, i, e6, ha, hi, _⟩ := dct_han e4 (q1.app cs) m3
    obtain ⟨l', j, e7, hb, hj, _⟩ := dct_han e5 q3 m3
    obtain ⟨_, hk⟩ := dctAt_some e4
    obtain ⟨_, hk'⟩ := dctAt_some e5
    subst e6 e7
    refine ⟨i, j, l, l', ks, ls, rfl, rfl, fun z => hz.1 (m3.inj _ _ l _ _ ha (z ▸ hb) hk hk'), hi, hj, hz.2, (Pst.here .dat (m3.upd ha hk hi)).app.app⟩
  · cases q⟩
end
/-! ### a op b op' c op'' d, as a test -/
section
variable {X : Cx} {a b c d : Expr} {pos : Pos} {op op' op2 : CmpOp} {da db dc dd : DX} {g g' g2 : PyData → PyData → Option PyData}
theorem pt_chain3 {r r' r2 : R2} {ta tb tc td : TE} (ho : OpR X (compareOp op) r) (ho' : OpR X (compareOp op') r') (ho2 : OpR X (compareOp op2) r2) (ha : PE X a ta) (hb : PE X b tb) (hc : PE X c tc) (hd : PE X d td)
    (hm : lastMarks [op, op', op2] [b, c, d] = false := by with_unfolding_all rfl) : PT X (.Compare a [op, op', op2] [b, c, d] pos) (fun σ H Q => ta σ H fun x H1 => tb σ H1 fun y H2 => r x y H2 fun z H3 => ∃ k, z = .bl k ∧ if k = true then tc σ H3 fun w H4 => r' y w H4 fun z' H5 => ∃ k', z' = .bl k' ∧ (if k' = true then td σ H5 fun v H6 => r2 w v H6 fun z2 H7 => ∃ k2, z2 = .bl k2 ∧ Q k2 H7 else Q false H5) else Q false H3) := by
  refine ⟨fun pins s σ H Q I h => ?_⟩
  refine isTrue_chain (thn (ha.run pins s σ H _ I h) fun v s1 ⟨x, H1, I1, r1, q1⟩ => test_link (thn (hb.run pins s1 σ H1 _ I1 q1) fun u s2 ⟨y, H2, I2, r2', q2⟩ =>
    thn (ho pins s2 σ H2 x y v u _ I2 r1 r2' q2) fun d s3 ⟨z, H3, I3, r3, k, e, q3⟩ => ?_)) hm
  subst e
  cases r3
  refine wpAny_truthy_bool ?_
  cases k with
  | false => exact ite_ff ⟨H3, I3, by simpa using q3⟩
  | true =>
    rw [if_pos rfl] at q3
    refine ite_tt (test_link (thn (hc.run pins s3 σ H3 _ I3 q3) fun w' s4 ⟨z', H4, I4, r4, q4⟩ => thn (ho' pins s4 σ H4 y z' u w' _ I4 r2' r4 q4) fun d' s5 ⟨z2, H5, I5, r5, k2, e2, q5⟩ => ?_))
    subst e2
    cases r5
    refine wpAny_truthy_bool ?_
    cases k2 with
    | false => exact ite_ff ⟨H5, I5, by simpa using q5⟩
    | true =>
      rw [if_pos rfl] at q5
      refine ite_tt (test_last (thn (hd.run pins s5 σ H5 _ I5 q5) fun v' s6 ⟨z6, H6, I6, r6, q6⟩ => thn (ho2 pins s6 σ H6 z' z6 w' v' _ I6 r4 r6 q6) fun d2 s7 ⟨z7, H7, I7, r7, k7, e7, q7⟩ => ?_))
      subst e7
      cases r7
      exact wpAny_truthy_bool ⟨H7, I7, q7⟩
theorem jt_chain3 {S : List SD} {M : MS} {RT : Bool → MS → Prop} {od od' od2 : OD} (o : OpJ X (compareOp op) od) (o' : OpJ X (compareOp op') od') (o2 : OpJ X (compareOp op2) od2)
    (h : JE X a S M fun r1 M1 => JE X b S M1 fun r2 M2 => od r1 r2 M2 (isB fun k M3 => if k = true then JE X c S M3 fun r3 M4 => od' r2 r3 M4 (isB fun k2 M5 => if k2 = true then JE X d S M5 fun r4 M6 => od2 r3 r4 M6 (isB RT) else RT false M5) else RT false M3)) (hm : lastMarks [op, op', op2] [b, c, d] = false := by with_unfolding_all rfl) : JT X (.Compare a [op, op', op2] [b, c, d] pos) S M RT := ⟨fun σ H B w s => by
  obtain ⟨r, ho, hr⟩ := o.ex
  obtain ⟨r', ho', hr'⟩ := o'.ex
  obtain ⟨r2, ho2, hr2⟩ := o2.ex
  refine of_pt (pt_chain3 ho ho' ho2 pe_w pe_w pe_w pe_w hm) ((h.run σ H B w s).mono fun v1 H1 ⟨B1, r1, M1, st1, w1, ok1, h1⟩ => ?_)
  refine (h1.run σ H1 B1 w1 (s.le st1.bb)).mono fun v2 H2 ⟨B2, q2, M2, st2, w2, ok2, h2⟩ => ?_
  refine hr B2 H2 M2 r1 q2 _ v1 v2 _ w2 (ok1.le st2.bb) ok2 h2 fun v H3 ⟨B3, r3, M3, st3, w3, ok3, k, e, h3⟩ => ?_
  subst e
  refine ⟨k, ok3.dat.inv_bl, ?_⟩
  have st := (st1.trans st2).trans st3
  cases k with
  | false =>
    rw [if_neg Bool.false_ne_true] at h3 ⊢
    exact ⟨B3, M3, st, w3, h3⟩
  | true =>
    rw [if_pos rfl] at h3 ⊢
    refine (h3.run σ H3 B3 w3 (s.le st.bb)).mono fun v4 H4 ⟨B4, r4, M4, st4, w4, ok4, h4⟩ => ?_
    refine hr' B4 H4 M4 q2 r4 _ v2 v4 _ w4 ((ok2.le st3.bb).le st4.bb) ok4 h4 fun v H5 ⟨B5, r5, M5, st5, w5, ok5, k5, e5, h5⟩ => ?_
    subst e5
    refine ⟨k5, ok5.dat.inv_bl, ?_⟩
    have stt := (st.trans st4).trans st5
    cases k5 with
    | false =>
      rw [if_neg Bool.false_ne_true] at h5 ⊢
      exact ⟨B5, M5, stt, w5, h5⟩
    | true =>
      rw [if_pos rfl] at h5 ⊢
      refine (h5.run σ H5 B5 w5 (s.le stt.bb)).mono fun v6 H6 ⟨B6, r6, M6, st6, w6, ok6, h6⟩ => ?_
      refine hr2 B6 H6 M6 r4 r6 _ v4 v6 _ w6 ((ok4.le st5.bb).le st6.bb) ok6 h6 fun v H7 ⟨B7, r7, M7, st7, w7, ok7, k7, e7, h7⟩ => ?_
      subst e7
      exact ⟨k7, ok7.dat.inv_bl, B7, M7, (stt.trans st6).trans st7, w7, h7⟩⟩
/-- the value of a comparison of two values of data -/
def cmpB (g : PyData → PyData → Option PyData) (u v : AV) (st : Sto) : Option Bool := (lift2 g u v st).bind fun r => asB r.1
theorem cmpB_some {u v : AV} {st : Sto} {k : Bool} (h : cmpB g u v st = some k) : ∃ x y, rd st u = some x ∧ rd st v = some y ∧ g x y = some (.bool k) := by
  obtain ⟨⟨r, st1⟩, h1, h2⟩ := bnd h
  obtain ⟨x, y, z, g1, g2, g3, rfl, rfl⟩ := lift2_some h1
  have : AV.dat z = .bl k := asB_some h2
  cases this
  exact ⟨x, y, g1, g2, g3⟩
def tChain3 (g g' g2 : PyData → PyData → Option PyData) (a b c d : DX) : DTt := fun S st => (a S st).bind fun p => (b S p.2).bind fun q => (cmpB g p.1 q.1 q.2).bind fun k => match k with
  | false => some (false, q.2)
  | true => (c S q.2).bind fun r => (cmpB g' q.1 r.1 r.2).bind fun k' => match k' with
    | false => some (false, r.2)
    | true => (d S r.2).bind fun t => (cmpB g2 r.1 t.1 t.2).map fun k2 => (k2, t.2)
theorem st_chain3 (o : OF X (compareOp op) g) (o' : OF X (compareOp op') g') (o2 : OF X (compareOp op2) g2) (ha : SE X a da) (hb : SE X b db) (hc : SE X c dc) (hd : SE X d dd) (hm : lastMarks [op, op', op2] [b, c, d] = false := by with_unfolding_all rfl) : ST X (.Compare a [op, op', op2] [b, c, d] pos) (tChain3 g g' g2 da db dc dd) := ⟨fun {S st r st'} e {as S' M} cv m => by
  have no : ∀ {op : CmpOp}, OpJ X (compareOp op) (fun _ _ _ _ => False) := ⟨_, op_no, fun _ _ _ _ _ _ _ _ _ _ _ _ h => h.elim⟩
  obtain ⟨⟨v1, s1⟩, e1, e⟩ := bnd e
  obtain ⟨⟨v2, s2⟩, e2, e⟩ := bnd e
  obtain ⟨k, e3, e⟩ := bnd e
  obtain ⟨x, y, f1, f2, f3⟩ := cmpB_some e3
  obtain ⟨od, o, ho⟩ := o.ex _ _ _ f3
  cases k with
  | false =>
    cases e
    refine jt_chain3 o (no (op := op')) (no (op := op2)) (ha.bind e1 cv m fun bs r1' M1 q1 c1 m1 => hb.bind e2 c1 m1 fun cs r2' M2 q2 c2 m2 => ho _ _ _ _ (rd_is f1 (q1.app cs) m2) (rd_is f2 q2 m2) ⟨false, rfl, ?_⟩) hm
    show (if false = true then _ else _)
    rw [if_neg Bool.false_ne_true]
    exact ⟨rfl, bs ++ cs, by rw [← List.append_assoc]; exact m2⟩
  | true =>
    obtain ⟨⟨v4, s4⟩, e4, e⟩ := bnd e
    obtain ⟨k', e5, e⟩ := bnd e
    obtain ⟨x', y', f1', f2', f3'⟩ := cmpB_some e5
    obtain ⟨od', o', ho'⟩ := o'.ex _ _ _ f3'
    cases k' with
    | false =>
      cases e
      refine jt_chain3 o o' (no (op := op2)) (ha.bind e1 cv m fun bs r1' M1 q1 c1 m1 => hb.bind e2 c1 m1 fun cs r2' M2 q2 c2 m2 => ho _ _ _ _ (rd_is f1 (q1.app cs) m2) (rd_is f2 q2 m2) ⟨true, rfl, ?_⟩) hm
      show (if true = true then _ else _)
      rw [if_pos rfl]
      refine hc.bind e4 c2 m2 fun ds r4' M4 q4 c4 m4 => ho' _ _ _ _ (rd_is f1' (q2.app ds) m4) (rd_is f2' q4 m4) ⟨false, rfl, ?_⟩
      show (if false = true then _ else _)
      rw [if_neg Bool.false_ne_true]
      exact ⟨rfl, bs ++ cs ++ ds, by simpa [List.append_assoc] using m4⟩
    | true =>
      obtain ⟨⟨v6, s6⟩, e6, e⟩ := bnd e
      obtain ⟨k2, e7, e⟩ := Option.map_eq_some_iff.mp e
      have e8 : k2 = r := congrArg (fun q : Bool × Sto => q.1) (Option.some.inj (congrArg some e))
      have e9 : s6 = st' := congrArg (fun q : Bool × Sto => q.2) (Option.some.inj (congrArg some e))
      subst e8 e9
      obtain ⟨x2, y2, h1, h2, h3⟩ := cmpB_some e7
      obtain ⟨od2, o2, ho2⟩ := o2.ex _ _ _ h3
      refine jt_chain3 o o' o2 (ha.bind e1 cv m fun bs r1' M1 q1 c1 m1 => hb.bind e2 c1 m1 fun cs r2' M2 q2 c2 m2 => ho _ _ _ _ (rd_is f1 (q1.app cs) m2) (rd_is f2 q2 m2) ⟨true, rfl, ?_⟩) hm
      show (if true = true then _ else _)
      rw [if_pos rfl]
      refine hc.bind e4 c2 m2 fun ds r4' M4 q4 c4 m4 => ho' _ _ _ _ (rd_is f1' (q2.app ds) m4) (rd_is f2' q4 m4) ⟨true, rfl, ?_⟩
      show (if true = true then _ else _)
      rw [if_pos rfl]
      refine hd.bind e6 c4 m4 fun es r6' M6 q6 c6 m6 => ho2 _ _ _ _ (rd_is h1 (q4.app es) m6) (rd_is h2 q6 m6) ⟨k2, rfl, rfl, bs ++ cs ++ ds ++ es, ?_⟩
      simpa [List.append_assoc] using m6⟩
end
theorem rlen0 {vs S : List AV} {st : Sto} {S1 : List AV} {st1 : Sto} (h : rNil vs S st = some (S1, st1)) : vs.length = 0 := by
  cases vs with
  | nil => rfl
  | cons _ _ => cases h
theorem rlenS {g : DTg} {d : DTv} {n : Nat} (t : ∀ {vs S : List AV} {st : Sto} {S1 : List AV} {st1 : Sto}, d vs S st = some (S1, st1) → vs.length = n) {vs S : List AV} {st : Sto} {S1 : List AV} {st1 : Sto} (h : rCons g d vs S st = some (S1, st1)) : vs.length = n + 1 := by
  cases vs with
  | nil => cases h
  | cons v r =>
    obtain ⟨⟨S2, st2⟩, e1, h⟩ := bnd h
    rw [List.length_cons, t h]
end DL
set_option Elab.async false
set_option linter.all false
set_option maxRecDepth 100000
set_option maxHeartbeats 4000000
namespace DL
open PySem PySem.Spec PyProof.Rows L2
/-! ### a, b = e, f and a, b, c = e, f, g with plain names -/
section
variable {X : Cx} {a b c : Expr} {x y z : Str} {px py pz pt pos pt2 : Pos} {kt k2 : Nat} {ds : DAs}
def sPar (i j : Nat) (ds : DAs) : DSt := fun S st => (ds S st).bind fun p => match p.1 with
  | [v, w] => some (.nx, (S.set i v).set j w, p.2)
  | _ => none
theorem ss_par (i j : Nat) (hc : X.calm = true) (hN : X.N.Nodup) (ha : SA X [a, b] ds) (hi : X.N[i]? = some x := by rfl) (hj : X.N[j]? = some y := by rfl) (hij : i ≠ j := by decide)
    (hx : X.env.scope.names.lookup x = some .local := by rfl) (hy : X.env.scope.names.lookup y = some .local := by rfl)
    (hw : swappedStores [.Tuple [.Name x px, .Name y py] kt pt] (.Tuple [a, b] k2 pt2) X.env = pure (some [x, y]) := by rfl)
    (hs : swapsWithSole [.Tuple [.Name x px, .Name y py] kt pt] (.Tuple [a, b] k2 pt2) pos.line X.env = pure false := by rfl) :
    SS X (.Assign [.Tuple [.Name x px, .Name y py] kt pt] (.Tuple [a, b] k2 pt2) pos) (sPar i j ds) := ⟨fun {S st fl S1 st1} q {as S' M} cv m => by
  obtain ⟨⟨vs, st2⟩, e1, q⟩ := bnd q
  dsimp only at q
  split at q
  · cases q
    refine ⟨fun σ H B w s => of_ps (ps_par hc hN hi hj hij hx hy pa_w hw hs) (((ha.run e1 cv m).run σ H B w s).mono fun us H1 ⟨B1, rs, M1, stp, w1, ok1, bs, c1, m1⟩ => ?_)⟩
    obtain ⟨r1, r2, rfl, q1, q2⟩ := cvs2 c1
    obtain ⟨u1, u2, rfl, o1, o2⟩ := slots2 ok1
    exact ⟨u1, u2, rfl, B1, _, M1, stp, w1, ((s.le stp.bb).set o1).set o2, rfl, bs, ((cv.app bs).set q1 i).set q2 j, m1⟩
  · cases q⟩
def sPar3 (i j l : Nat) (ds : DAs) : DSt := fun S st => (ds S st).bind fun p => match p.1 with
  | [u, v, w] => some (.nx, ((S.set i u).set j v).set l w, p.2)
  | _ => none
theorem cvs3 {as : List Addr} {u v w : AV} {rs : List SD} (h : CvS as [u, v, w] rs) : ∃ r s t, rs = [r, s, t] ∧ Cv as u r ∧ Cv as v s ∧ Cv as w t := by
  cases h with
  | cons h t => obtain ⟨s, t, rfl, h2, h3⟩ := cvs2 t; exact ⟨_, _, _, rfl, h, h2, h3⟩
theorem slots3 {K : Frag} {B : Hp} {r q p : SD} {vs : List V} (h : SlotsA K B [r, q, p] vs) : ∃ v u w, vs = [v, u, w] ∧ SlotOk K B r (some v) ∧ SlotOk K B q (some u) ∧ SlotOk K B p (some w) := by
  cases h with
  | cons h t =>
    obtain ⟨u, w, rfl, h2, h3⟩ := slots2 t
    exact ⟨_, _, _, rfl, h, h2, h3⟩
theorem ss_par3 (i j l : Nat) (hc : X.calm = true) (hN : X.N.Nodup) (ha : SA X [a, b, c] ds) (hi : X.N[i]? = some x := by rfl) (hj : X.N[j]? = some y := by rfl) (hl : X.N[l]? = some z := by rfl) (hij : i ≠ j := by decide) (hil : i ≠ l := by decide) (hjl : j ≠ l := by decide)
    (hx : X.env.scope.names.lookup x = some .local := by rfl) (hy : X.env.scope.names.lookup y = some .local := by rfl) (hz : X.env.scope.names.lookup z = some .local := by rfl)
    (hw : swappedStores [.Tuple [.Name x px, .Name y py, .Name z pz] kt pt] (.Tuple [a, b, c] k2 pt2) X.env = pure (some [x, y, z]) := by rfl)
    (hs : swapsWithSole [.Tuple [.Name x px, .Name y py, .Name z pz] kt pt] (.Tuple [a, b, c] k2 pt2) pos.line X.env = pure false := by rfl) :
    SS X (.Assign [.Tuple [.Name x px, .Name y py, .Name z pz] kt pt] (.Tuple [a, b, c] k2 pt2) pos) (sPar3 i j l ds) := ⟨fun {S st fl S1 st1} q {as S' M} cv m => by
  obtain ⟨⟨vs, st2⟩, e1, q⟩ := bnd q
  dsimp only at q
  split at q
  · cases q
    refine ⟨fun σ H B w s => of_ps (ps_par3 hc hN hi hj hl hij hil hjl hx hy hz pa_w hw hs) (((ha.run e1 cv m).run σ H B w s).mono fun us H1 ⟨B1, rs, M1, stp, w1, ok1, bs, c1, m1⟩ => ?_)⟩
    obtain ⟨r1, r2, r3, rfl, q1, q2, q3⟩ := cvs3 c1
    obtain ⟨u1, u2, u3, rfl, o1, o2, o3⟩ := slots3 ok1
    exact ⟨u1, u2, u3, rfl, B1, _, M1, stp, w1, (((s.le stp.bb).set o1).set o2).set o3, rfl, bs, (((cv.app bs).set q1 i).set q2 j).set q3 l, m1⟩
  · cases q⟩
end
section
variable {X : Cx} {pos : Pos}
theorem se_dict0 : SE X (.Dict [] [] pos) (dK (.dict [])) := ⟨fun {S st r st'} e {as S' M} c m => by
  cases e
  exact ⟨fun σ H B w s => of_pe pe_dnewK fun p hp => by
    obtain ⟨w2, st2⟩ := w.new (o := .dK []) hp
    exact ⟨_, SD.dat (.dict []), M, st2, w2, .of (.dct upd_same), Pst.here .dat m⟩⟩⟩
end
/-! ### a + b of lists, the sum will be changed -/
section
variable {X : Cx} {a b : Expr} {pos : Pos} {da db : DX}
def asL (st : Sto) (v : AV) : Option (List PyData) := match rd st v with
  | some (.list ds) => some ds
  | _ => none
theorem asL_some {st : Sto} {v : AV} {ds : List PyData} (h : asL st v = some ds) : rd st v = some (.list ds) := by
  unfold asL at h
  split at h
  · rename_i e; cases h; exact e
  · cases h
def dAddM (a b : DX) : DX := fun S st => (a S st).bind fun p => (b S p.2).bind fun q => (asL q.2 p.1).bind fun xs => (asL q.2 q.1).bind fun ys => if xs.length + ys.length ≤ 1000000 then some (.han q.2.length, q.2 ++ [some (.lst (xs ++ ys))]) else none
theorem se_addM (ha : SE X a da) (hb : SE X b db) : SE X (.BinOp a .Add b pos) (dAddM da db) := ⟨fun {S st r st'} q {as S' M} c m => by
  obtain ⟨⟨v1, s1⟩, e1, q⟩ := bnd q
  obtain ⟨⟨v2, s2⟩, e2, q⟩ := bnd q
  obtain ⟨xs, e3, q⟩ := bnd q
  obtain ⟨ys, e4, q⟩ := bnd q
  split at q
  · rename_i hz
    cases q
    exact JE.nd (je_bin oj_addLM (ha.bind e1 c m fun bs r1 M1 q1 c1 m1 => hb.bind e2 c1 m1 fun cs r2 M2 q2 c2 m2 => ⟨xs, ys, rd_is (asL_some e3) (q1.app cs) m2, rd_is (asL_some e4) q2 m2, hz, fun p nd => (pst_new m2 nd).app.app⟩))
  · cases q⟩
end
end DL
set_option Elab.async false
set_option linter.all false
set_option maxRecDepth 100000
set_option maxHeartbeats 4000000
namespace DL
open PySem PySem.Spec PyProof.Rows L2
/-! ### the law's own def, called at the top: there nothing is being written (guards), so repr of data is known -/
/-- a promise of one call, at A -/
def CallAt (P : Program) (w : World) (K : Frag) (mg : Str → Option Value) (base : Heap) (A : Around) (f : Addr) (fd : FuncData) (ps : List Str) (sp : Sp) : Prop :=
  ∀ (outer : List Env) (s : Shared) (H : Hp) (args : Args) (us : List Value) (vs : List V) (Q : VK) (E : XK), Env0 P w K mg base A outer s H → BindsTo s fd args (ps.zip us) → Vals vs us → sp vs H Q E →
    codeAny (model P w) A (.call (.ref f) args) (CR CX0 outer P w H s Q E) s
theorem callAt_of {P : Program} {w : World} {K : Frag} {mg : Str → Option Value} {base : Heap} {A : Around} {x : Str} {params : Arguments} {body : List Stmt} {scope : Scope} {f : Addr} {fd : FuncData} {N ps : List Str} {k : Nat} {sp : Sp}
    (F : FunD K x x params body scope [] [] f fd) (S : FnScope N ps scope) (hr : Room (k + 1) A) (len : ∀ vs H Q E, sp vs H Q E → vs.length = ps.length)
    (hbody : ∀ (cdv : Value) (outer : List Env) (s : Shared) (H : Hp) (vs : List V) (Q : VK) (E : XK), Room k (A.deeper (envOfC x scope s.heap.objs.size f cdv)) → sp vs H Q E →
      ∃ t, PSs (cxOf CX0 P w K mg base N x scope f cdv A outer s H E) body t ∧ t { nx := fun _ H' => Q .non H', rt := Q } (start N vs) H) :
    CallAt P w K mg base A f fd ps sp := by
  obtain ⟨oc, od, dV, kV, doc, pm, an, cdv, ct, osl, rfl, lk, hcd, _, _⟩ := F.ex
  intro outer s H args us vs Q E e0 hb rv hsp
  have KX : K.In s.heap := e0.mod.kin.keeps fun b o e => (e0.bs b o e).1
  have names : ∀ y ∈ ps.zip us, scope.names.lookup y.1 = some .local ∨ (scope.names.lookup y.1 = some .cell ∧ ((cellsFrom (s.heap.objs.size + 1) scope.names []).lookup y.1).isSome = true) := fun y hy =>
    (S.par y.1 (List.of_mem_zip hy).1).imp id fun q => ⟨q, PySem.W.cellsFrom_some _ _ _ (.inl q)⟩
  refine codeAny_call_function hr.depth (KX _ _ lk) rfl S.co S.gen rfl (PySem.W.codeRec_of KX hcd) (hb _ _ _ _ (wpAny_newFunctionEnv_cells S.kind names fun env he s1 x1 => ?_))
  subst he
  refine ⟨(e0.mod.nolimit.keeps fun b o e => (e0.bs b o e).1).keeps x1.toInCall.keep, codeAny_func ?_⟩
  obtain ⟨t, ht, hq⟩ := hbody cdv outer s H vs Q E (hr.deeper _) hsp
  have I := inv_start (P := P) (w := w) (E := E) (CX := CX0) (qual := x) (f := f) (cd := cdv) S hr.hd e0 (len _ _ _ _ hsp) rv x1
  refine wpAny_mono (ht.run [] s1 (start N vs) H _ I hq) (fun fl s' hs => ?_) fun e s' hs => hs
  cases fl with
  | ret u =>
    obtain ⟨v, σ', H', J, ru, q⟩ := hs
    exact ⟨v, H', J.os, J.bare, J.base, J.hok, ru, q⟩
  | next =>
    obtain ⟨σ', H', J, q⟩ := hs
    exact ⟨.non, H', J.os, J.bare, J.base, J.hok, rfl, q⟩
  | brk => obtain ⟨_, _, _, q⟩ := hs; exact False.elim q
  | cont => obtain ⟨_, _, _, q⟩ := hs; exact False.elim q
/-- what is known where nothing is tracked but the script -/
structure TopH (K : Frag) (h : Heap) (a : Addr) (H : Hp) : Prop where
  only : Only H
  one : ∀ b, H b ≠ none → b = a
  off : H a ≠ none → K.lookup a = none
theorem topH_env {P : Program} {w : World} {K : Frag} {mg mb : Str → Option Value} {a : Addr} {s₁ : Shared} {vs : List Value} {H : Hp} (T : TopH K s₁.heap a H)
    (KX : K.In s₁.heap) (hns : s₁.heap.Ns mainGlobals mg) (hb : s₁.heap.Ns builtinsNs mb) (hbb : ∀ x : Str, x ≠ "__name__" → mb x = bootBuiltins x) (hlim : s₁.heap.NoLimit) (hg : s₁.gens = #[])
    (ha : s₁.heap.get? a = some { cls := .type "list", data := .seq vs.toArray }) (hok : HOk P w H s₁.heap) :
    K.In (hidT s₁.heap H) ∧ (hidT s₁.heap H).Ns mainGlobals mg ∧ Env0 P w K mg (hidT s₁.heap H) callerA [] s₁ H := by
  have isA : ∀ {b : Addr}, b ≠ a → H b = none := fun {b} hb => by
    cases q : H b with
    | none => rfl
    | some u => exact absurd (T.one b (by rw [q]; simp)) hb
  have ns : ∀ {b : Addr} {m : Str → Option Value}, s₁.heap.Ns b m → (hidT s₁.heap H).Ns b m := fun {b m} ⟨o, es, ep, e, d, r⟩ => ⟨o, es, ep, hidT_get e (isA fun z => by
    subst z
    rw [ha] at e
    cases e
    exact absurd (show Data.seq vs.toArray _ = Data.dict es ep from d) (fun z => nomatch z)), d, r⟩
  have kin : K.In (hidT s₁.heap H) := fun b o e => hidT_get (KX b o e) (by
    by_cases z : b = a
    · subst z
      cases q : H b with
      | none => rfl
      | some u => rw [T.off (by rw [q]; simp)] at e; cases e
    · exact isA z)
  exact ⟨kin, ns hns, rfl, ⟨kin, ns hns, ⟨mb, ns hb, hbb⟩, let ⟨mc, h1, h2⟩ := hlim; ⟨mc, ns h1, h2⟩⟩, fun b o e => of_hidT e, Nat.le_of_eq (hidT_size _ _), trivial, fun b hb => absurd (show b ∈ ([] : List Addr) from hb) (by simp), hok, .of_eq hg⟩
theorem top_call {P : Program} {w : World} {K : Frag} {mg mb : Str → Option Value} {fa a : Addr} {fd : FuncData} {x : Str} {sp : Sp} {s₁ : Shared} {vs : List Value} {ns : List Int}
    (KX : K.In s₁.heap) (hns : s₁.heap.Ns mainGlobals mg) (hb : s₁.heap.Ns builtinsNs mb) (hbb : ∀ x : Str, x ≠ "__name__" → mb x = bootBuiltins x) (hlim : s₁.heap.NoLimit) (hg : s₁.gens = #[])
    (ha : s₁.heap.get? a = some { cls := .type "list", data := .seq vs.toArray }) (hi : IntsAre vs ns) (hl : ns.length ≤ sizeLine)
    (F : ∀ base : Heap, K.In base → base.Ns mainGlobals mg → CallAt P w K mg base callerA fa fd [x] sp) (hbind : ∀ (s : Shared) (u : Value), BindsTo s fd ⟨[u], []⟩ [(x, u)])
    (hsp : ∀ H : Hp, SqL K H a (ns.map V.int) → sp [.ref a] H (fun v _ => v = .bl true) fun _ _ _ => False) :
    codeAny (model P w) callerA (.call (.ref fa) ⟨[.ref a], []⟩) (fun r s' => r = .ok (.ret (.bool true)) ∧ OldK s₁.heap s'.heap ∧ s'.os = s₁.os ∧ AllBare s'.gens) s₁ := by
  have rv := vals_ints hi
  have run : ∀ H : Hp, TopH K s₁.heap a H → SqL K H a (ns.map V.int) → HOk P w H s₁.heap →
      codeAny (model P w) callerA (.call (.ref fa) ⟨[.ref a], []⟩) (fun r s' => r = .ok (.ret (.bool true)) ∧ OldK s₁.heap s'.heap ∧ s'.os = s₁.os ∧ AllBare s'.gens) s₁ := fun H T hS hok => by
    obtain ⟨k1, k2, e0⟩ := topH_env T KX hns hb hbb hlim hg ha hok
    refine codeAny_mono (F _ k1 k2 [] s₁ H ⟨[.ref a], []⟩ [.ref a] [.ref a] _ _ e0 (hbind s₁ (.ref a)) (.cons rfl .nil) (hsp H hS)) fun r s' h => ?_
    cases r with
    | error e => exact (show False from h).elim
    | ok fl =>
      cases fl with
      | ret u =>
        obtain ⟨v, H', os, bare, un, hok', ru, q⟩ := h
        cases (show v = .bl true from q)
        cases (show u = Value.bool true from ru)
        refine ⟨rfl, OldK.of_keep fun b o e => ?_, os, bare⟩
        rcases T.only b with z | ⟨ob, xs, z⟩
        · exact un.keep b o e z (by intro z; exact absurd (show b ∈ ([] : List Addr) from z) (by simp)) (by simp)
        · obtain ⟨e1, _⟩ := hok b _ z
          obtain ⟨e2, _⟩ := hok' b _ (un.frzs b ob _ z)
          rw [e] at e1
          cases e1
          exact e2
      | _ => exact False.elim h
  cases hk : K.lookup a with
  | some o =>
    have e := KX a o hk
    rw [ha] at e
    cases e
    exact run (fun _ => none) ⟨fun _ => .inl rfl, fun b z => absurd rfl z, fun z => absurd rfl z⟩ (.inr ⟨_, vs.toArray, _, hk, rfl, rfl, rfl, by rw [List.size_toArray, hi.length]; exact hl, by simpa using rv⟩) fun b u z => nomatch (show (none : Option HO) = some u from z)
  | none =>
    have at_ : ∀ {b : Addr} {u : HO}, (if b = a then some (HO.frz { cls := .type "list", data := .seq vs.toArray } (.lst (ns.map V.int))) else none) = some u → b = a ∧ u = .frz { cls := .type "list", data := .seq vs.toArray } (.lst (ns.map V.int)) := fun {b u} z => by
      by_cases q : b = a
      · rw [if_pos q] at z; cases z; exact ⟨q, rfl⟩
      · rw [if_neg q] at z; cases z
    refine run (fun b => if b = a then some (.frz { cls := .type "list", data := .seq vs.toArray } (.lst (ns.map V.int))) else none) ⟨fun b => ?_, fun b z => ?_, fun _ => hk⟩ (.inl (.inr ⟨{ cls := .type "list", data := .seq vs.toArray }, if_pos rfl⟩)) fun b u z => ?_
    · by_cases q : b = a
      · exact .inr ⟨_, _, if_pos q⟩
      · exact .inl (if_neg q)
    · by_cases q : b = a
      · exact q
      · exact absurd (if_neg q) z
    · obtain ⟨rfl, rfl⟩ := at_ z
      exact ⟨ha, by rw [List.length_map]; exact hl, vs, _, rv, ha⟩
/-- the goal that the head leaves, from what the law's body does at the top -/
theorem walk_top {l : PySem.W.OpenLaw} {n : Nat} {q : Program} {loose : List Str} {XP : (Str → Option Value) → Heap → Prop} {YP : World → Heap → Prop} {d : DefRec} {x : Str}
    (hn : l.most = some n) (hn2 : n ≤ sizeLine) (hdf : d.params.defaults = [])
    (F : ∀ (w : World) (mg : Str → Option Value) (fa : Addr) (h : Heap), YP w h → h.Ns mainGlobals mg → mg d.name = some (.ref fa) →
      ∃ (K : Frag) (fd : FuncData) (sp : Sp), K.In h ∧ (∀ (s : Shared) (u : Value), BindsTo s fd ⟨[u], []⟩ [(x, u)]) ∧
        (∀ (H : Hp) (a : Addr) (ns : List Int), ns.length ≤ n → SqL K H a (ns.map V.int) → sp [.ref a] H (fun v _ => v = .bl true) fun _ _ _ => False) ∧
        ∀ base : Heap, K.In base → base.Ns mainGlobals mg → CallAt l.prog w K mg base callerA fa fd [x] sp) :
    PySem.W.WalkO q loose XP YP l.row.toRowW d [] (fun f vs => PySem.call f vs) := by
  refine Att.attach_call hn hdf fun w s₀ s₁ mg mb fa o pm cd doc a vs ns G Y ho hd hcd hmg hobj hints hlen hg => ?_
  obtain ⟨K, fd, sp, KX, hb, hsp, hF⟩ := F w mg fa _ Y G.T.g hmg
  exact top_call KX G.T.g G.T.b G.T.builtins G.T.nolimit hg hobj hints (Nat.le_trans hlen hn2) hF hb fun H hS => hsp H a ns hlen hS
/-! ### the law as a function: it tells True of every script -/
structure GoodL (X : Cx) : Prop extends GoodS X where
  gd : X.A.guards = some []
/-- of every script of at most n numbers -/
def spTop (K : Frag) (n : Nat) : Sp := fun vs H Q _ => ∃ (a : Addr) (ns : List Int), vs = [.ref a] ∧ ns.length ≤ n ∧ SqL K H a (ns.map V.int) ∧ ∀ H', Q (.bl true) H'
theorem top_F {P : Program} {w : World} {K : Frag} {mg : Str → Option Value} {base : Heap} {x : Str} {params : Arguments} {body : List Stmt} {scope : Scope} {f : Addr} {fd : FuncData} {N : List Str} {p : Str} {k n : Nat} {d : DSt}
    (F : FunD K x x params body scope [] [] f fd) (S : FnScope N [p] scope) (hr : Room (k + 1) callerA) (hN : N.Nodup) (sm : SysM K)
    (h : ∀ (cdv : Value) (outer : List Env) (s : Shared) (H : Hp) (E : XK), GoodL (cxD P w K mg base N x scope f cdv callerA outer s H E) → Room k (cxD P w K mg base N x scope f cdv callerA outer s H E).A → SB (cxD P w K mg base N x scope f cdv callerA outer s H E) body d)
    (law : ∀ ns : List Int, ns.length ≤ n → ∃ st, fnOf 1 N.length d [.dat (.list (ns.map .int))] [] = some (.bl true, st)) :
    CallAt P w K mg base callerA f fd [p] (spTop K n) := by
  refine callAt_of F S hr (fun vs H Q E ⟨a, ns, e, _⟩ => by rw [e]; rfl) fun cdv outer s H vs Q E hrk ⟨a, ns, hv, hl, hS, hQ⟩ => ⟨_, PSs.nox pss_w, ?_⟩
  subst hv
  have hh := h cdv outer s H E ⟨⟨⟨rfl, hN, sm, hrk.units⟩, PassesOwn.never⟩, rfl⟩ hrk
  obtain ⟨st, e⟩ := law ns hl
  unfold fnOf at e
  rw [if_pos (show [AV.dat (PyData.list (ns.map PyData.int))].length = 1 from rfl)] at e
  obtain ⟨⟨fl, S1, st1⟩, e1, e⟩ := bnd e
  have wd : Wd K H H [] := ⟨Same.refl _, fun p hp => absurd hp (by simp), List.nodup_nil⟩
  have ok : SlotsA K H [.dat (.list (ns.map .int))] [.ref a] := .cons (.of (.lst hS (RpAll.ints ns))) .nil
  have cm : CM [] [] [] := ⟨rfl, fun p => ⟨fun z => absurd z (by simp), fun ⟨k, e, _⟩ => by simp at e⟩, List.nodup_nil, fun j k a m m' e => by simp at e⟩
  have un : ∀ n, CvS ([] : List Addr) (List.replicate n .un) (List.replicate n .un) := fun n => by
    induction n with
    | zero => exact .nil
    | succ n ih => exact .cons .un ih
  have cs : CvS ([] : List Addr) ([AV.dat (.list (ns.map .int))] ++ List.replicate (N.length - 1) .un) ([SD.dat (.list (ns.map .int))] ++ List.replicate (N.length - 1) .un) := .cons .dat (un _)
  refine TBW.mono ((hh.run e1 cs cm).run (L2.start N [.ref a]) H H wd (slots_start ok)) ?_ ?_ ?_ ?_
  · rintro σ' H' ⟨B', S', M', a, b, c', rfl, q⟩
    have e : outF 0 .non st1 = some (.bl true, st) := e
    cases e
  · rintro u H' ⟨B', r, M', a, b, ok', v0, rfl, bs, q1, q2⟩
    have e : outF 0 v0 st1 = some (.bl true, st) := e
    have hv : v0 = .bl true := by
      cases v0 with
      | un => cases e
      | dat d => cases e; rfl
      | kv d => cases e
      | han k =>
        unfold outF at e
        dsimp only at e
        split at e
        · cases e
        · split at e <;> cases e
    subst hv
    cases q1
    cases ok'.dat.inv_bl
    exact hQ H'
  · rintro σ' H' ⟨B', S', M', a, b, c', rfl, q⟩
    cases e
  · rintro σ' H' ⟨B', S', M', a, b, c', rfl, q⟩
    cases e
/-! ### repr of data -/
section
variable {X : Cx}
def canShow (d : PyData) : Bool := d.showable && decide (d.depth ≤ 60) && decide (d.shown.length ≤ 10000000)
def rReprD (K : Frag) : List V → Hp → VK → Prop := fun xs H Q => ∃ v d, xs = [v] ∧ Rp K H v d ∧ canShow d = true ∧ Q (.str d.shown) H
theorem cr_reprD (sm : SysM X.K) (hu : X.A.units + 64 < cLine) (hg : X.A.guards = some []) : CallR X (.builtin "repr") (rReprD X.K) := by
  intro pins s σ H xs us Q I r h
  obtain ⟨v, d, rfl, rd, hs, q⟩ := h
  obtain ⟨u, rfl, ru⟩ := vals1 r
  have hs := Bool.and_eq_true_iff.mp hs
  have h1 := (Bool.and_eq_true_iff.mp hs.1).1
  have h2 : d.depth ≤ 60 := of_decide_eq_true (Bool.and_eq_true_iff.mp hs.1).2
  have h3 : d.shown.length ≤ 10000000 := of_decide_eq_true hs.2
  have hz : d.shown.length ≤ sizeLine := by rw [sizeLine_eq]; omega
  obtain ⟨as, rds, hsm⟩ := Rp.reads I sm d v u rd ru
  cases rd with
  | non => cases ru; exact PySem.P.repr_of_none ⟨.str _, H, I.tok _, ⟨_, rfl⟩, q⟩
  | bl b => cases ru; exact PySem.P.repr_of_bool ⟨.str _, H, I.tok _, ⟨_, rfl⟩, q⟩
  | int i =>
    obtain ⟨t, rfl⟩ := ru
    exact PySem.P.repr_of_int (by simpa [PyData.showable] using h1) ⟨.str _, H, I.tok _, ⟨_, rfl⟩, q⟩
  | str x =>
    obtain ⟨t, rfl⟩ := ru
    exact PySem.P.repr_of_str ⟨.str _, H, I.tok _, ⟨_, rfl⟩, q⟩ hz
  | lst a b => cases ru; exact repr_of_reads' rds h1 (fun _ => hsm) hg (by omega) (fun _ _ e => e) (fun h' u tk hk => ⟨.str _, H, I.kept hk, ⟨_, rfl⟩, q⟩) hz
  | tup a b => cases ru; exact repr_of_reads' rds h1 (fun _ => hsm) hg (by omega) (fun _ _ e => e) (fun h' u tk hk => ⟨.str _, H, I.kept hk, ⟨_, rfl⟩, q⟩) hz
  | dct a => cases ru; exact repr_of_reads' rds h1 (fun _ => hsm) hg (by omega) (fun _ _ e => e) (fun h' u tk hk => ⟨.str _, H, I.kept hk, ⟨_, rfl⟩, q⟩) hz
abbrev cReprD : CDt := fun rs M R => ∃ r d, rs = [r] ∧ IsD M r d ∧ canShow d = true ∧ R (.dat (.str d.shown)) M
theorem cj_reprD (sm : SysM X.K) (hu : X.A.units + 64 < cLine) (hg : X.A.guards = some []) : CallJ X (.builtin "repr") cReprD := ⟨_, cr_reprD sm hu hg, fun B H M rs R vs Q w oa h hq => by
  obtain ⟨r, d, rfl, h1, h2, h⟩ := h
  obtain ⟨v, rfl, ok⟩ := slots1 oa
  exact ⟨v, d, rfl, h1.rp w ok, h2, hq _ _ (.here w (.of (.str _)) h)⟩⟩
def gRepr : List BA → Option PyData
  | [.d d] => if canShow d then some (.str d.shown) else none
  | _ => none
theorem cf_repr (sm : SysM X.K) (hu : X.A.units + 64 < cLine) (hg : X.A.guards = some []) : CF X (.builtin "repr") gRepr := ⟨fun ys z h => by
  unfold gRepr at h
  split at h
  · split at h
    · cases h
      exact ⟨_, cj_reprD sm hu hg, fun M rs R hp q => by
        obtain ⟨r, rfl, hr⟩ := pair1 hp
        exact ⟨r, _, rfl, hr.dat, by assumption, q⟩⟩
    · cases h
  · cases h⟩
end
end DL
set_option Elab.async false
set_option linter.all false
set_option maxRecDepth 100000
set_option maxHeartbeats 4000000
namespace DL
open PySem PySem.Spec PyProof.Rows L2
/-! ### the head's facts: constants of the module, dicts with text keys, sys.modules -/
mutual
def datB (K : Frag) : Value → PyData → Bool
  | u, .none => (match u with
    | .none => true
    | _ => false)
  | u, .bool b => (match u with
    | .bool c => b == c
    | _ => false)
  | u, .int i => (match u with
    | .int j _ => decide (i = j)
    | _ => false)
  | u, .str x => (match u with
    | .str y _ => decide (x = y)
    | _ => false)
  | u, .tuple ds => (match u with
    | .ref a => (match K.lookup a with
      | some ⟨.type c, _, .seq its _, _⟩ => decide (c = "tuple") && (decide (its.size ≤ sizeLine) && datAllB K its.toList ds)
      | _ => false)
    | _ => false)
  | u, .list ds => (match u with
    | .ref a => (match K.lookup a with
      | some ⟨.type c, none, .seq its _, _⟩ => decide (c = "list") && (decide (its.size ≤ sizeLine) && datAllB K its.toList ds)
      | _ => false)
    | _ => false)
  | _, .dict _ => false
def datAllB (K : Frag) : List Value → List PyData → Bool
  | us, [] => us.isEmpty
  | us, d :: ds => (match us with
    | u :: r => datB K u d && datAllB K r ds
    | [] => false)
end
mutual
theorem datB_ok {K : Frag} : ∀ (d : PyData) (u : Value), datB K u d = true → ∃ v, RelV v u ∧ ∀ B, Rp K B v d
  | .none, u, h => by
    cases u <;> simp [datB] at h
    exact ⟨.non, rfl, fun _ => .non⟩
  | .bool b, u, h => by
    cases u <;> simp [datB] at h
    subst h
    exact ⟨.bl _, rfl, fun _ => .bl _⟩
  | .int b, u, h => by
    cases u <;> simp [datB] at h
    subst h
    exact ⟨.int _, ⟨_, rfl⟩, fun _ => .int _⟩
  | .str b, u, h => by
    cases u <;> simp [datB] at h
    subst h
    exact ⟨.str _, ⟨_, rfl⟩, fun _ => .str _⟩
  | .tuple ds, u, h => by
    cases u with
    | ref a =>
      have h : (match K.lookup a with
        | some ⟨.type c, _, .seq its _, _⟩ => decide (c = "tuple") && (decide (its.size ≤ sizeLine) && datAllB K its.toList ds)
        | _ => false) = true := by simpa only [datB] using h
      cases q : K.lookup a with
      | none => rw [q] at h; cases h
      | some o =>
        obtain ⟨oc, od, dt, osl⟩ := o
        rw [q] at h
        cases oc with
        | type c =>
          cases dt with
          | seq its n =>
            obtain ⟨h1, h2⟩ := He.ba (show (decide (c = "tuple") && (decide (its.size ≤ sizeLine) && datAllB K its.toList ds)) = true from h)
            obtain ⟨h3, h4⟩ := He.ba h2
            obtain ⟨xs, r, hx⟩ := datAllB_ok ds its.toList h4
            exact ⟨.ref a, rfl, fun B => .tup (.inr ⟨_, its, n, q, congrArg Value.type (of_decide_eq_true h1), rfl, of_decide_eq_true h3, r⟩) (hx B)⟩
          | _ => cases h
        | _ => cases dt <;> cases h
    | _ => simp [datB] at h
  | .list ds, u, h => by
    cases u with
    | ref a =>
      have h : (match K.lookup a with
        | some ⟨.type c, none, .seq its _, _⟩ => decide (c = "list") && (decide (its.size ≤ sizeLine) && datAllB K its.toList ds)
        | _ => false) = true := by simpa only [datB] using h
      cases q : K.lookup a with
      | none => rw [q] at h; cases h
      | some o =>
        obtain ⟨oc, od, dt, osl⟩ := o
        rw [q] at h
        cases oc with
        | type c =>
          cases od with
          | none =>
            cases dt with
            | seq its n =>
              obtain ⟨h1, h2⟩ := He.ba (show (decide (c = "list") && (decide (its.size ≤ sizeLine) && datAllB K its.toList ds)) = true from h)
              obtain ⟨h3, h4⟩ := He.ba h2
              obtain ⟨xs, r, hx⟩ := datAllB_ok ds its.toList h4
              exact ⟨.ref a, rfl, fun B => .lst (.inr ⟨_, its, n, q, congrArg Value.type (of_decide_eq_true h1), rfl, rfl, of_decide_eq_true h3, r⟩) (hx B)⟩
            | _ => cases h
          | some b => cases dt <;> cases h
        | _ => cases od <;> cases dt <;> cases h
    | _ => simp [datB] at h
  | .dict _, _, h => by simp [datB] at h
theorem datAllB_ok {K : Frag} : ∀ (ds : List PyData) (us : List Value), datAllB K us ds = true → ∃ vs, Vals vs us ∧ ∀ B, RpAll K B vs ds
  | [], us, h => by
    cases us with
    | nil => exact ⟨[], .nil, fun _ => .nil⟩
    | cons _ _ => simp [datAllB] at h
  | d :: ds, us, h => by
    cases us with
    | nil => simp [datAllB] at h
    | cons u r =>
      have h : (datB K u d && datAllB K r ds) = true := by simpa only [datAllB] using h
      obtain ⟨h1, h2⟩ := He.ba h
      obtain ⟨v, r1, q1⟩ := datB_ok d u h1
      obtain ⟨vs, r2, q2⟩ := datAllB_ok ds r h2
      exact ⟨v :: vs, .cons r1 r2, fun B => .cons (q1 B) (q2 B)⟩
end
/-- the module's name x stands for d -/
def conB (K : Frag) (p : Str × PyData) : Bool := match PySem.W.nsIn K mainGlobals p.1 with
  | some (some u) => datB K u p.2
  | _ => false
theorem conB_ok {K : Frag} {h : Heap} {mg : Str → Option Value} (X : K.In h) (G : h.Ns mainGlobals mg) {x : Str} {d : PyData} (c : conB K (x, d) = true) : GlobD K mg x (.dat d) := by
  unfold conB at c
  cases q : PySem.W.nsIn K mainGlobals x with
  | none => simp [q] at c
  | some r => cases r with
    | none => simp [q] at c
    | some u =>
      obtain ⟨v, r, hv⟩ := datB_ok d u (by simpa [q] using c)
      exact ⟨v, u, PySem.W.mg_of X G q, r, fun B => .of (hv B)⟩
def entB (K : Frag) : List DictEntry → List (Str × PyData) → Bool
  | [], [] => true
  | e :: es, p :: ps => (match e.key with
    | .str x _ => decide (x = p.1)
    | _ => false) && (datB K e.val p.2 && entB K es ps)
  | _, _ => false
/-- the module's name x stands for a dict of these -/
def ktabB (K : Frag) (t : Str × List (Str × PyData)) : Bool := match PySem.W.nsIn K mainGlobals t.1 with
  | some (some (.ref d)) => decide (d = He.ga K t.1) && (match K.lookup d with
    | some ⟨_, _, .dict es _, _⟩ => entB K es.toList t.2
    | _ => false)
  | _ => false
theorem entB_find {K : Frag} (z : Str) : ∀ {es : List DictEntry} {ps : List (Str × PyData)}, entB K es ps = true → (es.any (·.refKey) = false) ∧
    ((es.find? (·.key.isStr z) = none ∧ tabGet ps z = none) ∨ ∃ e y, es.find? (·.key.isStr z) = some e ∧ tabGet ps z = some y ∧ datB K e.val y = true)
  | [], [], _ => ⟨rfl, .inl ⟨rfl, rfl⟩⟩
  | [], _ :: _, h => by simp [entB] at h
  | _ :: _, [], h => by simp [entB] at h
  | e :: es, p :: ps, h => by
    obtain ⟨h1, h2⟩ := He.ba (show ((match e.key with
      | .str x _ => decide (x = p.1)
      | _ => false) && (datB K e.val p.2 && entB K es ps)) = true from h)
    obtain ⟨h3, h4⟩ := He.ba h2
    obtain ⟨i1, i2⟩ := entB_find z h4
    obtain ⟨hash, key, val⟩ := e
    cases key with
    | str x t =>
      have hx : x = p.1 := of_decide_eq_true h1
      subst hx
      have r0 : (DictEntry.refKey ⟨hash, .str p.1 t, val⟩) = false := rfl
      refine ⟨by rw [List.any_cons, r0, i1]; rfl, ?_⟩
      by_cases c : p.1 = z
      · refine .inr ⟨⟨hash, .str p.1 t, val⟩, p.2, ?_, by simp [tabGet, List.find?_cons, c], h3⟩
        rw [List.find?_cons]
        simp [Value.isStr, c]
      · have e1 : (((⟨hash, .str p.1 t, val⟩ : DictEntry) :: es).find? (·.key.isStr z)) = es.find? (·.key.isStr z) := by
          rw [List.find?_cons]
          have : (Value.str p.1 t).isStr z = false := by simp [Value.isStr, c]
          simp [this]
        have e2 : tabGet (p :: ps) z = tabGet ps z := by simp [tabGet, List.find?_cons, c]
        rw [e1, e2]
        exact i2
    | _ => cases h1
theorem ktabB_ok {K : Frag} {w : World} {h : Heap} {mg : Str → Option Value} (X : K.In h) (G : h.Ns mainGlobals mg) {x : Str} {tab : List (Str × PyData)} (c : ktabB K (x, tab) = true) (D : ∃ es n, KDict K w (He.ga K x) es n) : KTab K w mg x tab := by
  obtain ⟨es, n, D⟩ := D
  unfold ktabB at c
  cases q : PySem.W.nsIn K mainGlobals x with
  | none => simp [q] at c
  | some r => cases r with
    | none => simp [q] at c
    | some u => cases u with
      | ref d =>
        have c : (decide (d = He.ga K x) && (match K.lookup d with
          | some ⟨_, _, .dict es _, _⟩ => entB K es.toList tab
          | _ => false)) = true := by simpa only [q] using c
        obtain ⟨c1, c2⟩ := He.ba c
        have ed : d = He.ga K x := of_decide_eq_true c1
        subst ed
        rw [D.at_] at c2
        have c2 : entB K es.toList tab = true := c2
        refine ⟨_, es, n, PySem.W.mg_of X G q, D, fun z => ?_⟩
        obtain ⟨a1, a2⟩ := entB_find z c2
        have hn : PySem.W.nsIn K (He.ga K x) z = (match es.toList.find? (·.key.isStr z) with
          | some e => some (some e.val)
          | none => if es.toList.any (·.refKey) then none else some none) := by
          unfold PySem.W.nsIn
          rw [D.at_]
          rfl
        rcases a2 with ⟨b1, b2⟩ | ⟨e, y, b1, b2, b3⟩
        · refine ⟨fun _ => by rw [hn, b1, a1]; rfl, fun y hy => ?_⟩
          rw [b2] at hy; cases hy
        · refine ⟨fun hy => ?_, fun y' hy => ?_⟩
          · rw [b2] at hy; cases hy
          · rw [b2] at hy
            cases hy
            obtain ⟨v, r, hv⟩ := datB_ok y e.val b3
            exact ⟨e.val, v, by rw [hn, b1], r, hv⟩
      | _ => simp [q] at c
def sysB (K : Frag) : Bool := match K.lookup sysModules with
  | some o => (match o.cls with
    | .type c => decide (c = "dict")
    | _ => false)
  | none => false
theorem sysB_ok {K : Frag} (h : sysB K = true) : SysM K := by
  unfold sysB at h
  cases q : K.lookup sysModules with
  | none => rw [q] at h; cases h
  | some o =>
    rw [q] at h
    refine ⟨o, q, ?_⟩
    cases c : o.cls with
    | type n =>
      have h : (match o.cls with
        | .type c => decide (c = "dict")
        | _ => false) = true := h
      rw [c] at h
      rw [show n = "dict" from of_decide_eq_true h]
    | _ =>
      have h : (match o.cls with
        | .type c => decide (c = "dict")
        | _ => false) = true := h
      rw [c] at h
      cases h
/-! ### the Hook -/
abbrev AlM : Type := He.AlT × Bool
abbrev Cons : Type := List (Str × PyData)
abbrev Tabs : Type := List (Str × List (Str × PyData))
def exM (cs : Cons) (ts : Tabs) (K : Frag) : Bool := sysB K && (cs.all (conB K) && ts.all (ktabB K))
def tabsM (ts : Tabs) : List He.Tab := ts.map fun t => ((fun K => He.ga K t.1), t.2.map (·.1))
def frM (g : Addr → Option Obj) (n : Nat) : Frag := He.frG g (He.asD g n ++ [sysModules])
def obsM (n : Nat) (fa : List He.Fa) (fn : List He.DefD) (cs : Cons) (ts : Tabs) (g : Addr → Option Obj) : AlM := (He.obsT fa fn (tabsM ts) (frM g n), exM cs ts (frM g n))
def hookM (n : Nat) (fa : List He.Fa) (fn : List He.DefD) (cs : Cons) (ts : Tabs) : PySem.W.Hook where
  α := AlM
  obs := fun s => obsM n fa fn cs ts s.heap.get?
  val := fun w => (He.valT fn (tabsM ts) w, true)
  says := fun w h => ∃ K : Frag, K.In h ∧ He.SaysT fa fn (tabsM ts) w K ∧ exM cs ts K = true
  of := fun _ _ e => ⟨_, He.frG_in, congrArg (fun z : AlM => z.1) e, congrArg (fun z : AlM => z.2) e⟩
  keeps := fun _ _ _ ⟨K, hK, c⟩ k => ⟨K, PySem.W.Frag.In.keeps hK k, c⟩
theorem obsM_eq {n : Nat} {fa : List He.Fa} {fn : List He.DefD} {cs : Cons} {ts : Tabs} {g : Addr → Option Obj} {s : Shared} (h : ∀ a, g a = s.heap.get? a) : obsM n fa fn cs ts g = (hookM n fa fn cs ts).obs s := by
  have e : g = s.heap.get? := funext h
  rw [e] <;> rfl
/-- what the head tells, by name -/
structure HeadOk (fa : List He.Fa) (fn : List He.DefD) (cs : Cons) (ts : Tabs) (w : World) (K : Frag) (mg : Str → Option Value) : Prop where
  sys : SysM K
  free : ∀ x, .free x ∈ fa → mg x = none
  con : ∀ x d, (x, d) ∈ cs → GlobD K mg x (.dat d)
  tab : ∀ x t, (x, t) ∈ ts → KTab K w mg x t
  def_ : ∀ d ∈ fn, d.at_.2 = none → .glo d.at_.1 ∈ fa → ∃ f fd, mg d.at_.1 = some (.ref f) ∧ FunD K d.name d.qual d.params d.body d.scope (d.dvs K) (d.kws K) f fd
theorem headOk {fa : List He.Fa} {fn : List He.DefD} {cs : Cons} {ts : Tabs} {w : World} {K : Frag} {h : Heap} {mg : Str → Option Value} (X : K.In h) (G : h.Ns mainGlobals mg) (c : He.SaysT fa fn (tabsM ts) w K) (e : exM cs ts K = true) : HeadOk fa fn cs ts w K mg := by
  obtain ⟨e1, e2⟩ := He.ba e
  obtain ⟨e3, e4⟩ := He.ba e2
  refine ⟨sysB_ok e1, fun x hx => He.free_ok X G (He.SaysD.facts c.d hx), fun x d hx => conB_ok X G (List.all_eq_true.mp e3 _ hx), fun x t hx => ?_, fun d hd hn hg => ?_⟩
  · obtain ⟨i, hi, q⟩ := List.mem_iff_getElem.mp hx
    have q2 : ts[i]? = some (x, t) := by rw [List.getElem?_eq_getElem hi, q]
    exact ktabB_ok X G (List.all_eq_true.mp e4 _ hx) (c.tab i (t := ((fun K => He.ga K x), t.map (·.1))) (by simp [tabsM, q2]))
  · obtain ⟨fd, F⟩ := He.SaysD.defs c.d hd
    refine ⟨_, fd, He.glo_ok X G (He.SaysD.facts c.d hg), ?_⟩
    have : He.fAd K d.at_ = He.ga K d.at_.1 := by
      have e : d.at_ = (d.at_.1, none) := Prod.ext rfl hn
      rw [e]
      rfl
    rw [← this]
    exact F
end DL
set_option Elab.async false
set_option linter.all false
set_option maxRecDepth 100000
set_option maxHeartbeats 4000000
/-! Rules for reckoning with what a text computes. -/
namespace DL
open PySem
def Ev {α : Type} (o : Option α) (Q : α → Prop) : Prop := ∃ a, o = some a ∧ Q a
section
variable {α β : Type} {o : Option α} {Q R : α → Prop}
@[simp] theorem Ev_some {a : α} : Ev (some a) Q ↔ Q a := ⟨fun ⟨_, e, h⟩ => by cases e; exact h, fun h => ⟨_, rfl, h⟩⟩
@[simp] theorem Ev_none : Ev (none : Option α) Q ↔ False := ⟨fun ⟨_, e, _⟩ => (nomatch e), False.elim⟩
@[simp] theorem Ev_bind {f : α → Option β} {Q : β → Prop} : Ev (o.bind f) Q ↔ Ev o fun a => Ev (f a) Q := by
  cases o <;> simp
@[simp] theorem Ev_map {f : α → β} {Q : β → Prop} : Ev (o.map f) Q ↔ Ev o fun a => Q (f a) := by
  cases o <;> simp
theorem Ev.mono (h : Ev o Q) (q : ∀ a, Q a → R a) : Ev o R := by
  obtain ⟨a, e, h⟩ := h; exact ⟨a, e, q a h⟩
theorem Ev.of_eq {a : α} (e : o = some a) (h : Q a) : Ev o Q := ⟨a, e, h⟩
theorem Ev_eq {a : α} : Ev o (fun x => x = a) ↔ o = some a := ⟨fun ⟨_, e, h⟩ => by rw [e, h], fun h => ⟨_, h, rfl⟩⟩
theorem Ev_ite {c : Prop} [Decidable c] {a b : Option α} : Ev (if c then a else b) Q ↔ if c then Ev a Q else Ev b Q := by
  split <;> exact Iff.rfl
end
/-- bind and map of which the kernel is handed proofs, not reckonings -/
def bd {α β : Type} (o : Option α) (f : α → Option β) : Option β := o.bind f
def mp {α β : Type} (f : α → β) (o : Option α) : Option β := o.map f
theorem nr {α : Sort _} {a b : α} (h : a = b) : a = b := h
@[simp] theorem bd_some {α β : Type} {a : α} {f : α → Option β} : bd (some a) f = f a := nr rfl
@[simp] theorem bd_none {α β : Type} {f : α → Option β} : bd none f = none := nr rfl
@[simp] theorem mp_some {α β : Type} {a : α} {f : α → β} : mp f (some a) = some (f a) := nr rfl
@[simp] theorem mp_none {α β : Type} {f : α → β} : mp f none = none := nr rfl
@[simp] theorem Ev_bd {α β : Type} {o : Option α} {f : α → Option β} {Q : β → Prop} : Ev (bd o f) Q ↔ Ev o fun a => Ev (f a) Q := Ev_bind
@[simp] theorem Ev_mp {α β : Type} {o : Option α} {f : α → β} {Q : β → Prop} : Ev (mp f o) Q ↔ Ev o fun a => Q (f a) := Ev_map
def seqK (b : DSt) (r : Fl × List AV × Sto) : Option (Fl × List AV × Sto) := match r.1 with
  | .nx => b r.2.1 r.2.2
  | _ => some r
@[simp] theorem seqK_nx {b : DSt} {S : List AV} {st : Sto} : seqK b (.nx, S, st) = b S st := nr rfl
@[simp] theorem seqK_rt {b : DSt} {v : AV} {q : List AV × Sto} : seqK b (.rt v, q) = some (.rt v, q) := nr rfl
@[simp] theorem seqK_bk {b : DSt} {q : List AV × Sto} : seqK b (.bk, q) = some (.bk, q) := nr rfl
@[simp] theorem seqK_ct {b : DSt} {q : List AV × Sto} : seqK b (.ct, q) = some (.ct, q) := nr rfl
def outK (n : Nat) (r : Fl × List AV × Sto) : Option (AV × Sto) := match r.1 with
  | .rt v => outF n v r.2.2
  | .nx => outF n .non r.2.2
  | _ => none
@[simp] theorem outK_rt {n : Nat} {v : AV} {S : List AV} {st : Sto} : outK n (.rt v, S, st) = outF n v st := nr rfl
@[simp] theorem outK_nx {n : Nat} {S : List AV} {st : Sto} : outK n (.nx, S, st) = outF n .non st := nr rfl
section
variable {S : List AV} {st : Sto}
@[simp] theorem aNil_ap : aNil S st = some ([], st) := nr rfl
@[simp] theorem aCons_ap {d : DX} {r : DAs} : aCons d r S st = bd (d S st) fun p => mp (fun q => (p.1 :: q.1, q.2)) (r S p.2) := nr rfl
@[simp] theorem dK_ap {d : PyData} : dK d S st = some (.dat d, st) := nr rfl
@[simp] theorem dKv_ap {d : L2.V} : dKv d S st = some (.kv d, st) := nr rfl
@[simp] theorem dVar_ap {i : Nat} : dVar i S st = match S[i]? with
  | some .un => none
  | some v => some (v, st)
  | none => none := nr rfl
@[simp] theorem lift2_ap {g : PyData → PyData → Option PyData} {a b : AV} : lift2 g a b st = bd (rd st a) fun x => bd (rd st b) fun y => mp (fun z => (.dat z, st)) (g x y) := nr rfl
@[simp] theorem dBin_ap {g : AV → AV → Sto → Option (AV × Sto)} {a b : DX} : dBin g a b S st = bd (a S st) fun p => bd (b S p.2) fun q => g p.1 q.1 q.2 := nr rfl
@[simp] theorem rd_dat {d : PyData} : rd st (.dat d) = some d := nr rfl
@[simp] theorem asB_bl {b : Bool} : asB (.dat (.bool b)) = some b := nr rfl
@[simp] theorem asI_int {b : Int} : asI (.dat (.int b)) = some b := nr rfl
@[simp] theorem tOf_ap {d : DX} : tOf d S st = bd (d S st) fun p => mp (fun k => (k, p.2)) (asB p.1) := nr rfl
@[simp] theorem dChain_ap {g g' : PyData → PyData → Option PyData} {a b c : DX} : dChain g g' a b c S st = bd (a S st) fun p => bd (b S p.2) fun q => bd (lift2 g p.1 q.1 q.2) fun r => match r.1 with
  | .dat (.bool true) => bd (c S r.2) fun t => lift2 g' q.1 t.1 t.2
  | .dat (.bool false) => some (.bl false, r.2)
  | _ => none := nr rfl
@[simp] theorem tNot_ap {a : DTt} : tNot a S st = mp (fun p => (!p.1, p.2)) (a S st) := nr rfl
@[simp] theorem tAnd_ap {a b : DTt} : tAnd a b S st = bd (a S st) fun p => if p.1 = true then b S p.2 else some (false, p.2) := by
  unfold tAnd bd; congr 1; funext p; cases p.1 <;> rfl
@[simp] theorem tOr_ap {a b : DTt} : tOr a b S st = bd (a S st) fun p => if p.1 = true then some (true, p.2) else b S p.2 := by
  unfold tOr bd; congr 1; funext p; cases p.1 <;> rfl
@[simp] theorem dAnd_ap {a b : DX} : dAnd a b S st = bd (tOf a S st) fun p => if p.1 = true then b S p.2 else some (.bl false, p.2) := by
  unfold dAnd bd; congr 1; funext p; cases p.1 <;> rfl
@[simp] theorem dOr_ap {a b : DX} : dOr a b S st = bd (tOf a S st) fun p => if p.1 = true then some (.bl true, p.2) else b S p.2 := by
  unfold dOr bd; congr 1; funext p; cases p.1 <;> rfl
@[simp] theorem dIf_ap {t : DTt} {a b : DX} : dIf t a b S st = bd (t S st) fun p => if p.1 = true then a S p.2 else b S p.2 := by
  unfold dIf bd; congr 1; funext p; cases p.1 <;> rfl
@[simp] theorem dNot_ap {a : DX} : dNot a S st = bd (a S st) fun p => mp (fun k => (.bl (!k), p.2)) (asB p.1) := by
  unfold dNot dOfT tNot tOf bd mp; cases a S st with
  | none => rfl
  | some p => simp only [Option.bind_some]; cases asB p.1 <;> rfl
@[simp] theorem dNeg_ap {a : DX} : dNeg a S st = bd (a S st) fun p => match p.1 with
  | .dat (.int i) => some (.int (-i), p.2)
  | _ => none := nr rfl
@[simp] theorem dTup_ap {r : DAs} : dTup r S st = bd (r S st) fun p => bd (datsA p.1) fun ds => if ds.length ≤ 1000000 then some (.dat (.tuple ds), p.2) else none := nr rfl
@[simp] theorem dLst_ap {r : DAs} : dLst r S st = bd (r S st) fun p => bd (datsA p.1) fun ds => if ds.length ≤ 1000000 then some (.dat (.list ds), p.2) else none := nr rfl
@[simp] theorem dLstM_ap {r : DAs} : dLstM r S st = bd (r S st) fun p => bd (datsA p.1) fun ds => if ds.length ≤ 1000000 then some (.han p.2.length, p.2 ++ [some (.lst ds)]) else none := nr rfl
@[simp] theorem datsA_nil : datsA [] = some [] := nr rfl
@[simp] theorem datsA_cons {d : PyData} {r : List AV} : datsA (.dat d :: r) = mp (d :: ·) (datsA r) := nr rfl
@[simp] theorem dIxA_ap {a b : DX} : dIxA a b S st = bd (a S st) fun p => bd (b S p.2) fun q => match dctAt q.2 p.1 with
  | some (_, kvs) => bd (asK q.1) fun k => mp (fun d => (.dat d, q.2)) (valP kvs k)
  | none => lift2 ixD p.1 q.1 q.2 := nr rfl
@[simp] theorem dctAt_dat {d : PyData} : dctAt st (.dat d) = none := nr rfl
@[simp] theorem dInA_ap {neg : Bool} {a b : DX} : dInA neg a b S st = bd (a S st) fun p => bd (b S p.2) fun q => match dctAt q.2 q.1 with
  | some (_, kvs) => mp (fun k => (.bl (if neg then !(valP kvs k).isSome else (valP kvs k).isSome), q.2)) (asK p.1)
  | none => lift2 (gIn neg) p.1 q.1 q.2 := nr rfl
@[simp] theorem dCallB_ap {g : List BA → Option PyData} {ds : DAs} : dCallB g ds S st = bd (ds S st) fun p => bd (rdAs p.2 p.1) fun ys => mp (fun z => (.dat z, p.2)) (g ys) := nr rfl
@[simp] theorem dCallM_ap {g : List BA → Option (List PyData)} {ds : DAs} : dCallM g ds S st = bd (ds S st) fun p => bd (rdAs p.2 p.1) fun ys => mp (fun z => (.han p.2.length, p.2 ++ [some (.lst z)])) (g ys) := nr rfl
@[simp] theorem rdAs_nil : rdAs st [] = some [] := nr rfl
@[simp] theorem rdAs_cons {a : AV} {r : List AV} : rdAs st (a :: r) = bd (rdA st a) fun x => mp (x :: ·) (rdAs st r) := nr rfl
@[simp] theorem rdA_dat {d : PyData} : rdA st (.dat d) = some (.d d) := nr rfl
@[simp] theorem rdA_kv {d : L2.V} : rdA st (.kv d) = some (.v d) := nr rfl
@[simp] theorem rdA_han {k : Nat} : rdA st (.han k) = mp .d (rd st (.han k)) := nr rfl
@[simp] theorem rd_han {k : Nat} : rd st (.han k) = match st[k]? with
  | some (some (.lst ds)) => some (.list ds)
  | _ => none := nr rfl
@[simp] theorem dCall_ap {fd : DF} {ds : DAs} : dCall fd ds S st = bd (ds S st) fun q => callF fd q.1 q.2 := nr rfl
@[simp] theorem sSeq_ap {a b : DSt} : sSeq a b S st = bd (a S st) (seqK b) := nr rfl
@[simp] theorem sNil_ap : sNil S st = some (.nx, S, st) := nr rfl
@[simp] theorem sPass_ap : sPass S st = some (.nx, S, st) := nr rfl
@[simp] theorem sBrk_ap : sBrk S st = some (.bk, S, st) := nr rfl
@[simp] theorem sCnt_ap : sCnt S st = some (.ct, S, st) := nr rfl
@[simp] theorem sRet_ap {d : DX} : sRet d S st = mp (fun p => (.rt p.1, S, p.2)) (d S st) := nr rfl
@[simp] theorem sRetN_ap : sRetN S st = some (.rt .non, S, st) := nr rfl
@[simp] theorem sIf_ap {t : DTt} {a b : DSt} : sIf t a b S st = bd (t S st) fun p => if p.1 = true then a S p.2 else b S p.2 := by
  unfold sIf bd; congr 1; funext p; cases p.1 <;> rfl
@[simp] theorem sSet_ap {i : Nat} {d : DX} : sSet i d S st = mp (fun p => (.nx, S.set i p.1, p.2)) (d S st) := nr rfl
@[simp] theorem sExpr_ap {d : DX} : sExpr d S st = mp (fun p => (.nx, S, p.2)) (d S st) := nr rfl
@[simp] theorem sAsg_ap {g : DTg} {d : DX} : sAsg g d S st = bd (d S st) fun p => mp (fun q => (.nx, q.1, q.2)) (g p.1 S p.2) := nr rfl
@[simp] theorem sAsgTT_ap {g : DTv} {ds : DAs} : sAsgTT g ds S st = bd (ds S st) fun p => if p.1.length ≤ 1000000 then mp (fun q => (.nx, q.1, q.2)) (g p.1 S p.2) else none := nr rfl
@[simp] theorem rNil_ap : rNil [] S st = some (S, st) := nr rfl
@[simp] theorem rCons_ap {g : DTg} {gs : DTv} {v : AV} {r : List AV} : rCons g gs (v :: r) S st = bd (g v S st) fun p => gs r p.1 p.2 := nr rfl
@[simp] theorem sPar_ap {i j : Nat} {ds : DAs} : sPar i j ds S st = bd (ds S st) fun p => match p.1 with
  | [v, w] => some (.nx, (S.set i v).set j w, p.2)
  | _ => none := nr rfl
@[simp] theorem sPar3_ap {i j l : Nat} {ds : DAs} : sPar3 i j l ds S st = bd (ds S st) fun p => match p.1 with
  | [u, v, w] => some (.nx, ((S.set i u).set j v).set l w, p.2)
  | _ => none := nr rfl
@[simp] theorem gName_ap {i : Nat} {v : AV} : gName i v S st = some (S.set i v, st) := nr rfl
@[simp] theorem gNil_ap : gNil [] S st = some (S, st) := nr rfl
@[simp] theorem gCons_ap {g : DTg} {gs : DTs} {d : PyData} {r : List PyData} : DL.gCons g gs (d :: r) S st = bd (g (.dat d) S st) fun p => gs r p.1 p.2 := nr rfl
@[simp] theorem gTup_tup {n : Nat} {gs : DTs} {ds : List PyData} : gTup n gs (.dat (.tuple ds)) S st = if ds.length = n then gs ds S st else none := nr rfl
@[simp] theorem gTup_lst {n : Nat} {gs : DTs} {ds : List PyData} : gTup n gs (.dat (.list ds)) S st = if ds.length = n then gs ds S st else none := nr rfl
@[simp] theorem gStarF_tup {i : Nat} {gs : DTs} {ds : List PyData} : gStarF i gs (.dat (.tuple ds)) S st = if i ≤ ds.length then gs (ds.take i ++ [.list (ds.drop i)]) S st else none := nr rfl
@[simp] theorem dSeqI_ap {d : DX} : dSeqI d S st = bd (d S st) fun p => match p.1 with
  | .dat (.list ds) => some (ds, [], p.2)
  | .dat (.tuple ds) => some (ds, [], p.2)
  | .dat (.str z) => some (signsD z, [], p.2)
  | .han k => match p.2[k]? with
    | some (some (.lst ds)) => some (ds, [(k, ds)], p.2)
    | _ => none
  | _ => none := nr rfl
/-- the bounds are not to be reckoned by the kernel -/
noncomputable def rng1 (vs : List AV) (st : Sto) : Option (List PyData × List (Nat × List PyData) × Sto) := match vs with
  | [.dat (.int j)] => @ite _ (-(2 ^ 62) ≤ j ∧ j < 2 ^ 62) (Classical.propDecidable _) (some (rangeD 0 j.toNat, [], st)) none
  | _ => none
noncomputable def rng2 (vs : List AV) (st : Sto) : Option (List PyData × List (Nat × List PyData) × Sto) := match vs with
  | [.dat (.int i), .dat (.int j)] => @ite _ (-(2 ^ 62) ≤ i ∧ i < 2 ^ 62 ∧ -(2 ^ 62) ≤ j ∧ j < 2 ^ 62) (Classical.propDecidable _) (some (rangeD i (j - i).toNat, [], st)) none
  | _ => none
@[simp] theorem dRange1_ap {ds : DAs} : dRange1 ds S st = bd (ds S st) fun p => rng1 p.1 p.2 := by
  unfold dRange1 bd; congr 1; funext p; unfold rng1; split
  · rename_i j hj
    try rw [hj]
    by_cases h : -(2 ^ 62) ≤ j ∧ j < 2 ^ 62
    · simp only [if_pos h]
    · simp only [if_neg h]
  · rename_i hj
    first
    | rfl
    | (split
       · rename_i j hj2
         exact absurd hj2 (hj j)
       · rfl)
@[simp] theorem dRange2_ap {ds : DAs} : dRange2 ds S st = bd (ds S st) fun p => rng2 p.1 p.2 := by
  unfold dRange2 bd; congr 1; funext p; unfold rng2; split
  · rename_i i j hj
    try rw [hj]
    by_cases h : -(2 ^ 62) ≤ i ∧ i < 2 ^ 62 ∧ -(2 ^ 62) ≤ j ∧ j < 2 ^ 62
    · simp only [if_pos h]
    · simp only [if_neg h]
  · rename_i hj
    first
    | rfl
    | (split
       · rename_i i j hj2
         exact absurd hj2 (hj i j)
       · rfl)
theorem rng1_nat {n : Nat} (h : n ≤ 1000000) : rng1 [.dat (.int (n : Int))] st = some ((List.range n).map fun (i : Nat) => .int (i : Int), [], st) := by
  unfold rng1
  simp only
  rw [if_pos ⟨by omega, by omega⟩]
  simp [rangeD]
theorem rng1_int {j : Int} (h : -1000000 ≤ j) (h2 : j ≤ 1000000) : rng1 [.dat (.int j)] st = some ((List.range j.toNat).map fun (i : Nat) => .int (i : Int), [], st) := by
  unfold rng1
  simp only
  rw [if_pos ⟨by omega, by omega⟩]
  simp [rangeD]
theorem rng2_int {i j : Int} (h : -1000000 ≤ i) (h2 : i ≤ 1000000) (h3 : -1000000 ≤ j) (h4 : j ≤ 1000000) : rng2 [.dat (.int i), .dat (.int j)] st = some ((List.range (j - i).toNat).map fun (k : Nat) => .int (i + (k : Int)), [], st) := by
  unfold rng2
  simp only
  rw [if_pos ⟨by omega, by omega, by omega, by omega⟩]
  rfl
@[simp] theorem dEnum_ap {ds : DAs} : dEnum ds S st = bd (ds S st) fun p => match p.1 with
  | [v] => mp (fun q => (enumD 0 q.1, q.2, p.2)) (srcA p.2 v)
  | _ => none := nr rfl
@[simp] theorem dZip_ap {ds : DAs} : dZip ds S st = bd (ds S st) fun p => match p.1 with
  | [v, w] => bd (srcA p.2 v) fun q => mp (fun r => (zipD q.1 r.1, q.2 ++ r.2, p.2)) (srcA p.2 w)
  | _ => none := nr rfl
@[simp] theorem srcA_lst {ds : List PyData} : srcA st (.dat (.list ds)) = some (ds, []) := nr rfl
@[simp] theorem srcA_tup {ds : List PyData} : srcA st (.dat (.tuple ds)) = some (ds, []) := nr rfl
@[simp] theorem srcA_str {z : Str} : srcA st (.dat (.str z)) = some (signsD z, []) := nr rfl
@[simp] theorem srcA_han {k : Nat} : srcA st (.han k) = match st[k]? with
  | some (some (.lst ds)) => some (ds, [(k, ds)])
  | _ => none := nr rfl
@[simp] theorem sFor_ap {di : DI} {tg : DTg} {body : DSt} : sFor di tg body S st = bd (di S st) fun t => forL t.2.1 tg body t.1 S t.2.2 := nr rfl
@[simp] theorem tYes_ap : tYes S st = some (true, st) := nr rfl
@[simp] theorem gOk_nil : gOk [] st = true := nr rfl
@[simp] theorem lcAll_ap {di : DI} {ws : List Nat} {tg : DTg} {t : DTt} {el : DX} : lcAll di ws tg t el S st = bd (di S st) fun u => if u.1.length ≤ 1000000 then lcL u.2.1 tg t el (wipeA S ws) u.1 u.2.2 else none := nr rfl
@[simp] theorem dLc_ap {di : DI} {ws : List Nat} {tg : DTg} {t : DTt} {el : DX} : dLc di ws tg t el S st = mp (fun z => (.dat (.list z.1), z.2)) (lcAll di ws tg t el S st) := nr rfl
@[simp] theorem dLcM_ap {di : DI} {ws : List Nat} {tg : DTg} {t : DTt} {el : DX} : dLcM di ws tg t el S st = mp (fun z => (.han z.2.length, z.2 ++ [some (.lst z.1)])) (lcAll di ws tg t el S st) := nr rfl
@[simp] theorem wipeA_nil : wipeA S [] = S := nr rfl
@[simp] theorem wipeA_cons {v : Nat} {vs : List Nat} : wipeA S (v :: vs) = (wipeA S vs).set v .un := nr rfl
@[simp] theorem dAppend_ap {a b : DX} : dAppend a b S st = bd (a S st) fun p => bd (lstAt p.2 p.1) fun _ => bd (b S p.2) fun q => bd (lstAt q.2 p.1) fun l => match q.1 with
  | .dat x => if l.2.length < 1000000 then some (.non, q.2.set l.1 (some (.lst (l.2 ++ [x])))) else none
  | _ => none := nr rfl
@[simp] theorem dPop_ap {a : DX} : dPop a S st = bd (a S st) fun p => bd (lstAt p.2 p.1) fun l => match l.2.getLast? with
  | some x => some (.dat x, p.2.set l.1 (some (.lst l.2.dropLast)))
  | none => none := nr rfl
@[simp] theorem sSetIx_ap {o i v : DX} : sSetIx o i v S st = bd (v S st) fun p => bd (o S p.2) fun q => bd (i S q.2) fun r => bd (lstAt r.2 q.1) fun l => bd (asI r.1) fun n => match p.1 with
  | .dat x => if 0 ≤ n ∧ n.toNat < l.2.length then some (.nx, S, r.2.set l.1 (some (.lst (l.2.set n.toNat x)))) else none
  | _ => none := nr rfl
@[simp] theorem lstAt_han {k : Nat} : lstAt st (.han k) = match st[k]? with
  | some (some (.lst ds)) => some (k, ds)
  | _ => none := nr rfl
@[simp] theorem dctAt_han {k : Nat} : dctAt st (.han k) = match st[k]? with
  | some (some (.dK ds)) => some (k, ds)
  | _ => none := nr rfl
@[simp] theorem asK_int {i : Int} : asK (.dat (.int i)) = some (.inl i) := nr rfl
@[simp] theorem asK_str {i : Str} : asK (.dat (.str i)) = some (.inr i) := nr rfl
@[simp] theorem dInK_ap {tab : List (Str × PyData)} {neg : Bool} {a : DX} : dInK tab neg a S st = bd (a S st) fun p => match p.1 with
  | .dat (.str z) => some (.bl (if neg then !(tabGet tab z).isSome else (tabGet tab z).isSome), p.2)
  | _ => none := nr rfl
@[simp] theorem dIxK_ap {tab : List (Str × PyData)} {a : DX} : dIxK tab a S st = bd (a S st) fun p => match p.1 with
  | .dat (.str z) => mp (fun d => (.dat d, p.2)) (tabGet tab z)
  | _ => none := nr rfl
@[simp] theorem dAddM_ap {a b : DX} : dAddM a b S st = bd (a S st) fun p => bd (b S p.2) fun q => bd (asL q.2 p.1) fun xs => bd (asL q.2 q.1) fun ys => if xs.length + ys.length ≤ 1000000 then some (.han q.2.length, q.2 ++ [some (.lst (xs ++ ys))]) else none := nr rfl
@[simp] theorem asL_lst {ds : List PyData} : asL st (.dat (.list ds)) = some ds := nr rfl
@[simp] theorem dSlLH_ap {a b c : DX} : dSlLH a b c S st = bd (a S st) fun p => bd (b S p.2) fun q => bd (asI q.1) fun i => bd (c S q.2) fun r => bd (asI r.1) fun j => bd (rd r.2 p.1) fun d => mp (fun z => (.dat z, r.2)) (slD (some i) (some j) d) := nr rfl
@[simp] theorem dSlL_ap {a b : DX} : dSlL a b S st = bd (a S st) fun p => bd (b S p.2) fun q => bd (asI q.1) fun i => bd (rd q.2 p.1) fun d => mp (fun z => (.dat z, q.2)) (slD (some i) none d) := nr rfl
@[simp] theorem dSlH_ap {a b : DX} : dSlH a b S st = bd (a S st) fun p => bd (b S p.2) fun q => bd (asI q.1) fun i => bd (rd q.2 p.1) fun d => mp (fun z => (.dat z, q.2)) (slD none (some i) d) := nr rfl
@[simp] theorem outF_dat {n : Nat} {d : PyData} : outF n (.dat d) st = some (.dat d, st.take n) := nr rfl
@[simp] theorem outF_kv {n : Nat} {d : L2.V} : outF n (.kv d) st = some (.kv d, st.take n) := nr rfl
@[simp] theorem gInt_ii {f : Int → Int → Option PyData} {i j : Int} : gInt f (.int i) (.int j) = f i j := nr rfl
@[simp] theorem gAdd_ii {i j : Int} : gAdd (.int i) (.int j) = some (.int (i + j)) := nr rfl
@[simp] theorem gMul_ii {i j : Int} : gMul (.int i) (.int j) = if L2.CMulW i j then some (.int (i * j)) else none := nr rfl
@[simp] theorem gAdd_tt {xs ys : List PyData} : gAdd (.tuple xs) (.tuple ys) = if xs.length + ys.length ≤ 1000000 then some (.tuple (xs ++ ys)) else none := nr rfl
@[simp] theorem gAdd_ll {xs ys : List PyData} : gAdd (.list xs) (.list ys) = if xs.length + ys.length ≤ 1000000 then some (.list (xs ++ ys)) else none := nr rfl
@[simp] theorem gEq_ii {neg : Bool} {i j : Int} : gEq neg (.int i) (.int j) = some (.bool (if neg then !decide (i = j) else decide (i = j))) := nr rfl
@[simp] theorem gEq_ss {neg : Bool} {i j : Str} : gEq neg (.str i) (.str j) = some (.bool (if neg then !decide (i = j) else decide (i = j))) := nr rfl
@[simp] theorem gEq_bb {neg : Bool} {i j : Bool} : gEq neg (.bool i) (.bool j) = some (.bool (if neg then !decide (i = j) else decide (i = j))) := nr rfl
@[simp] theorem gEq_t0 {xs : List PyData} : gEq false (.tuple xs) (.tuple []) = some (.bool xs.isEmpty) := nr rfl
@[simp] theorem gLen_lst {xs : List PyData} : gLen [.d (.list xs)] = some (.int (xs.length : Nat)) := nr rfl
@[simp] theorem gLen_tup {xs : List PyData} : gLen [.d (.tuple xs)] = some (.int (xs.length : Nat)) := nr rfl
@[simp] theorem gLen_str {xs : Str} : gLen [.d (.str xs)] = if xs.length ≤ 1000000 then some (.int (xs.length : Nat)) else none := nr rfl
@[simp] theorem gAll_lst {ds : List PyData} : gAll [.d (.list ds)] = mp (fun bs => .bool (bs.all fun b => b)) (blsOf ds) := nr rfl
@[simp] theorem gAny_lst {ds : List PyData} : gAny [.d (.list ds)] = mp (fun bs => .bool (bs.any fun b => b)) (blsOf ds) := nr rfl
@[simp] theorem gSum_lst {ds : List PyData} : gSum [.d (.list ds)] = mp (fun bs => .int bs.sum) (intsOf ds) := nr rfl
@[simp] theorem gTuple_lst {ds : List PyData} : gTuple [.d (.list ds)] = some (.tuple ds) := nr rfl
@[simp] theorem gTuple_tup {ds : List PyData} : gTuple [.d (.tuple ds)] = some (.tuple ds) := nr rfl
@[simp] theorem gList_lst {ds : List PyData} : gList [.d (.list ds)] = some (.list ds) := nr rfl
@[simp] theorem gList_tup {ds : List PyData} : gList [.d (.tuple ds)] = some (.list ds) := nr rfl
@[simp] theorem gItems_d {d : PyData} : gItems [.d d] = itemsD d := nr rfl
@[simp] theorem itemsD_lst {ds : List PyData} : itemsD (.list ds) = some ds := nr rfl
@[simp] theorem itemsD_tup {ds : List PyData} : itemsD (.tuple ds) = some ds := nr rfl
@[simp] theorem gAbs_i {i : Int} : gAbs [.d (.int i)] = some (.int (if i < 0 then -i else i)) := nr rfl
@[simp] theorem gMax2_ii {i j : Int} : gMax2 [.d (.int i), .d (.int j)] = some (.int (if j > i then j else i)) := nr rfl
@[simp] theorem gMin2_ii {i j : Int} : gMin2 [.d (.int i), .d (.int j)] = some (.int (if j < i then j else i)) := nr rfl
@[simp] theorem gIntOf_i {i : Int} : gIntOf [.d (.int i)] = some (.int i) := nr rfl
@[simp] theorem gIntOf_b {b : Bool} : gIntOf [.d (.bool b)] = some (.int (if b then 1 else 0)) := nr rfl
@[simp] theorem gIsi_dv {d : PyData} {n : String} : gIsi [.d d, .v (.ty n)] = mp .bool (tyIs n d) := nr rfl
@[simp] theorem tyIs_int {d : PyData} : tyIs "int" d = some (match d with | .int _ => true | .bool _ => true | _ => false) := by cases d <;> rfl
@[simp] theorem tyIs_bool {d : PyData} : tyIs "bool" d = some (match d with | .bool _ => true | _ => false) := by cases d <;> rfl
@[simp] theorem tyIs_tuple {d : PyData} : tyIs "tuple" d = some (match d with | .tuple _ => true | _ => false) := by cases d <;> rfl
@[simp] theorem tyIs_list {d : PyData} : tyIs "list" d = some (match d with | .list _ => true | _ => false) := by cases d <;> rfl
@[simp] theorem tyIs_str {d : PyData} : tyIs "str" d = some (match d with | .str _ => true | _ => false) := by cases d <;> rfl
@[simp] theorem tyIs_dict {d : PyData} : tyIs "dict" d = some (match d with | .dict _ => true | _ => false) := by cases d <;> rfl
@[simp] theorem ixD_li {ds : List PyData} {i : Int} : ixD (.list ds) (.int i) = L2.atI ds i := nr rfl
@[simp] theorem ixD_ti {ds : List PyData} {i : Int} : ixD (.tuple ds) (.int i) = L2.atI ds i := nr rfl
@[simp] theorem slD_l {lo hi : Option Int} {ds : List PyData} : slD lo hi (.list ds) = some (.list (cutD ds lo hi)) := nr rfl
@[simp] theorem slD_t {lo hi : Option Int} {ds : List PyData} : slD lo hi (.tuple ds) = some (.tuple (cutD ds lo hi)) := nr rfl
@[simp] theorem gIn_i {neg : Bool} {n : Int} {y : PyData} : gIn neg (.int n) y = mp (fun ns => .bool (if neg then !decide (n ∈ ns) else decide (n ∈ ns))) (bd (itemsD y) intsOf) := nr rfl
@[simp] theorem gIn_s {neg : Bool} {n : Str} {y : PyData} : gIn neg (.str n) y = mp (fun ns => .bool (if neg then !decide (n ∈ ns) else decide (n ∈ ns))) (bd (itemsD y) strsOf) := nr rfl
theorem fnOf_ap {np n : Nat} {body : DSt} {S0 : List AV} (h : S0.length = np) : fnOf np n body S0 st = bd (body (S0 ++ List.replicate (n - np) .un) st) (outK st.length) := by
  unfold fnOf; rw [if_pos h, h]; rfl
end
/-! ### calls -/
theorem call_pure {fd : DF} {vs : List AV} {st : Sto} {d : PyData} (h : fd vs [] = some (.dat d, [])) (hv : hansA vs = [] := by rfl) (hr : renA 0 vs = vs := by rfl) : callF fd vs st = some (.dat d, st) := by
  unfold callF
  simp [hv, hr, cells, inAll, fresh1, h, wb]
/-- a call that is handed the first object -/
theorem call_one {fd : DF} {vs : List AV} {c : Option MO} {st : Sto} {Q : AV × Sto → Prop} (h : Ev (fd (.han 0 :: vs) [c]) fun r => ∃ d c', r = (.dat d, [c']) ∧ Q (.dat d, c' :: st)) (hv : hansA vs = [] := by rfl) (hr : renA 1 vs = vs := by rfl) : Ev (callF fd (.han 0 :: vs) (c :: st)) Q := by
  obtain ⟨r, e, d, c', rfl, q⟩ := h
  unfold callF
  simp [hansA, hv, renA, hr, cells, inAll, fresh1, e, wb]
  exact q
/-! ### loops -/
theorem forL_ev {g : List (Nat × List PyData)} {tg : DTg} {body : DSt} {Q : Fl × List AV × Sto → Prop} (I : Nat → List AV → Sto → Prop) : ∀ (ds : List PyData) (k : Nat) (S : List AV) (st : Sto), I k S st →
    (∀ i S st, I i S st → gOk g st = true) →
    (∀ i d S st, ds[i]? = some d → I (k + i) S st → Ev (tg (.dat d) S st) fun p => Ev (body p.1 p.2) fun q => match q.1 with
      | .nx => I (k + i + 1) q.2.1 q.2.2
      | .ct => I (k + i + 1) q.2.1 q.2.2
      | .bk => Q (.nx, q.2.1, q.2.2)
      | .rt v => Q (.rt v, q.2.1, q.2.2)) →
    (∀ S st, I (k + ds.length) S st → Q (.nx, S, st)) → Ev (forL g tg body ds S st) Q
  | [], k, S, st, h0, hg, _, he => by
    unfold forL
    rw [if_pos (hg k S st h0)]
    exact Ev_some.mpr (he S st h0)
  | d :: r, k, S, st, h0, hg, hs, he => by
    unfold forL
    rw [if_pos (hg k S st h0)]
    obtain ⟨p, e1, h1⟩ := hs 0 d S st rfl h0
    obtain ⟨q, e2, h2⟩ := h1
    simp only [e1, e2, Option.bind_some]
    have rcc : ∀ S' st', I (k + 1) S' st' → Ev (forL g tg body r S' st') Q := fun S' st' h => forL_ev I r (k + 1) S' st' h hg (fun i d S st hi hI => by
      have := hs (i + 1) d S st (by simpa using hi) (by rwa [show k + (i + 1) = k + 1 + i by omega])
      rwa [show k + (i + 1) + 1 = k + 1 + i + 1 by omega] at this) (fun S st h => he S st (by rwa [List.length_cons, show k + (r.length + 1) = k + 1 + r.length by omega]))
    obtain ⟨fl, S', st'⟩ := q
    cases fl with
    | nx => exact rcc _ _ h2
    | ct => exact rcc _ _ h2
    | bk => exact Ev_some.mpr h2
    | rt v => exact Ev_some.mpr h2
/-- a comprehension whose turns touch nothing -/
theorem lcL_pure {g : List (Nat × List PyData)} {tg : DTg} {t : DTt} {el : DX} {S : List AV} {st : Sto} (p : PyData → Bool) (f : PyData → PyData) (hg : gOk g st = true) : ∀ (ds : List PyData),
    (∀ d ∈ ds, ∃ S', tg (.dat d) S st = some (S', st) ∧ t S' st = some (p d, st) ∧ (p d = true → el S' st = some (.dat (f d), st))) → lcL g tg t el S ds st = some ((ds.filter p).map f, st)
  | [], _ => by simp [lcL, hg]
  | d :: r, h => by
    obtain ⟨S', h1, h2, h3⟩ := h d (by simp)
    have ih := lcL_pure p f hg r fun x hx => h x (by simp [hx])
    cases e : p d with
    | false => simp [lcL, hg, h1, h2, e, ih]
    | true => simp [lcL, hg, h1, h2, e, ih, h3 e]
theorem lcL_map {g : List (Nat × List PyData)} {tg : DTg} {el : DX} {S : List AV} {st : Sto} (f : PyData → PyData) (hg : gOk g st = true) (ds : List PyData)
    (h : ∀ d ∈ ds, ∃ S', tg (.dat d) S st = some (S', st) ∧ el S' st = some (.dat (f d), st)) : lcL g tg tYes el S ds st = some (ds.map f, st) := by
  have := lcL_pure (t := tYes) (fun _ => true) f hg ds fun d hd => by
    obtain ⟨S', h1, h2⟩ := h d hd
    exact ⟨S', h1, rfl, fun _ => h2⟩
  rwa [List.filter_eq_self.mpr (by simp)] at this
/-- a comprehension by an invariant -/
theorem lcL_ev {g : List (Nat × List PyData)} {tg : DTg} {t : DTt} {el : DX} {S : List AV} (I : Nat → List PyData → Sto → Prop) : ∀ (ds : List PyData) (k : Nat) (acc : List PyData) (st : Sto), I k acc st →
    (∀ i acc st, I i acc st → gOk g st = true) →
    (∀ i d acc st, ds[i]? = some d → I (k + i) acc st → Ev (tg (.dat d) S st) fun p => Ev (t p.1 p.2) fun q => if q.1 = true then Ev (el p.1 q.2) fun v => ∃ x, v.1 = .dat x ∧ I (k + i + 1) (acc ++ [x]) v.2 else I (k + i + 1) acc q.2) →
    Ev (lcL g tg t el S ds st) fun z => I (k + ds.length) (acc ++ z.1) z.2
  | [], k, acc, st, h0, hg, _ => by
    unfold lcL
    rw [if_pos (hg k acc st h0)]
    exact Ev_some.mpr (by simpa using h0)
  | d :: r, k, acc, st, h0, hg, hs => by
    unfold lcL
    rw [if_pos (hg k acc st h0)]
    obtain ⟨p, e1, q, e2, h2⟩ := hs 0 d acc st rfl h0
    simp only [e1, e2, Option.bind_some]
    have rcc : ∀ acc' st', I (k + 1) acc' st' → Ev (lcL g tg t el S r st') fun z => I (k + 1 + r.length) (acc' ++ z.1) z.2 := fun acc' st' h => lcL_ev I r (k + 1) acc' st' h hg (fun i d S st hi hI => by
      have := hs (i + 1) d S st (by simpa using hi) (by rwa [show k + (i + 1) = k + 1 + i by omega])
      rwa [show k + (i + 1) + 1 = k + 1 + i + 1 by omega] at this)
    rw [List.length_cons, show k + (r.length + 1) = k + 1 + r.length by omega]
    obtain ⟨b, st2⟩ := q
    cases b with
    | false => exact rcc _ _ (by simpa using h2)
    | true =>
      simp only [if_true] at h2
      obtain ⟨v, e3, x, hx, h3⟩ := h2
      simp only [e3, hx, Option.bind_some, Ev_map]
      refine (rcc _ _ h3).mono fun z hz => ?_
      simpa using hz
theorem blsOf_map {α : Type} (f : α → Bool) (l : List α) : blsOf (l.map fun x => PyData.bool (f x)) = some (l.map f) := by
  induction l with
  | nil => rfl
  | cons x r ih => simp [blsOf, ih]
theorem intsOf_map {α : Type} (f : α → Int) (l : List α) : intsOf (l.map fun x => PyData.int (f x)) = some (l.map f) := by
  induction l with
  | nil => rfl
  | cons x r ih => simp [intsOf, ih]
theorem strsOf_map {α : Type} (f : α → Str) (l : List α) : strsOf (l.map fun x => PyData.str (f x)) = some (l.map f) := by
  induction l with
  | nil => rfl
  | cons x r ih => simp [strsOf, ih]
end DL
set_option linter.all false
namespace LM
inductive RK where
  | cnt | agn (n : Int) | oth
deriving DecidableEq
def agains : Int → List RK → List (Int × Int)
  | _, [] => []
  | at_, .agn n :: r => (n - 1, at_) :: agains (at_ + 1) r
  | at_, _ :: r => agains (at_ + 1) r
def counts : Int → List RK → List Int
  | _, [] => []
  | at_, .cnt :: r => at_ :: counts (at_ + 1) r
  | at_, _ :: r => counts (at_ + 1) r
def apart (p q : Int × Int) : Prop := p.2 < q.1 ∨ q.2 < p.1 ∨ (p.1 < q.1 ∧ q.2 < p.2) ∨ (q.1 < p.1 ∧ p.2 < q.2)
instance (p q) : Decidable (apart p q) := by unfold apart; infer_instance
def inR (r : Int) (p : Int × Int) : Bool := decide (p.1 < r) && decide (r ≤ p.2)
def nest : Int → List Int → List RK → Option (List (List Int))
  | _, op, [] => if op = [] then some [] else none
  | at_, op, .cnt :: r => if op.length + 1 ≤ 2 then (nest (at_ + 1) (op ++ [at_]) r).map (op :: ·) else none
  | at_, op, .agn n :: r => if op.getLast? = some (n - 1) then (nest (at_ + 1) op.dropLast r).map (op :: ·) else none
  | at_, op, .oth :: r => (nest (at_ + 1) op r).map (op :: ·)
structure PC (at_ : Int) (op : List Int) (r : List RK) : Prop where
  a : ((agains at_ r).map (·.1)).Perm (op ++ counts at_ r)
  b : ∀ p ∈ agains at_ r, p.1 < p.2
  c : (agains at_ r).Pairwise apart
  d : ∀ x, at_ ≤ x → x < at_ + r.length → ((agains at_ r).filter (inR x)).length ≤ 2
theorem agains_ge : ∀ (r : List RK) (a : Int), ∀ p ∈ agains a r, a ≤ p.2 ∧ p.2 < a + r.length
  | [], _, _, h => by simp [agains] at h
  | .cnt :: r, a, p, h => by
    have := agains_ge r (a + 1) p (by simpa [agains] using h)
    simp only [List.length_cons]; omega
  | .oth :: r, a, p, h => by
    have := agains_ge r (a + 1) p (by simpa [agains] using h)
    simp only [List.length_cons]; omega
  | .agn n :: r, a, p, h => by
    simp only [agains, List.mem_cons] at h
    rcases h with rfl | h
    · simp only [List.length_cons]; omega
    · have := agains_ge r (a + 1) p h
      simp only [List.length_cons]; omega
theorem counts_ge : ∀ (r : List RK) (a : Int), ∀ x ∈ counts a r, a ≤ x
  | [], _, _, h => by simp [counts] at h
  | .oth :: r, a, p, h => by
    have := counts_ge r (a + 1) p (by simpa [counts] using h); omega
  | .agn n :: r, a, p, h => by
    have := counts_ge r (a + 1) p (by simpa [counts] using h); omega
  | .cnt :: r, a, p, h => by
    simp only [counts, List.mem_cons] at h
    rcases h with rfl | h
    · omega
    · have := counts_ge r (a + 1) p h; omega
/-- what stands open at a row -/
theorem open_len {a : Int} {op : List Int} {r : List RK} (h : ((agains a r).map (·.1)).Perm (op ++ counts a r)) (ho : ∀ x ∈ op, x < a) : ((agains a r).filter (inR a)).map (·.1) |>.Perm op := by
  have e : (agains a r).filter (inR a) = (agains a r).filter (fun p => decide (p.1 < a)) := by
    apply List.filter_congr
    intro p hp
    have := (agains_ge r a p hp).1
    simp [inR, this]
  rw [e]
  have e2 : ((agains a r).filter (fun p => decide (p.1 < a))).map (·.1) = ((agains a r).map (·.1)).filter (fun x => decide (x < a)) := by
    rw [List.filter_map]; rfl
  rw [e2]
  have h2 := h.filter (fun x => decide (x < a))
  have e3 : op.filter (fun x => decide (x < a)) = op := List.filter_eq_self.mpr (by simpa using ho)
  have e4 : (counts a r).filter (fun x => decide (x < a)) = [] := List.filter_eq_nil_iff.mpr (by
    intro x hx; have := counts_ge r a x hx; simp; omega)
  rw [List.filter_append, e3, e4, List.append_nil] at h2
  exact h2
theorem filter_later {a : Int} {n : Int} {l : List (Int × Int)} {x : Int} (h : a < x) : ((n, a) :: l).filter (inR x) = l.filter (inR x) := by
  rw [List.filter_cons_of_neg]
  simp [inR]; omega
theorem last_split {op : List Int} {t : Int} (h : op.getLast? = some t) : op = op.dropLast ++ [t] := by
  rcases List.eq_nil_or_concat op with rfl | ⟨l, b, rfl⟩
  · simp at h
  · simp at h; subst h; simp
theorem nest_iff : ∀ (r : List RK) (a : Int) (op : List Int), op.Pairwise (· < ·) → (∀ x ∈ op, x < a) → op.length ≤ 2 → ((nest a op r).isSome = true ↔ PC a op r)
  | [], a, op, _, _, _ => by
    by_cases h : op = []
    · subst h
      simp only [nest, if_true, Option.isSome_some, true_iff]
      exact ⟨by simp [agains, counts], by simp [agains], by simp [agains], by simp [agains]⟩
    · simp only [nest, h, if_false, Option.isSome_none, Bool.false_eq_true, false_iff]
      intro q
      have := q.a
      simp only [agains, counts, List.map_nil, List.append_nil] at this
      exact h this.nil_eq.symm
  | .oth :: r, a, op, h1, h2, h3 => by
    have ih := nest_iff r (a + 1) op h1 (fun x hx => by have := h2 x hx; omega) h3
    simp only [nest, Option.isSome_map, ih]
    constructor
    · intro q
      refine ⟨q.a, q.b, q.c, fun x hx hx2 => ?_⟩
      by_cases e : x = a
      · subst e
        have := (open_len (a := x) (r := .oth :: r) q.a h2).length_eq
        simp only [List.length_map] at this
        omega
      · exact q.d x (by omega) (by simp only [List.length_cons] at hx2; omega)
    · intro q
      exact ⟨q.a, q.b, q.c, fun x hx hx2 => q.d x (by omega) (by simp only [List.length_cons]; omega)⟩
  | .cnt :: r, a, op, h1, h2, h3 => by
    by_cases hl : op.length + 1 ≤ 2
    · have ih := nest_iff r (a + 1) (op ++ [a]) (List.pairwise_append.mpr ⟨h1, by simp, by simpa using h2⟩) (fun x hx => by
        rcases List.mem_append.mp hx with hx | hx
        · have := h2 x hx; omega
        · simp at hx; omega) (by simp; omega)
      simp only [nest, hl, if_true, Option.isSome_map, ih]
      constructor
      · intro q
        have qa : ((agains a (.cnt :: r)).map (·.1)).Perm (op ++ counts a (.cnt :: r)) := by
          have := q.a
          simp only [counts]
          rw [List.append_assoc] at this
          exact this
        refine ⟨qa, q.b, q.c, fun x hx hx2 => ?_⟩
        by_cases e : x = a
        · subst e
          have := (open_len (a := x) (r := .cnt :: r) qa h2).length_eq
          simp only [List.length_map] at this
          omega
        · exact q.d x (by omega) (by simp only [List.length_cons] at hx2; omega)
      · intro q
        refine ⟨?_, q.b, q.c, fun x hx hx2 => q.d x (by omega) (by simp only [List.length_cons]; omega)⟩
        rw [List.append_assoc]
        exact q.a
    · simp only [nest, hl, if_false, Option.isSome_none, Bool.false_eq_true, false_iff]
      intro q
      have qa : ((agains (a + 1) r).map (·.1)).Perm ((op ++ [a]) ++ counts (a + 1) r) := by
        rw [List.append_assoc]; exact q.a
      have := (open_len (a := a + 1) (r := r) qa (fun x hx => by
        rcases List.mem_append.mp hx with hx | hx
        · have := h2 x hx; omega
        · simp at hx; omega)).length_eq
      simp only [List.length_map, List.length_append, List.length_singleton] at this
      cases r with
      | nil =>
        have := q.a.length_eq
        simp [agains, counts] at this
      | cons y r =>
        have := q.d (a + 1) (by omega) (by simp only [List.length_cons]; omega)
        simp only [agains] at this
        omega
  | .agn n :: r, a, op, h1, h2, h3 => by
    by_cases hl : op.getLast? = some (n - 1)
    · have e := last_split hl
      have hs := List.dropLast_sublist op
      have ih := nest_iff r (a + 1) op.dropLast (h1.sublist hs) (fun x hx => by have := h2 x (hs.subset hx); omega) (by have := hs.length_le; omega)
      simp only [nest, hl, if_true, Option.isSome_map, ih]
      have ht : n - 1 < a := h2 _ (by rw [e]; simp)
      have hpa : ((agains a (.agn n :: r)).map (·.1)).Perm (op ++ counts a (.agn n :: r)) ↔ ((agains (a + 1) r).map (·.1)).Perm (op.dropLast ++ counts (a + 1) r) := by
        simp only [agains, counts, List.map_cons]
        conv => lhs; rhs; rw [e]
        rw [List.append_assoc]
        constructor
        · intro z
          exact (List.perm_cons (n - 1)).mp (z.trans List.perm_middle)
        · intro z
          exact ((List.perm_cons (n - 1)).mpr z).trans List.perm_middle.symm
      have hor : ∀ x ∈ op.dropLast, x < n - 1 := by
        rw [e] at h1
        have := (List.pairwise_append.mp h1).2.2
        intro x hx
        exact this x (by simpa using hx) (n - 1) (by simp)
      constructor
      · intro q
        have qa := hpa.mpr q.a
        refine ⟨qa, ?_, ?_, fun x hx hx2 => ?_⟩
        · intro p hp
          simp only [agains, List.mem_cons] at hp
          rcases hp with rfl | hp
          · exact ht
          · exact q.b p hp
        · simp only [agains]
          refine List.pairwise_cons.mpr ⟨fun p hp => ?_, q.c⟩
          have g := (agains_ge r (a + 1) p hp).1
          have : p.1 ∈ op.dropLast ++ counts (a + 1) r := q.a.subset (List.mem_map.mpr ⟨p, hp, rfl⟩)
          rcases List.mem_append.mp this with hm | hm
          · have := hor _ hm
            right; right; right; exact ⟨this, by show a < p.2; omega⟩
          · have := counts_ge r (a + 1) _ hm
            left; show a < p.1; omega
        · by_cases e : x = a
          · subst e
            have := (open_len (a := x) (r := .agn n :: r) qa h2).length_eq
            simp only [List.length_map] at this
            omega
          · simp only [agains]
            rw [filter_later (by omega)]
            exact q.d x (by omega) (by simp only [List.length_cons] at hx2; omega)
      · intro q
        refine ⟨hpa.mp q.a, fun p hp => q.b p (by simp [agains, hp]), ?_, fun x hx hx2 => ?_⟩
        · have := q.c
          simp only [agains] at this
          exact (List.pairwise_cons.mp this).2
        · have := q.d x (by omega) (by simp only [List.length_cons]; omega)
          simp only [agains] at this
          rwa [filter_later (by omega)] at this
    · simp only [nest, hl, if_false, Option.isSome_none, Bool.false_eq_true, false_iff]
      intro q
      have hm : n - 1 ∈ op ++ counts a (.agn n :: r) := q.a.subset (by simp [agains])
      have ht : n - 1 < a := q.b (n - 1, a) (by simp [agains])
      have hm : n - 1 ∈ op := by
        rcases List.mem_append.mp hm with hm | hm
        · exact hm
        · have := counts_ge _ _ _ hm; omega
      obtain ⟨t, ht2⟩ : ∃ t, op.getLast? = some t := by
        cases e : op.getLast? with
        | none => rw [List.getLast?_eq_none_iff] at e; subst e; simp at hm
        | some t => exact ⟨t, rfl⟩
      have e := last_split ht2
      have hne : t ≠ n - 1 := fun z => hl (by rw [ht2, z])
      have hta : t < a := h2 t (by rw [e]; simp)
      have hlt : n - 1 < t := by
        rw [e] at h1 hm
        rcases List.mem_append.mp hm with hm | hm
        · exact (List.pairwise_append.mp h1).2.2 _ hm t (by simp)
        · simp at hm; omega
      have : t ∈ (agains a (.agn n :: r)).map (·.1) := q.a.symm.subset (by rw [List.mem_append]; left; rw [e]; simp)
      simp only [agains, List.map_cons, List.mem_cons] at this
      rcases this with z | this
      · exact hne z
      · obtain ⟨p, hp, hp1⟩ := List.mem_map.mp this
        have g := (agains_ge r (a + 1) p hp).1
        have := q.c
        simp only [agains] at this
        have := (List.pairwise_cons.mp this).1 p hp
        unfold apart at this
        simp only at this
        omega
/-- what nest tells is what stands open by the loops -/
theorem nest_is : ∀ (r : List RK) (a : Int) (op : List Int) (N : List (List Int)), op.Pairwise (· < ·) → (∀ x ∈ op, x < a) → op.length ≤ 2 → nest a op r = some N → N.length = r.length ∧ ∀ k : Nat, ∀ l, N[k]? = some l → ∀ x, x ∈ l ↔ x ∈ ((agains a r).filter (inR (a + k))).map (·.1)
  | [], a, op, N, _, _, _, h => by
    simp only [nest] at h
    split at h
    · cases h; simp
    · cases h
  | y :: r, a, op, N, h1, h2, h3, h => by
    have pc := (nest_iff (y :: r) a op h1 h2 h3).mp (by rw [h]; rfl)
    have key : ∀ op' N', N = op :: N' → op'.Pairwise (· < ·) → (∀ x ∈ op', x < a + 1) → op'.length ≤ 2 → nest (a + 1) op' r = some N' → (∀ x, a < x → (agains a (y :: r)).filter (inR x) = (agains (a + 1) r).filter (inR x)) → N.length = (y :: r).length ∧ ∀ k : Nat, ∀ l, N[k]? = some l → ∀ x, x ∈ l ↔ x ∈ ((agains a (y :: r)).filter (inR (a + k))).map (·.1) := by
      intro op' N' eN g1 g2 g3 g4 hf
      have ih := nest_is r (a + 1) op' N' g1 g2 g3 g4
      subst eN
      refine ⟨by simp [ih.1], fun k l hk x => ?_⟩
      cases k with
      | zero =>
        simp at hk; subst hk
        simpa using (open_len pc.a h2).mem_iff.symm
      | succ k =>
        have := ih.2 k l (by simpa using hk) x
        rw [this, show a + ((k + 1 : Nat) : Int) = a + 1 + (k : Int) by push_cast; omega, ← hf _ (by omega)]
    cases y with
    | oth =>
      simp only [nest, Option.map_eq_some_iff] at h
      obtain ⟨N', h, rfl⟩ := h
      exact key op N' rfl h1 (fun x hx => by have := h2 x hx; omega) h3 h (fun x hx => rfl)
    | cnt =>
      simp only [nest] at h
      split at h
      · rename_i hl
        obtain ⟨N', h', rfl⟩ := Option.map_eq_some_iff.mp h
        exact key (op ++ [a]) N' rfl (List.pairwise_append.mpr ⟨h1, by simp, by simpa using h2⟩) (fun x hx => by
          rcases List.mem_append.mp hx with hx | hx
          · have := h2 x hx; omega
          · simp at hx; omega) (by simp; omega) h' (fun x hx => rfl)
      · cases h
    | agn n =>
      simp only [nest] at h
      split at h
      · rename_i hl
        obtain ⟨N', h', rfl⟩ := Option.map_eq_some_iff.mp h
        have hs := List.dropLast_sublist op
        exact key op.dropLast N' rfl (h1.sublist hs) (fun x hx => by have := h2 x (hs.subset hx); omega) (by have := hs.length_le; omega) h' (fun x hx => filter_later hx)
      · cases h
end LM
set_option Elab.async false
set_option linter.all false
set_option maxRecDepth 100000
set_option maxHeartbeats 4000000
namespace DL
open PySem
/-! ### lists of ints, of pairs -/
theorem eqvAll_ints : ∀ xs ys : List Int, PyData.eqvAll (xs.map .int) (ys.map .int) = decide (xs = ys)
  | [], [] => by simp [PyData.eqvAll]
  | [], _ :: _ => by simp [PyData.eqvAll]
  | _ :: _, [] => by simp [PyData.eqvAll]
  | x :: xs, y :: ys => by
    simp only [List.map_cons, PyData.eqvAll, PyData.eqv, eqvAll_ints xs ys]
    by_cases h : x = y <;> simp [h]
theorem canLay_ints (xs : List Int) : PyData.canLayAll0 (xs.map .int) = true := by
  induction xs with
  | nil => simp [PyData.canLayAll0]
  | cons x r ih => simp [PyData.canLayAll0, PyData.canLay0, ih]
theorem depth_ints (xs : List Int) : PyData.depthAll (xs.map .int) = 0 := by
  induction xs with
  | nil => simp [PyData.depthAll]
  | cons x r ih => simp [PyData.depthAll, PyData.depth, ih]
theorem shaped_ints (xs : List Int) : SeqAt.shaped (.list (xs.map .int)) = true := by
  simp [SeqAt.shaped, PyData.canLay0, canLay_ints, PyData.depth, depth_ints]
theorem gEq_ints {neg : Bool} (xs ys : List Int) : gEq neg (.list (xs.map .int)) (.list (ys.map .int)) = some (.bool (if neg then !decide (xs = ys) else decide (xs = ys))) := by
  simp [gEq, shaped_ints, PyData.eqv, eqvAll_ints]
theorem pairsOf_map (l : List (Int × Int)) : pairsOf (l.map encII) = some l := by
  induction l with
  | nil => rfl
  | cons x r ih => simp [pairsOf, encII, ih]
theorem gSorted_pairs (l : List (Int × Int)) : gSorted [.d (.list (l.map encII))] = some (.list ((isort leII l).map encII)) := by
  cases l with
  | nil => rfl
  | cons x r =>
    have : intsOf ((x :: r).map encII) = none := rfl
    simp [gSorted, this, pairsOf_map]
    simp [intsOf, encII, pairsOf, pairsOf_map]
theorem gSorted_ints (l : List Int) : gSorted [.d (.list (l.map .int))] = some (.list ((isort leI l).map .int)) := by
  have := intsOf_map (fun x : Int => x) l
  simp at this
  simp [gSorted, this]
/-! ### sorting -/
section
variable {α : Type} {le : α → α → Bool}
theorem insS_perm (x : α) : ∀ l : List α, (insS le x l).Perm (x :: l)
  | [] => .refl _
  | y :: r => by
    unfold insS
    split
    · exact .refl _
    · exact ((insS_perm x r).cons y).trans (List.Perm.swap ..)
theorem isort_perm : ∀ l : List α, (isort le l).Perm l
  | [] => .refl _
  | x :: r => by
    unfold isort
    exact (insS_perm x _).trans ((isort_perm r).cons x)
theorem insS_sorted (tot : ∀ a b, le a b = true ∨ le b a = true) (tr : ∀ a b c, le a b = true → le b c = true → le a c = true) (x : α) : ∀ l : List α, l.Pairwise (fun a b => le a b = true) → (insS le x l).Pairwise (fun a b => le a b = true)
  | [], _ => by simp [insS]
  | y :: r, h => by
    obtain ⟨h1, h2⟩ := List.pairwise_cons.mp h
    unfold insS
    split
    · rename_i hxy
      exact List.pairwise_cons.mpr ⟨fun z hz => by
        rcases List.mem_cons.mp hz with rfl | hz
        · exact hxy
        · exact tr _ _ _ hxy (h1 z hz), h⟩
    · rename_i hxy
      have hyx : le y x = true := (tot x y).resolve_left hxy
      exact List.pairwise_cons.mpr ⟨fun z hz => by
        rcases List.mem_cons.mp ((insS_perm x r).subset hz) with rfl | hz
        · exact hyx
        · exact h1 z hz, insS_sorted tot tr x r h2⟩
theorem isort_sorted (tot : ∀ a b, le a b = true ∨ le b a = true) (tr : ∀ a b c, le a b = true → le b c = true → le a c = true) : ∀ l : List α, (isort le l).Pairwise (fun a b => le a b = true)
  | [] => .nil
  | x :: r => insS_sorted tot tr x _ (isort_sorted tot tr r)
/-- two sorted rows of the same things are one -/
theorem sorted_unique (an : ∀ a b, le a b = true → le b a = true → a = b) : ∀ l r : List α, l.Perm r → l.Pairwise (fun a b => le a b = true) → r.Pairwise (fun a b => le a b = true) → l = r
  | [], r, p, _, _ => p.nil_eq
  | x :: l, [], p, _, _ => p.eq_nil
  | x :: l, y :: r, p, h1, h2 => by
    obtain ⟨a1, a2⟩ := List.pairwise_cons.mp h1
    obtain ⟨b1, b2⟩ := List.pairwise_cons.mp h2
    have e : x = y := by
      have hx : x ∈ y :: r := p.subset (by simp)
      have hy : y ∈ x :: l := p.symm.subset (by simp)
      rcases List.mem_cons.mp hx with e | hx
      · exact e
      · rcases List.mem_cons.mp hy with e | hy
        · exact e.symm
        · exact an _ _ (a1 _ hy) (b1 _ hx)
    subst e
    rw [sorted_unique an l r ((List.perm_cons x).mp p) a2 b2]
end
theorem leI_tot (a b : Int) : leI a b = true ∨ leI b a = true := by simp [leI]; omega
theorem leI_tr (a b c : Int) : leI a b = true → leI b c = true → leI a c = true := by simp [leI]; omega
theorem leI_an (a b : Int) : leI a b = true → leI b a = true → a = b := by simp [leI]; omega
theorem leII_tot (a b : Int × Int) : leII a b = true ∨ leII b a = true := by simp [leII]; omega
theorem leII_tr (a b c : Int × Int) : leII a b = true → leII b c = true → leII a c = true := by simp [leII]; omega
theorem leII_an (a b : Int × Int) : leII a b = true → leII b a = true → a = b := by
  obtain ⟨a1, a2⟩ := a
  obtain ⟨b1, b2⟩ := b
  simp [leII]; omega
theorem isort_id {l : List Int} (h : l.Pairwise (· < ·)) : isort leI l = l :=
  sorted_unique leI_an _ _ (isort_perm l) (isort_sorted leI_tot leI_tr l) (h.imp fun h => by simp [leI]; omega)
theorem enumD_len : ∀ (ds : List PyData) (k : Nat), (enumD k ds).length = ds.length
  | [], _ => rfl
  | _ :: r, k => by simp [enumD, enumD_len r]
theorem enumD_mem : ∀ {ds : List PyData} {k : Nat} {d : PyData}, d ∈ enumD k ds → ∃ i x, d = .tuple [.int (i : Nat), x] ∧ x ∈ ds ∧ k ≤ i ∧ i < k + ds.length ∧ ds[i - k]? = some x
  | [], _, _, h => by simp [enumD] at h
  | x :: r, k, d, h => by
    simp only [enumD, List.mem_cons] at h
    rcases h with rfl | h
    · exact ⟨k, x, rfl, by simp, by omega, by simp, by simp⟩
    · obtain ⟨i, y, e, h1, h2, h3, h4⟩ := enumD_mem h
      refine ⟨i, y, e, by simp [h1], by omega, by simp; omega, ?_⟩
      rw [show i - k = (i - (k + 1)) + 1 by omega, List.getElem?_cons_succ]
      exact h4
theorem enumD_get2 : ∀ {ds : List PyData} {k i : Nat} {d : PyData}, (enumD k ds)[i]? = some d → ∃ x, ds[i]? = some x ∧ d = .tuple [.int ((k + i : Nat)), x]
  | [], _, _, _, h => by simp [enumD] at h
  | x :: r, k, 0, d, h => by
    simp [enumD] at h; subst h
    exact ⟨x, rfl, rfl⟩
  | x :: r, k, i + 1, d, h => by
    simp only [enumD, List.getElem?_cons_succ] at h
    obtain ⟨y, h1, h2⟩ := enumD_get2 h
    exact ⟨y, by simpa using h1, by rw [h2, show k + 1 + i = k + (i + 1) by omega]⟩
/-! ### comprehensions over typed rows -/
theorem lcL_pureT {α : Type} {g : List (Nat × List PyData)} {tg : DTg} {t : DTt} {el : DX} {S : List AV} {st : Sto} (enc : α → PyData) (p : α → Bool) (f : α → PyData) (hg : gOk g st = true) : ∀ (L : List α),
    (∀ a ∈ L, ∃ S', tg (.dat (enc a)) S st = some (S', st) ∧ t S' st = some (p a, st) ∧ (p a = true → el S' st = some (.dat (f a), st))) → lcL g tg t el S (L.map enc) st = some ((L.filter p).map f, st)
  | [], _ => by simp [lcL, hg]
  | d :: r, h => by
    obtain ⟨S', h1, h2, h3⟩ := h d (by simp)
    have ih := lcL_pureT enc p f hg r fun x hx => h x (by simp [hx])
    cases e : p d with
    | false => simp [lcL, hg, h1, h2, e, ih]
    | true => simp [lcL, hg, h1, h2, e, ih, h3 e]
theorem lcL_mapT {α : Type} {g : List (Nat × List PyData)} {tg : DTg} {el : DX} {S : List AV} {st : Sto} (enc : α → PyData) (f : α → PyData) (hg : gOk g st = true) (L : List α)
    (h : ∀ a ∈ L, ∃ S', tg (.dat (enc a)) S st = some (S', st) ∧ el S' st = some (.dat (f a), st)) : lcL g tg tYes el S (L.map enc) st = some (L.map f, st) := by
  have := lcL_pureT (t := tYes) enc (fun _ => true) f hg L fun d hd => by
    obtain ⟨S', h1, h2⟩ := h d hd
    exact ⟨S', h1, rfl, fun _ => h2⟩
  rwa [List.filter_eq_self.mpr (by simp)] at this
theorem gAll_map {α : Type} (f : α → Bool) (L : List α) : gAll [.d (.list (L.map fun a => .bool (f a)))] = some (.bool (L.all f)) := by
  rw [gAll_lst, blsOf_map, mp_some, List.all_map]; rfl
theorem rangeD_eq (n : Nat) : rangeD 0 n = (List.range n).map fun i => .int (i : Int) := by
  simp [rangeD]
theorem cutD_from {xs : List PyData} {k : Nat} : cutD xs (some (k : Int)) none = xs.drop k := by
  unfold cutD
  rw [HT.sIx_nat, HT.sIx_none]
  by_cases h : k ≤ xs.length
  · rw [Nat.min_eq_left h, List.take_of_length_le (by simp)]
  · rw [Nat.min_eq_right (by omega), Nat.sub_self, List.take_zero, List.drop_of_length_le (by omega)]
theorem cutD_till {xs : List PyData} {k : Nat} : cutD xs none (some (k : Int)) = xs.take k := by
  unfold cutD
  rw [HT.sIx_nat, HT.sIx_none]
  by_cases h : k ≤ xs.length
  · rw [Nat.min_eq_left h, List.drop_zero, Nat.sub_zero]
  · rw [Nat.min_eq_right (by omega), List.drop_zero, Nat.sub_zero, List.take_of_length_le (by omega), List.take_of_length_le (by omega)]
/-! ### loops that look at each and leave with False -/
def allFrom {α : Type} (ok : Nat → α → Bool) : Nat → List α → Bool
  | _, [] => true
  | k, r :: rs => ok k r && allFrom ok (k + 1) rs
theorem allFrom_iff {α : Type} {ok : Nat → α → Bool} : ∀ {l : List α} {k : Nat}, allFrom ok k l = true ↔ ∀ i a, l[i]? = some a → ok (k + i) a = true
  | [], k => by simp [allFrom]
  | r :: rs, k => by
    simp only [allFrom, Bool.and_eq_true, allFrom_iff (l := rs)]
    constructor
    · rintro ⟨h1, h2⟩ i a h
      cases i with
      | zero => simp at h; subst h; exact h1
      | succ i => rw [show k + (i + 1) = k + 1 + i by omega]; exact h2 i a (by simpa using h)
    · intro h
      exact ⟨h 0 r rfl, fun i a hi => by rw [show k + 1 + i = k + (i + 1) by omega]; exact h (i + 1) a (by simpa using hi)⟩
theorem forL_enum {α : Type} {g : List (Nat × List PyData)} {tg : DTg} {body : DSt} {st : Sto} (enc : α → PyData) (ok : Nat → α → Bool) (Fr : List AV → Prop) (hg : gOk g st = true) : ∀ (Rs : List α) (k : Nat) (S : List AV), Fr S →
    (∀ i r S, Rs[i]? = some r → Fr S → Ev (tg (.dat (.tuple [.int ((k + i : Nat) : Int), enc r])) S st) fun p => Ev (body p.1 p.2) fun q => q.2.2 = st ∧ if ok (k + i) r = true then q.1 = .nx ∧ Fr q.2.1 else q.1 = .rt (.bl false)) →
    Ev (forL g tg body (enumD k (Rs.map enc)) S st) fun q => q.2.2 = st ∧ if allFrom ok k Rs = true then q.1 = .nx ∧ Fr q.2.1 else q.1 = .rt (.bl false)
  | [], k, S, h, _ => by
    simp [enumD, forL, hg, allFrom, h]
  | r :: rs, k, S, h, hs => by
    obtain ⟨p, e1, q, e2, hq, h2⟩ := hs 0 r S rfl h
    obtain ⟨fl, S', st'⟩ := q
    simp only at hq
    subst hq
    rw [Nat.add_zero] at e1 h2
    simp only [List.map_cons, enumD, forL, hg, if_true, e1, Option.bind_some, e2]
    cases ho : ok k r with
    | false =>
      rw [ho] at h2
      simp at h2
      subst h2
      simp [allFrom, ho]
    | true =>
      rw [ho] at h2
      simp only [if_true] at h2
      obtain ⟨rfl, h2⟩ := h2
      have := forL_enum enc ok Fr hg rs (k + 1) S' h2 (fun i r S hi hF => by
        rw [show k + 1 + i = k + (i + 1) by omega]
        exact hs (i + 1) r S (by simpa using hi) hF)
      simpa [allFrom, ho] using this
theorem forL_each {α : Type} {g : List (Nat × List PyData)} {tg : DTg} {body : DSt} {st : Sto} (enc : α → PyData) (ok : α → Bool) (Fr : List AV → Prop) (hg : gOk g st = true) : ∀ (Rs : List α) (S : List AV), Fr S →
    (∀ r S, r ∈ Rs → Fr S → Ev (tg (.dat (enc r)) S st) fun p => Ev (body p.1 p.2) fun q => q.2.2 = st ∧ if ok r = true then q.1 = .nx ∧ Fr q.2.1 else q.1 = .rt (.bl false)) →
    Ev (forL g tg body (Rs.map enc) S st) fun q => q.2.2 = st ∧ if Rs.all ok = true then q.1 = .nx ∧ Fr q.2.1 else q.1 = .rt (.bl false)
  | [], S, h, _ => by
    simp [forL, hg, h]
  | r :: rs, S, h, hs => by
    obtain ⟨p, e1, q, e2, hq, h2⟩ := hs r S (by simp) h
    obtain ⟨fl, S', st'⟩ := q
    simp only at hq
    subst hq
    simp only [List.map_cons, forL, hg, if_true, e1, Option.bind_some, e2]
    cases ho : ok r with
    | false =>
      rw [ho] at h2
      simp at h2
      subst h2
      simp [ho]
    | true =>
      rw [ho] at h2
      simp only [if_true] at h2
      obtain ⟨rfl, h2⟩ := h2
      have := forL_each enc ok Fr hg rs S' h2 (fun r S hi hF => hs r S (by simp [hi]) hF)
      simpa [ho] using this
/-! ### places -/
theorem atI_nat {α : Type} (xs : List α) (k : Nat) : L2.atI xs (k : Int) = xs[k]? := by
  unfold L2.atI L2.ixN
  rw [if_pos (by omega)]
  by_cases h : k < xs.length
  · rw [if_pos (by omega)]; simp
  · rw [if_neg (by omega)]; simp; omega
theorem atI_pos {α : Type} (xs : List α) {i : Int} (h : 0 ≤ i) : L2.atI xs i = xs[i.toNat]? := by
  rw [← atI_nat, Int.toNat_of_nonneg h]
theorem atI_last {α : Type} (xs : List α) : L2.atI xs (-1) = xs.getLast? := by
  unfold L2.atI L2.ixN
  rw [if_neg (by omega)]
  cases xs with
  | nil => simp
  | cons x r =>
    rw [if_pos (by simp; omega), List.getLast?_eq_getElem?, Option.bind_some]
    congr 1
    simp only [List.length_cons]; omega
@[simp] theorem atI_0 {α : Type} (x : α) (r : List α) : L2.atI (x :: r) 0 = some x := by
  have := atI_nat (x :: r) 0; simpa using this
@[simp] theorem atI_1 {α : Type} (x y : α) (r : List α) : L2.atI (x :: y :: r) 1 = some y := by
  have := atI_nat (x :: y :: r) 1; simpa using this
@[simp] theorem atI_2 {α : Type} (x y z : α) (r : List α) : L2.atI (x :: y :: z :: r) 2 = some z := by
  have := atI_nat (x :: y :: z :: r) 2; simpa using this
@[simp] theorem atI_3 {α : Type} (x y z u : α) (r : List α) : L2.atI (x :: y :: z :: u :: r) 3 = some u := by
  have := atI_nat (x :: y :: z :: u :: r) 3; simpa using this
@[simp] theorem atI_4 {α : Type} (x y z u v : α) (r : List α) : L2.atI (x :: y :: z :: u :: v :: r) 4 = some v := by
  have := atI_nat (x :: y :: z :: u :: v :: r) 4; simpa using this
end DL
set_option Elab.async false
set_option linter.all false
set_option maxRecDepth 100000
set_option maxHeartbeats 4000000
namespace LW
open PySem PySem.Spec PyProof.Rows L2 DL
def top (i : Nat) : Stmt := PySem.Challenge.pw_pacewide_k10_codes_known.main.body.getD i (.Pass ⟨0, 0, 0, 0⟩)
def tab_FORMS : List (Str × PyData) := [("set", (.tuple [(.str "register"), (.str "worth")])), ("copy", (.tuple [(.str "register"), (.str "register")])), ("+", (.tuple [(.str "register"), (.str "register"), (.str "register")])), ("-", (.tuple [(.str "register"), (.str "register"), (.str "register")])), ("*", (.tuple [(.str "register"), (.str "register"), (.str "register")])), ("<", (.tuple [(.str "register"), (.str "register"), (.str "register")])), ("=", (.tuple [(.str "register"), (.str "register"), (.str "register")])), ("get", (.tuple [(.str "register"), (.str "array"), (.str "register")])), ("put", (.tuple [(.str "array"), (.str "register"), (.str "register")])), ("test", (.tuple [(.str "register"), (.str "row")])), ("go", (.tuple [(.str "row")])), ("count", (.tuple [(.str "rounds")])), ("again", (.tuple [(.str "row")])), ("rest", (.tuple [])), ("end", (.tuple []))]
structure Txt (K : Frag) (w : World) (mg : Str → Option Value) : Prop where
  c_ARRAY : GlobD K mg "ARRAY" (.dat (.str "array"))
  c_DEEPEST : GlobD K mg "DEEPEST" (.dat (.int 2))
  c_JUMPS : GlobD K mg "JUMPS" (.dat (.tuple [(.str "test"), (.str "go")]))
  c_MOST_ASKS : GlobD K mg "MOST_ASKS" (.dat (.int 3))
  c_MOST_MANY : GlobD K mg "MOST_MANY" (.dat (.int 16))
  c_MOST_ROUNDS : GlobD K mg "MOST_ROUNDS" (.dat (.int 6))
  c_MOST_ROWS : GlobD K mg "MOST_ROWS" (.dat (.int 60))
  c_MOST_SIZE : GlobD K mg "MOST_SIZE" (.dat (.int 6))
  c_MOST_WORTH : GlobD K mg "MOST_WORTH" (.dat (.int 255))
  c_REGISTER : GlobD K mg "REGISTER" (.dat (.str "register"))
  c_ROUNDS : GlobD K mg "ROUNDS" (.dat (.str "rounds"))
  c_ROW : GlobD K mg "ROW" (.dat (.str "row"))
  c_WORTH : GlobD K mg "WORTH" (.dat (.str "worth"))
  k_FORMS : KTab K w mg "FORMS" tab_FORMS
  n_abs : mg "abs" = none
  n_all : mg "all" = none
  n_bool : mg "bool" = none
  n_dict : mg "dict" = none
  n_enumerate : mg "enumerate" = none
  n_int : mg "int" = none
  n_isinstance : mg "isinstance" = none
  n_len : mg "len" = none
  n_list : mg "list" = none
  n_max : mg "max" = none
  n_min : mg "min" = none
  n_range : mg "range" = none
  n_repr : mg "repr" = none
  n_sorted : mg "sorted" = none
  n_str : mg "str" = none
  n_tuple : mg "tuple" = none
  n_zip : mg "zip" = none
/-! is_whole -/
abbrev s_is_whole : Stmt := top 16
theorem sc_is_whole : FnScope ["thing"] ["thing"] (defScope s_is_whole) := ⟨rfl, rfl, rfl, by decide +kernel, rfl, by decide +kernel, by decide +kernel⟩
def d_is_whole : DSt := (sRet (dAnd (dCallB gIsi (aCons (dVar 0) (aCons (dKv (.ty "int")) aNil))) (dNot (dCallB gIsi (aCons (dVar 0) (aCons (dKv (.ty "bool")) aNil))))))
def f_is_whole : DF := fnOf 1 1 d_is_whole
theorem o_is_whole {P : Program} {w : World} {K : Frag} {mg : Str → Option Value} {base : Heap} {f : Addr} {fd : FuncData} (T : Txt K w mg) (sm : SysM K) (F : FunD K "is_whole" "is_whole" (defArgs s_is_whole) (defBody s_is_whole) (defScope s_is_whole) [] [] f fd) (hg : mg "is_whole" = some (.ref f))  : SFn P w K mg base "is_whole" 1 f_is_whole :=
  own_F F hg sc_is_whole (fun _ _ _ _ _ _ us hl => match us, hl with | [_], _ => rfl) (by decide +kernel) sm fun cdv A outer s H E G R => (sb_one (ss_ret (se_and (se_callB cf_isi T.n_isinstance boot_isinstance (sa_cons (se_var 0) (sa_cons (se_type T.n_int boot_int) sa_nil))) (se_one (se_not (se_callB cf_isi T.n_isinstance boot_isinstance (sa_cons (se_var 0) (sa_cons (se_type T.n_bool boot_bool) sa_nil))))))))
/-! is_between -/
abbrev s_is_between : Stmt := top 17
theorem sc_is_between : FnScope ["thing", "least", "most"] ["thing", "least", "most"] (defScope s_is_between) := ⟨rfl, rfl, rfl, by decide +kernel, rfl, by decide +kernel, by decide +kernel⟩
def d_is_between : DSt := (sRet (dAnd (dCall f_is_whole (aCons (dVar 0) aNil)) (dChain gLe gLe (dVar 1) (dVar 0) (dVar 2))))
def f_is_between : DF := fnOf 3 3 d_is_between
theorem o_is_between {P : Program} {w : World} {K : Frag} {mg : Str → Option Value} {base : Heap} {f : Addr} {fd : FuncData} (T : Txt K w mg) (sm : SysM K) (F : FunD K "is_between" "is_between" (defArgs s_is_between) (defBody s_is_between) (defScope s_is_between) [] [] f fd) (hg : mg "is_between" = some (.ref f)) (o_is_whole : SFn P w K mg base "is_whole" 1 f_is_whole) : SFn P w K mg base "is_between" 2 f_is_between :=
  own_F F hg sc_is_between (fun _ _ _ _ _ _ us hl => match us, hl with | [_, _, _], _ => rfl) (by decide +kernel) sm fun cdv A outer s H E G R => (sb_one (ss_ret (se_and (se_call (OwnD.mono o_is_whole (by omega)) R (sa_cons (se_var 0) sa_nil)) (se_one (se_chain of_le of_le (se_var 1) (se_var 0) (se_var 2))))))
/-! is_span -/
abbrev s_is_span : Stmt := top 18
theorem sc_is_span : FnScope ["thing", "part"] ["thing"] (defScope s_is_span) := ⟨rfl, rfl, rfl, by decide +kernel, rfl, by decide +kernel, by decide +kernel⟩
def d_is_span_0 : DSt := (sIf (tOr (tNot (tOf (dCallB gIsi (aCons (dVar 0) (aCons (dKv (.ty "tuple")) aNil))))) (tOf (dBin (lift2 (gEq true)) (dCallB gLen (aCons (dVar 0) aNil)) (dK (.int 2))))) (sRet (dK (.bool false))) sNil)
def d_is_span_1 : DSt := (sRet (dAnd (dCallB gAll (aCons (dLc (dSeqI (dVar 0)) [1] (gName 1) tYes (dCall f_is_between (aCons (dVar 1) (aCons (dK (.int 0)) (aCons (dK (.int 255)) aNil))))) aNil)) (dBin (lift2 gLe) (dIxA (dVar 0) (dK (.int 0))) (dIxA (dVar 0) (dK (.int 1))))))
def d_is_span : DSt := (sSeq d_is_span_0 d_is_span_1)
def f_is_span : DF := fnOf 1 2 d_is_span
theorem o_is_span {P : Program} {w : World} {K : Frag} {mg : Str → Option Value} {base : Heap} {f : Addr} {fd : FuncData} (T : Txt K w mg) (sm : SysM K) (F : FunD K "is_span" "is_span" (defArgs s_is_span) (defBody s_is_span) (defScope s_is_span) [] [] f fd) (hg : mg "is_span" = some (.ref f)) (o_is_between : SFn P w K mg base "is_between" 2 f_is_between) : SFn P w K mg base "is_span" 3 f_is_span :=
  own_F F hg sc_is_span (fun _ _ _ _ _ _ us hl => match us, hl with | [_], _ => rfl) (by decide +kernel) sm fun cdv A outer s H E G R => (sb_cons (ss_if (st_bool (sw_or (st_not (st_val (se_callB cf_isi T.n_isinstance boot_isinstance (sa_cons (se_var 0) (sa_cons (se_type T.n_tuple boot_tuple) sa_nil))))) (sw_or1 (st_cmp (of_ne G.sm G.hu) (se_callB cf_len T.n_len boot_len (sa_cons (se_var 0) sa_nil)) se_int)))) (sb_one (ss_ret se_bl)) sb_nil)
    (sb_one (ss_ret (se_and (se_callB (cf_all G.hc) T.n_all boot_all (sa_cons (se_lc [("part", 1)] G.hc G.hN (by rfl) (si_seq (se_var 0)) (fun _ _ _ _ _ => (sg_name 1 G.hN)) (fun _ _ _ _ _ => sts_nil) (fun _ _ _ _ _ => (se_call (OwnD.mono o_is_between (by omega)) R (sa_cons (se_var 1) (sa_cons se_int (sa_cons (se_glob T.c_MOST_WORTH) sa_nil)))))) sa_nil)) (se_one (se_cmp of_le (se_ixA G.hu (se_var 0) se_int) (se_ixA G.hu (se_var 0) se_int)))))))
/-! limits_of -/
abbrev s_limits_of : Stmt := top 19
theorem sc_limits_of : FnScope ["many", "arrays", "rows"] ["many", "arrays", "rows"] (defScope s_limits_of) := ⟨rfl, rfl, rfl, by decide +kernel, rfl, by decide +kernel, by decide +kernel⟩
def d_limits_of : DSt := (sRet (dDisp (pCons (dK (.str "register")) (dTup (aCons (dK (.int 0)) (aCons (dBin (lift2 gSub) (dVar 0) (dK (.int 1))) aNil))) (pCons (dK (.str "worth")) (dTup (aCons (dK (.int 0)) (aCons (dK (.int 255)) aNil))) (pCons (dK (.str "array")) (dTup (aCons (dK (.int 0)) (aCons (dBin (lift2 gSub) (dCallB gLen (aCons (dVar 1) aNil)) (dK (.int 1))) aNil))) (pCons (dK (.str "row")) (dTup (aCons (dK (.int 0)) (aCons (dBin (lift2 gSub) (dCallB gLen (aCons (dVar 2) aNil)) (dK (.int 1))) aNil))) (pCons (dK (.str "rounds")) (dTup (aCons (dK (.int 1)) (aCons (dK (.int 6)) aNil))) pNil)))))))
def f_limits_of : DF := fnOf 3 3 d_limits_of
theorem o_limits_of {P : Program} {w : World} {K : Frag} {mg : Str → Option Value} {base : Heap} {f : Addr} {fd : FuncData} (T : Txt K w mg) (sm : SysM K) (F : FunD K "limits_of" "limits_of" (defArgs s_limits_of) (defBody s_limits_of) (defScope s_limits_of) [] [] f fd) (hg : mg "limits_of" = some (.ref f))  : SFn P w K mg base "limits_of" 1 f_limits_of :=
  own_F F hg sc_limits_of (fun _ _ _ _ _ _ us hl => match us, hl with | [_, _, _], _ => rfl) (by decide +kernel) sm fun cdv A outer s H E G R => (sb_one (ss_ret (se_disp (pps_cons pe_w pe_w (pps_cons pe_w pe_w (pps_cons pe_w pe_w (pps_cons pe_w pe_w (pps_cons pe_w pe_w pps_nil))))) (sps_cons (se_glob T.c_REGISTER) (se_tup (sa_cons se_int (sa_cons (se_bin of_sub (se_var 0) se_int) sa_nil))) (sps_cons (se_glob T.c_WORTH) (se_tup (sa_cons se_int (sa_cons (se_glob T.c_MOST_WORTH) sa_nil))) (sps_cons (se_glob T.c_ARRAY) (se_tup (sa_cons se_int (sa_cons (se_bin of_sub (se_callB cf_len T.n_len boot_len (sa_cons (se_var 1) sa_nil)) se_int) sa_nil))) (sps_cons (se_glob T.c_ROW) (se_tup (sa_cons se_int (sa_cons (se_bin of_sub (se_callB cf_len T.n_len boot_len (sa_cons (se_var 2) sa_nil)) se_int) sa_nil))) (sps_cons (se_glob T.c_ROUNDS) (se_tup (sa_cons se_int (sa_cons (se_glob T.c_MOST_ROUNDS) sa_nil))) sps_nil))))))))
/-! is_part -/
abbrev s_is_part : Stmt := top 20
theorem sc_is_part : FnScope ["limits", "kind", "thing", "least", "most"] ["limits", "kind", "thing"] (defScope s_is_part) := ⟨rfl, rfl, rfl, by decide +kernel, rfl, by decide +kernel, by decide +kernel⟩
def d_is_part_0 : DSt := (sAsg (gTup 2 (DL.gCons (gName 3) (DL.gCons (gName 4) gNil))) (dIxA (dVar 0) (dVar 1)))
def d_is_part_1 : DSt := (sRet (dCall f_is_between (aCons (dVar 2) (aCons (dVar 3) (aCons (dVar 4) aNil)))))
def d_is_part : DSt := (sSeq d_is_part_0 d_is_part_1)
def f_is_part : DF := fnOf 3 5 d_is_part
theorem o_is_part {P : Program} {w : World} {K : Frag} {mg : Str → Option Value} {base : Heap} {f : Addr} {fd : FuncData} (T : Txt K w mg) (sm : SysM K) (F : FunD K "is_part" "is_part" (defArgs s_is_part) (defBody s_is_part) (defScope s_is_part) [] [] f fd) (hg : mg "is_part" = some (.ref f)) (o_is_between : SFn P w K mg base "is_between" 2 f_is_between) : SFn P w K mg base "is_part" 3 f_is_part :=
  own_F F hg sc_is_part (fun _ _ _ _ _ _ us hl => match us, hl with | [_, _, _], _ => rfl) (by decide +kernel) sm fun cdv A outer s H E G R => (sb_cons (ss_asg (se_ixA G.hu (se_var 0) (se_var 1)) (sg_tup G.hc (sgs_cons (sg_name 3 G.hN) (sgs_cons (sg_name 4 G.hN) sgs_nil))))
    (sb_one (ss_ret (se_call (OwnD.mono o_is_between (by omega)) R (sa_cons (se_var 2) (sa_cons (se_var 3) (sa_cons (se_var 4) sa_nil)))))))
/-! is_row_within -/
abbrev s_is_row_within : Stmt := top 21
theorem sc_is_row_within : FnScope ["limits", "thing", "word", "parts", "kinds", "part", "kind"] ["limits", "thing"] (defScope s_is_row_within) := ⟨rfl, rfl, rfl, by decide +kernel, rfl, by decide +kernel, by decide +kernel⟩
def d_is_row_within_0 : DSt := (sIf (tOr (tNot (tOf (dCallB gIsi (aCons (dVar 1) (aCons (dKv (.ty "tuple")) aNil))))) (tOr (tOf (dBin (lift2 (gEq false)) (dCallB gLen (aCons (dVar 1) aNil)) (dK (.int 0)))) (tOr (tNot (tOf (dCallB gIsi (aCons (dIxA (dVar 1) (dK (.int 0))) (aCons (dKv (.ty "str")) aNil))))) (tOf (dInK tab_FORMS true (dIxA (dVar 1) (dK (.int 0)))))))) (sRet (dK (.bool false))) sNil)
def d_is_row_within_1 : DSt := (sAsg (gStarF 1 (DL.gCons (gName 2) (DL.gCons (gName 3) gNil))) (dVar 1))
def d_is_row_within_2 : DSt := (sSet 4 (dIxK tab_FORMS (dVar 2)))
def d_is_row_within_3 : DSt := (sIf (tOf (dBin (lift2 (gEq true)) (dCallB gLen (aCons (dVar 3) aNil)) (dCallB gLen (aCons (dVar 4) aNil)))) (sRet (dK (.bool false))) sNil)
def d_is_row_within_4 : DSt := (sRet (dCallB gAll (aCons (dLc (dZip (aCons (dVar 3) (aCons (dVar 4) aNil))) [5, 6] (gTup 2 (DL.gCons (gName 5) (DL.gCons (gName 6) gNil))) tYes (dCall f_is_part (aCons (dVar 0) (aCons (dVar 6) (aCons (dVar 5) aNil))))) aNil)))
def d_is_row_within : DSt := (sSeq d_is_row_within_0 (sSeq d_is_row_within_1 (sSeq d_is_row_within_2 (sSeq d_is_row_within_3 d_is_row_within_4))))
def f_is_row_within : DF := fnOf 2 7 d_is_row_within
theorem o_is_row_within {P : Program} {w : World} {K : Frag} {mg : Str → Option Value} {base : Heap} {f : Addr} {fd : FuncData} (T : Txt K w mg) (sm : SysM K) (F : FunD K "is_row_within" "is_row_within" (defArgs s_is_row_within) (defBody s_is_row_within) (defScope s_is_row_within) [] [] f fd) (hg : mg "is_row_within" = some (.ref f)) (o_is_part : SFn P w K mg base "is_part" 3 f_is_part) : SFn P w K mg base "is_row_within" 4 f_is_row_within :=
  own_F F hg sc_is_row_within (fun _ _ _ _ _ _ us hl => match us, hl with | [_, _], _ => rfl) (by decide +kernel) sm fun cdv A outer s H E G R => (sb_cons (ss_if (st_bool (sw_or (st_not (st_val (se_callB cf_isi T.n_isinstance boot_isinstance (sa_cons (se_var 1) (sa_cons (se_type T.n_tuple boot_tuple) sa_nil))))) (sw_or (st_cmp (of_eq G.sm G.hu) (se_callB cf_len T.n_len boot_len (sa_cons (se_var 1) sa_nil)) se_int) (sw_or (st_not (st_val (se_callB cf_isi T.n_isinstance boot_isinstance (sa_cons (se_ixA G.hu (se_var 1) se_int) (sa_cons (se_type T.n_str boot_str) sa_nil))))) (sw_or1 (st_notinK T.k_FORMS (se_ixA G.hu (se_var 1) se_int))))))) (sb_one (ss_ret se_bl)) sb_nil)
    (sb_cons (ss_asg (se_var 1) (sg_star 1 G.hc (sgs_cons (sg_name 2 G.hN) (sgs_star (sg_name 3 G.hN) sgs_nil))))
    (sb_cons (ss_set 4 G.hN (se_ixK T.k_FORMS (se_var 2)))
    (sb_cons (ss_if (st_cmp (of_ne G.sm G.hu) (se_callB cf_len T.n_len boot_len (sa_cons (se_var 3) sa_nil)) (se_callB cf_len T.n_len boot_len (sa_cons (se_var 4) sa_nil))) (sb_one (ss_ret se_bl)) sb_nil)
    (sb_one (ss_ret (se_callB (cf_all G.hc) T.n_all boot_all (sa_cons (se_lc [("part", 5), ("kind", 6)] G.hc G.hN (by rfl) (si_zip T.n_zip (sa_cons (se_var 3) (sa_cons (se_var 4) sa_nil))) (fun _ _ _ _ _ => (sg_tup G.hc (sgs_cons (sg_name 5 G.hN) (sgs_cons (sg_name 6 G.hN) sgs_nil)))) (fun _ _ _ _ _ => sts_nil) (fun _ _ _ _ _ => (se_call (OwnD.mono o_is_part (by omega)) R (sa_cons (se_var 0) (sa_cons (se_var 6) (sa_cons (se_var 5) sa_nil)))))) sa_nil))))))))
/-! loops_by -/
abbrev s_loops_by : Stmt := top 22
theorem sc_loops_by : FnScope ["rows", "at", "row"] ["rows"] (defScope s_loops_by) := ⟨rfl, rfl, rfl, by decide +kernel, rfl, by decide +kernel, by decide +kernel⟩
def d_loops_by : DSt := (sRet (dCallB gSorted (aCons (dLc (dEnum (aCons (dVar 0) aNil)) [1, 2] (gTup 2 (DL.gCons (gName 1) (DL.gCons (gName 2) gNil))) (tOf (dBin (lift2 (gEq false)) (dIxA (dVar 2) (dK (.int 0))) (dK (.str "again")))) (dTup (aCons (dBin (lift2 gSub) (dIxA (dVar 2) (dK (.int 1))) (dK (.int 1))) (aCons (dVar 1) aNil)))) aNil)))
def f_loops_by : DF := fnOf 1 3 d_loops_by
theorem o_loops_by {P : Program} {w : World} {K : Frag} {mg : Str → Option Value} {base : Heap} {f : Addr} {fd : FuncData} (T : Txt K w mg) (sm : SysM K) (F : FunD K "loops_by" "loops_by" (defArgs s_loops_by) (defBody s_loops_by) (defScope s_loops_by) [] [] f fd) (hg : mg "loops_by" = some (.ref f))  : SFn P w K mg base "loops_by" 1 f_loops_by :=
  own_F F hg sc_loops_by (fun _ _ _ _ _ _ us hl => match us, hl with | [_], _ => rfl) (by decide +kernel) sm fun cdv A outer s H E G R => (sb_one (ss_ret (se_callB (cf_sorted G.sm G.hu) T.n_sorted boot_sorted (sa_cons (se_lc [("at", 1), ("row", 2)] G.hc G.hN (by rfl) (si_enum T.n_enumerate (sa_cons (se_var 0) sa_nil)) (fun _ _ _ _ _ => (sg_tup G.hc (sgs_cons (sg_name 1 G.hN) (sgs_cons (sg_name 2 G.hN) sgs_nil)))) (fun _ _ _ _ _ => (sts_one (st_cmp (of_eq G.sm G.hu) (se_ixA G.hu (se_var 2) se_int) se_str))) (fun _ _ _ _ _ => (se_tup (sa_cons (se_bin of_sub (se_ixA G.hu (se_var 2) se_int) se_int) (sa_cons (se_var 1) sa_nil))))) sa_nil))))
/-! around_by -/
abbrev s_around_by : Stmt := top 23
theorem sc_around_by : FnScope ["loops", "row", "first", "last"] ["loops", "row"] (defScope s_around_by) := ⟨rfl, rfl, rfl, by decide +kernel, rfl, by decide +kernel, by decide +kernel⟩
def d_around_by : DSt := (sRet (dLc (dSeqI (dVar 0)) [2, 3] (gTup 2 (DL.gCons (gName 2) (DL.gCons (gName 3) gNil))) (tOf (dChain gLt gLe (dVar 2) (dVar 1) (dVar 3))) (dVar 2)))
def f_around_by : DF := fnOf 2 4 d_around_by
theorem o_around_by {P : Program} {w : World} {K : Frag} {mg : Str → Option Value} {base : Heap} {f : Addr} {fd : FuncData} (T : Txt K w mg) (sm : SysM K) (F : FunD K "around_by" "around_by" (defArgs s_around_by) (defBody s_around_by) (defScope s_around_by) [] [] f fd) (hg : mg "around_by" = some (.ref f))  : SFn P w K mg base "around_by" 1 f_around_by :=
  own_F F hg sc_around_by (fun _ _ _ _ _ _ us hl => match us, hl with | [_, _], _ => rfl) (by decide +kernel) sm fun cdv A outer s H E G R => (sb_one (ss_ret (se_lc [("first", 2), ("last", 3)] G.hc G.hN (by rfl) (si_seq (se_var 0)) (fun _ _ _ _ _ => (sg_tup G.hc (sgs_cons (sg_name 2 G.hN) (sgs_cons (sg_name 3 G.hN) sgs_nil)))) (fun _ _ _ _ _ => (sts_one (st_chain of_lt of_le (se_var 2) (se_var 1) (se_var 3)))) (fun _ _ _ _ _ => (se_var 2)))))
/-! is_apart -/
abbrev s_is_apart : Stmt := top 24
theorem sc_is_apart : FnScope ["one", "other", "first", "last", "begin", "end"] ["one", "other"] (defScope s_is_apart) := ⟨rfl, rfl, rfl, by decide +kernel, rfl, by decide +kernel, by decide +kernel⟩
def d_is_apart_0 : DSt := (sAsg (gTup 2 (DL.gCons (gTup 2 (DL.gCons (gName 2) (DL.gCons (gName 3) gNil))) (DL.gCons (gTup 2 (DL.gCons (gName 4) (DL.gCons (gName 5) gNil))) gNil))) (dCallB gSorted (aCons (dLst (aCons (dVar 0) (aCons (dVar 1) aNil))) aNil)))
def d_is_apart_1 : DSt := (sRet (dOr (dBin (lift2 gLt) (dVar 3) (dVar 4)) (dAnd (dBin (lift2 gLt) (dVar 2) (dVar 4)) (dBin (lift2 gLt) (dVar 5) (dVar 3)))))
def d_is_apart : DSt := (sSeq d_is_apart_0 d_is_apart_1)
def f_is_apart : DF := fnOf 2 6 d_is_apart
theorem o_is_apart {P : Program} {w : World} {K : Frag} {mg : Str → Option Value} {base : Heap} {f : Addr} {fd : FuncData} (T : Txt K w mg) (sm : SysM K) (F : FunD K "is_apart" "is_apart" (defArgs s_is_apart) (defBody s_is_apart) (defScope s_is_apart) [] [] f fd) (hg : mg "is_apart" = some (.ref f))  : SFn P w K mg base "is_apart" 1 f_is_apart :=
  own_F F hg sc_is_apart (fun _ _ _ _ _ _ us hl => match us, hl with | [_, _], _ => rfl) (by decide +kernel) sm fun cdv A outer s H E G R => (sb_cons (ss_asg (se_callB (cf_sorted G.sm G.hu) T.n_sorted boot_sorted (sa_cons (se_lst (sa_cons (se_var 0) (sa_cons (se_var 1) sa_nil))) sa_nil)) (sg_tup G.hc (sgs_cons (sg_tup G.hc (sgs_cons (sg_name 2 G.hN) (sgs_cons (sg_name 3 G.hN) sgs_nil))) (sgs_cons (sg_tup G.hc (sgs_cons (sg_name 4 G.hN) (sgs_cons (sg_name 5 G.hN) sgs_nil))) sgs_nil))))
    (sb_one (ss_ret (se_or (se_cmp of_lt (se_var 3) (se_var 4)) (se_one (se_and (se_cmp of_lt (se_var 2) (se_var 4)) (se_one (se_cmp of_lt (se_var 5) (se_var 3)))))))))
/-! are_loops -/
abbrev s_are_loops : Stmt := top 25
theorem sc_are_loops : FnScope ["rows", "loops", "counts", "at", "one", "row", "first", "last", "other"] ["rows", "loops"] (defScope s_are_loops) := ⟨rfl, rfl, rfl, by decide +kernel, rfl, by decide +kernel, by decide +kernel⟩
def b_are_loops_1 : DSt := (sIf (tNot (tOf (dCallB gAll (aCons (dLc (dSeqI (dSlL (dVar 1) (dBin (lift2 gAdd) (dVar 3) (dK (.int 1))))) [8] (gName 8) tYes (dCall f_is_apart (aCons (dVar 4) (aCons (dVar 8) aNil)))) aNil)))) (sRet (dK (.bool false))) sNil)
def d_are_loops_0 : DSt := (sSet 2 (dLc (dEnum (aCons (dVar 0) aNil)) [3, 5] (gTup 2 (DL.gCons (gName 3) (DL.gCons (gName 5) gNil))) (tOf (dBin (lift2 (gEq false)) (dIxA (dVar 5) (dK (.int 0))) (dK (.str "count")))) (dVar 3)))
def d_are_loops_1 : DSt := (sIf (tOr (tOf (dBin (lift2 (gEq true)) (dCallB gSorted (aCons (dVar 2) aNil)) (dLc (dSeqI (dVar 1)) [6, 7] (gTup 2 (DL.gCons (gName 6) (DL.gCons (gName 7) gNil))) tYes (dVar 6)))) (tNot (tOf (dCallB gAll (aCons (dLc (dSeqI (dVar 1)) [6, 7] (gTup 2 (DL.gCons (gName 6) (DL.gCons (gName 7) gNil))) tYes (dBin (lift2 gLt) (dVar 6) (dVar 7))) aNil))))) (sRet (dK (.bool false))) sNil)
def d_are_loops_2 : DSt := (sFor (dEnum (aCons (dVar 1) aNil)) (gTup 2 (DL.gCons (gName 3) (DL.gCons (gName 4) gNil))) b_are_loops_1)
def d_are_loops_3 : DSt := (sRet (dCallB gAll (aCons (dLc (dRange1 (aCons (dCallB gLen (aCons (dVar 0) aNil)) aNil)) [5] (gName 5) tYes (dBin (lift2 gLe) (dCallB gLen (aCons (dCall f_around_by (aCons (dVar 1) (aCons (dVar 5) aNil))) aNil)) (dK (.int 2)))) aNil)))
def d_are_loops : DSt := (sSeq d_are_loops_0 (sSeq d_are_loops_1 (sSeq d_are_loops_2 d_are_loops_3)))
def f_are_loops : DF := fnOf 2 9 d_are_loops
theorem o_are_loops {P : Program} {w : World} {K : Frag} {mg : Str → Option Value} {base : Heap} {f : Addr} {fd : FuncData} (T : Txt K w mg) (sm : SysM K) (F : FunD K "are_loops" "are_loops" (defArgs s_are_loops) (defBody s_are_loops) (defScope s_are_loops) [] [] f fd) (hg : mg "are_loops" = some (.ref f)) (o_is_apart : SFn P w K mg base "is_apart" 1 f_is_apart) (o_around_by : SFn P w K mg base "around_by" 1 f_around_by) : SFn P w K mg base "are_loops" 2 f_are_loops :=
  own_F F hg sc_are_loops (fun _ _ _ _ _ _ us hl => match us, hl with | [_, _], _ => rfl) (by decide +kernel) sm fun cdv A outer s H E G R => (sb_cons (ss_setLc 2 [("at", 3), ("row", 5)] G.hc G.hN (by rfl) (si_enum T.n_enumerate (sa_cons (se_var 0) sa_nil)) (fun _ _ _ _ _ => (sg_tup G.hc (sgs_cons (sg_name 3 G.hN) (sgs_cons (sg_name 5 G.hN) sgs_nil)))) (fun _ _ _ _ _ => (sts_one (st_cmp (of_eq G.sm G.hu) (se_ixA G.hu (se_var 5) se_int) se_str))) (fun _ _ _ _ _ => (se_var 3)))
    (sb_cons (ss_if (st_bool (sw_or (st_cmp (of_ne G.sm G.hu) (se_callB (cf_sorted G.sm G.hu) T.n_sorted boot_sorted (sa_cons (se_var 2) sa_nil)) (se_lc [("first", 6), ("last", 7)] G.hc G.hN (by rfl) (si_seq (se_var 1)) (fun _ _ _ _ _ => (sg_tup G.hc (sgs_cons (sg_name 6 G.hN) (sgs_cons (sg_name 7 G.hN) sgs_nil)))) (fun _ _ _ _ _ => sts_nil) (fun _ _ _ _ _ => (se_var 6)))) (sw_or1 (st_not (st_val (se_callB (cf_all G.hc) T.n_all boot_all (sa_cons (se_lc [("first", 6), ("last", 7)] G.hc G.hN (by rfl) (si_seq (se_var 1)) (fun _ _ _ _ _ => (sg_tup G.hc (sgs_cons (sg_name 6 G.hN) (sgs_cons (sg_name 7 G.hN) sgs_nil)))) (fun _ _ _ _ _ => sts_nil) (fun _ _ _ _ _ => (se_cmp of_lt (se_var 6) (se_var 7)))) sa_nil))))))) (sb_one (ss_ret se_bl)) sb_nil)
    (sb_cons (ss_for G.po G.hc (si_enum T.n_enumerate (sa_cons (se_var 1) sa_nil)) (sg_tup G.hc (sgs_cons (sg_name 3 G.hN) (sgs_cons (sg_name 4 G.hN) sgs_nil))) (sb_one (ss_if (st_not (st_val (se_callB (cf_all G.hc) T.n_all boot_all (sa_cons (se_lc [("other", 8)] G.hc G.hN (by rfl) (si_seq (se_slL (se_var 1) (se_bin of_add (se_var 3) se_int))) (fun _ _ _ _ _ => (sg_name 8 G.hN)) (fun _ _ _ _ _ => sts_nil) (fun _ _ _ _ _ => (se_call (OwnD.mono o_is_apart (by omega)) R (sa_cons (se_var 4) (sa_cons (se_var 8) sa_nil))))) sa_nil)))) (sb_one (ss_ret se_bl)) sb_nil)))
    (sb_one (ss_ret (se_callB (cf_all G.hc) T.n_all boot_all (sa_cons (se_lc [("row", 5)] G.hc G.hN (by rfl) (si_range1 T.n_range (sa_cons (se_callB cf_len T.n_len boot_len (sa_cons (se_var 0) sa_nil)) sa_nil)) (fun _ _ _ _ _ => (sg_name 5 G.hN)) (fun _ _ _ _ _ => sts_nil) (fun _ _ _ _ _ => (se_cmp of_le (se_callB cf_len T.n_len boot_len (sa_cons (se_call (OwnD.mono o_around_by (by omega)) R (sa_cons (se_var 1) (sa_cons (se_var 5) sa_nil))) sa_nil)) (se_glob T.c_DEEPEST)))) sa_nil)))))))
/-! are_jumps -/
abbrev s_are_jumps : Stmt := top 26
theorem sc_are_jumps : FnScope ["rows", "loops", "at", "row", "here", "first"] ["rows", "loops"] (defScope s_are_jumps) := ⟨rfl, rfl, rfl, by decide +kernel, rfl, by decide +kernel, by decide +kernel⟩
def b_are_jumps_1 : DSt := (sIf (tOf (dInA false (dIxA (dVar 3) (dK (.int 0))) (dK (.tuple [(.str "test"), (.str "go")])))) (sSeq (sSet 4 (dCall f_around_by (aCons (dVar 1) (aCons (dVar 2) aNil))))
    (sIf (tOr (tOf (dBin (lift2 gLe) (dIxA (dVar 3) (dNeg (dK (.int 1)))) (dVar 2))) (tNot (tOf (dCallB gAll (aCons (dLc (dSeqI (dCall f_around_by (aCons (dVar 1) (aCons (dIxA (dVar 3) (dNeg (dK (.int 1)))) aNil)))) [5] (gName 5) tYes (dInA false (dVar 5) (dVar 4))) aNil))))) (sRet (dK (.bool false))) sNil)) sNil)
def d_are_jumps_0 : DSt := (sFor (dEnum (aCons (dVar 0) aNil)) (gTup 2 (DL.gCons (gName 2) (DL.gCons (gName 3) gNil))) b_are_jumps_1)
def d_are_jumps_1 : DSt := (sRet (dK (.bool true)))
def d_are_jumps : DSt := (sSeq d_are_jumps_0 d_are_jumps_1)
def f_are_jumps : DF := fnOf 2 6 d_are_jumps
theorem o_are_jumps {P : Program} {w : World} {K : Frag} {mg : Str → Option Value} {base : Heap} {f : Addr} {fd : FuncData} (T : Txt K w mg) (sm : SysM K) (F : FunD K "are_jumps" "are_jumps" (defArgs s_are_jumps) (defBody s_are_jumps) (defScope s_are_jumps) [] [] f fd) (hg : mg "are_jumps" = some (.ref f)) (o_around_by : SFn P w K mg base "around_by" 1 f_around_by) : SFn P w K mg base "are_jumps" 2 f_are_jumps :=
  own_F F hg sc_are_jumps (fun _ _ _ _ _ _ us hl => match us, hl with | [_, _], _ => rfl) (by decide +kernel) sm fun cdv A outer s H E G R => (sb_cons (ss_for G.po G.hc (si_enum T.n_enumerate (sa_cons (se_var 0) sa_nil)) (sg_tup G.hc (sgs_cons (sg_name 2 G.hN) (sgs_cons (sg_name 3 G.hN) sgs_nil))) (sb_one (ss_if (st_inA G.hu (se_ixA G.hu (se_var 3) se_int) (se_glob T.c_JUMPS)) (sb_cons (ss_set 4 G.hN (se_call (OwnD.mono o_around_by (by omega)) R (sa_cons (se_var 1) (sa_cons (se_var 2) sa_nil))))
    (sb_one (ss_if (st_bool (sw_or (st_cmp of_le (se_ixA G.hu (se_var 3) (se_neg se_int)) (se_var 2)) (sw_or1 (st_not (st_val (se_callB (cf_all G.hc) T.n_all boot_all (sa_cons (se_lc [("first", 5)] G.hc G.hN (by rfl) (si_seq (se_call (OwnD.mono o_around_by (by omega)) R (sa_cons (se_var 1) (sa_cons (se_ixA G.hu (se_var 3) (se_neg se_int)) sa_nil)))) (fun _ _ _ _ _ => (sg_name 5 G.hN)) (fun _ _ _ _ _ => sts_nil) (fun _ _ _ _ _ => (se_inA G.hu (se_var 5) (se_var 4)))) sa_nil))))))) (sb_one (ss_ret se_bl)) sb_nil))) sb_nil)))
    (sb_one (ss_ret se_bl)))
/-! are_rows -/
abbrev s_are_rows : Stmt := top 27
theorem sc_are_rows : FnScope ["limits", "rows", "loops", "at", "row"] ["limits", "rows"] (defScope s_are_rows) := ⟨rfl, rfl, rfl, by decide +kernel, rfl, by decide +kernel, by decide +kernel⟩
def d_are_rows_0 : DSt := (sIf (tOr (tNot (tOf (dCallB gIsi (aCons (dVar 1) (aCons (dKv (.ty "tuple")) aNil))))) (tNot (tOf (dChain gLe gLe (dK (.int 1)) (dCallB gLen (aCons (dVar 1) aNil)) (dK (.int 60)))))) (sRet (dK (.bool false))) sNil)
def d_are_rows_1 : DSt := (sIf (tNot (tOf (dCallB gAll (aCons (dLc (dSeqI (dVar 1)) [4] (gName 4) tYes (dCall f_is_row_within (aCons (dVar 0) (aCons (dVar 4) aNil)))) aNil)))) (sRet (dK (.bool false))) sNil)
def d_are_rows_2 : DSt := (sIf (tOf (dBin (lift2 (gEq true)) (dLc (dEnum (aCons (dVar 1) aNil)) [3, 4] (gTup 2 (DL.gCons (gName 3) (DL.gCons (gName 4) gNil))) (tOf (dBin (lift2 (gEq false)) (dIxA (dVar 4) (dK (.int 0))) (dK (.str "end")))) (dVar 3)) (dLst (aCons (dBin (lift2 gSub) (dCallB gLen (aCons (dVar 1) aNil)) (dK (.int 1))) aNil)))) (sRet (dK (.bool false))) sNil)
def d_are_rows_3 : DSt := (sSet 2 (dCall f_loops_by (aCons (dVar 1) aNil)))
def d_are_rows_4 : DSt := (sRet (dAnd (dCall f_are_loops (aCons (dVar 1) (aCons (dVar 2) aNil))) (dCall f_are_jumps (aCons (dVar 1) (aCons (dVar 2) aNil)))))
def d_are_rows : DSt := (sSeq d_are_rows_0 (sSeq d_are_rows_1 (sSeq d_are_rows_2 (sSeq d_are_rows_3 d_are_rows_4))))
def f_are_rows : DF := fnOf 2 5 d_are_rows
theorem o_are_rows {P : Program} {w : World} {K : Frag} {mg : Str → Option Value} {base : Heap} {f : Addr} {fd : FuncData} (T : Txt K w mg) (sm : SysM K) (F : FunD K "are_rows" "are_rows" (defArgs s_are_rows) (defBody s_are_rows) (defScope s_are_rows) [] [] f fd) (hg : mg "are_rows" = some (.ref f)) (o_is_row_within : SFn P w K mg base "is_row_within" 4 f_is_row_within) (o_loops_by : SFn P w K mg base "loops_by" 1 f_loops_by) (o_are_loops : SFn P w K mg base "are_loops" 2 f_are_loops) (o_are_jumps : SFn P w K mg base "are_jumps" 2 f_are_jumps) : SFn P w K mg base "are_rows" 5 f_are_rows :=
  own_F F hg sc_are_rows (fun _ _ _ _ _ _ us hl => match us, hl with | [_, _], _ => rfl) (by decide +kernel) sm fun cdv A outer s H E G R => (sb_cons (ss_if (st_bool (sw_or (st_not (st_val (se_callB cf_isi T.n_isinstance boot_isinstance (sa_cons (se_var 1) (sa_cons (se_type T.n_tuple boot_tuple) sa_nil))))) (sw_or1 (st_not (st_chain of_le of_le se_int (se_callB cf_len T.n_len boot_len (sa_cons (se_var 1) sa_nil)) (se_glob T.c_MOST_ROWS)))))) (sb_one (ss_ret se_bl)) sb_nil)
    (sb_cons (ss_if (st_not (st_val (se_callB (cf_all G.hc) T.n_all boot_all (sa_cons (se_lc [("row", 4)] G.hc G.hN (by rfl) (si_seq (se_var 1)) (fun _ _ _ _ _ => (sg_name 4 G.hN)) (fun _ _ _ _ _ => sts_nil) (fun _ _ _ _ _ => (se_call (OwnD.mono o_is_row_within (by omega)) R (sa_cons (se_var 0) (sa_cons (se_var 4) sa_nil))))) sa_nil)))) (sb_one (ss_ret se_bl)) sb_nil)
    (sb_cons (ss_if (st_cmp (of_ne G.sm G.hu) (se_lc [("at", 3), ("row", 4)] G.hc G.hN (by rfl) (si_enum T.n_enumerate (sa_cons (se_var 1) sa_nil)) (fun _ _ _ _ _ => (sg_tup G.hc (sgs_cons (sg_name 3 G.hN) (sgs_cons (sg_name 4 G.hN) sgs_nil)))) (fun _ _ _ _ _ => (sts_one (st_cmp (of_eq G.sm G.hu) (se_ixA G.hu (se_var 4) se_int) se_str))) (fun _ _ _ _ _ => (se_var 3))) (se_lst (sa_cons (se_bin of_sub (se_callB cf_len T.n_len boot_len (sa_cons (se_var 1) sa_nil)) se_int) sa_nil))) (sb_one (ss_ret se_bl)) sb_nil)
    (sb_cons (ss_set 2 G.hN (se_call (OwnD.mono o_loops_by (by omega)) R (sa_cons (se_var 1) sa_nil)))
    (sb_one (ss_ret (se_and (se_call (OwnD.mono o_are_loops (by omega)) R (sa_cons (se_var 1) (sa_cons (se_var 2) sa_nil))) (se_one (se_call (OwnD.mono o_are_jumps (by omega)) R (sa_cons (se_var 1) (sa_cons (se_var 2) sa_nil)))))))))))
/-! is_code -/
abbrev s_is_code : Stmt := top 28
theorem sc_is_code : FnScope ["thing", "asks", "many", "shown", "arrays", "rows", "size", "ask"] ["thing"] (defScope s_is_code) := ⟨rfl, rfl, rfl, by decide +kernel, rfl, by decide +kernel, by decide +kernel⟩
def d_is_code_0 : DSt := (sIf (tOr (tNot (tOf (dCallB gIsi (aCons (dVar 0) (aCons (dKv (.ty "tuple")) aNil))))) (tOf (dBin (lift2 (gEq true)) (dCallB gLen (aCons (dVar 0) aNil)) (dK (.int 5))))) (sRet (dK (.bool false))) sNil)
def d_is_code_1 : DSt := (sAsg (gTup 5 (DL.gCons (gName 1) (DL.gCons (gName 2) (DL.gCons (gName 3) (DL.gCons (gName 4) (DL.gCons (gName 5) gNil)))))) (dVar 0))
def d_is_code_2 : DSt := (sIf (tOr (tNot (tOf (dCallB gIsi (aCons (dVar 1) (aCons (dKv (.ty "tuple")) aNil))))) (tOr (tOf (dBin (lift2 gGt) (dCallB gLen (aCons (dVar 1) aNil)) (dK (.int 3)))) (tNot (tOf (dCallB gAll (aCons (dLc (dSeqI (dVar 1)) [7] (gName 7) tYes (dCall f_is_span (aCons (dVar 7) aNil))) aNil)))))) (sRet (dK (.bool false))) sNil)
def d_is_code_3 : DSt := (sIf (tOr (tNot (tOf (dCall f_is_between (aCons (dVar 2) (aCons (dCallB gMax2 (aCons (dK (.int 1)) (aCons (dCallB gLen (aCons (dVar 1) aNil)) aNil))) (aCons (dK (.int 16)) aNil)))))) (tNot (tOf (dCall f_is_between (aCons (dVar 3) (aCons (dK (.int 0)) (aCons (dVar 2) aNil))))))) (sRet (dK (.bool false))) sNil)
def d_is_code_4 : DSt := (sIf (tOr (tNot (tOf (dCallB gIsi (aCons (dVar 4) (aCons (dKv (.ty "tuple")) aNil))))) (tOr (tOf (dBin (lift2 gGt) (dCallB gLen (aCons (dVar 4) aNil)) (dK (.int 2)))) (tNot (tOf (dCallB gIsi (aCons (dVar 5) (aCons (dKv (.ty "tuple")) aNil))))))) (sRet (dK (.bool false))) sNil)
def d_is_code_5 : DSt := (sIf (tNot (tOf (dCallB gAll (aCons (dLc (dSeqI (dVar 4)) [6] (gName 6) tYes (dCall f_is_between (aCons (dVar 6) (aCons (dK (.int 1)) (aCons (dK (.int 6)) aNil))))) aNil)))) (sRet (dK (.bool false))) sNil)
def d_is_code_6 : DSt := (sRet (dCall f_are_rows (aCons (dCall f_limits_of (aCons (dVar 2) (aCons (dVar 4) (aCons (dVar 5) aNil)))) (aCons (dVar 5) aNil))))
def d_is_code : DSt := (sSeq d_is_code_0 (sSeq d_is_code_1 (sSeq d_is_code_2 (sSeq d_is_code_3 (sSeq d_is_code_4 (sSeq d_is_code_5 d_is_code_6))))))
def f_is_code : DF := fnOf 1 8 d_is_code
theorem o_is_code {P : Program} {w : World} {K : Frag} {mg : Str → Option Value} {base : Heap} {f : Addr} {fd : FuncData} (T : Txt K w mg) (sm : SysM K) (F : FunD K "is_code" "is_code" (defArgs s_is_code) (defBody s_is_code) (defScope s_is_code) [] [] f fd) (hg : mg "is_code" = some (.ref f)) (o_is_span : SFn P w K mg base "is_span" 3 f_is_span) (o_is_between : SFn P w K mg base "is_between" 2 f_is_between) (o_limits_of : SFn P w K mg base "limits_of" 1 f_limits_of) (o_are_rows : SFn P w K mg base "are_rows" 5 f_are_rows) : SFn P w K mg base "is_code" 6 f_is_code :=
  own_F F hg sc_is_code (fun _ _ _ _ _ _ us hl => match us, hl with | [_], _ => rfl) (by decide +kernel) sm fun cdv A outer s H E G R => (sb_cons (ss_if (st_bool (sw_or (st_not (st_val (se_callB cf_isi T.n_isinstance boot_isinstance (sa_cons (se_var 0) (sa_cons (se_type T.n_tuple boot_tuple) sa_nil))))) (sw_or1 (st_cmp (of_ne G.sm G.hu) (se_callB cf_len T.n_len boot_len (sa_cons (se_var 0) sa_nil)) se_int)))) (sb_one (ss_ret se_bl)) sb_nil)
    (sb_cons (ss_asg (se_var 0) (sg_tup G.hc (sgs_cons (sg_name 1 G.hN) (sgs_cons (sg_name 2 G.hN) (sgs_cons (sg_name 3 G.hN) (sgs_cons (sg_name 4 G.hN) (sgs_cons (sg_name 5 G.hN) sgs_nil)))))))
    (sb_cons (ss_if (st_bool (sw_or (st_not (st_val (se_callB cf_isi T.n_isinstance boot_isinstance (sa_cons (se_var 1) (sa_cons (se_type T.n_tuple boot_tuple) sa_nil))))) (sw_or (st_cmp of_gt (se_callB cf_len T.n_len boot_len (sa_cons (se_var 1) sa_nil)) (se_glob T.c_MOST_ASKS)) (sw_or1 (st_not (st_val (se_callB (cf_all G.hc) T.n_all boot_all (sa_cons (se_lc [("ask", 7)] G.hc G.hN (by rfl) (si_seq (se_var 1)) (fun _ _ _ _ _ => (sg_name 7 G.hN)) (fun _ _ _ _ _ => sts_nil) (fun _ _ _ _ _ => (se_call (OwnD.mono o_is_span (by omega)) R (sa_cons (se_var 7) sa_nil)))) sa_nil)))))))) (sb_one (ss_ret se_bl)) sb_nil)
    (sb_cons (ss_if (st_bool (sw_or (st_not (st_val (se_call (OwnD.mono o_is_between (by omega)) R (sa_cons (se_var 2) (sa_cons (se_callB (cf_max2 G.hc) T.n_max boot_max (sa_cons se_int (sa_cons (se_callB cf_len T.n_len boot_len (sa_cons (se_var 1) sa_nil)) sa_nil))) (sa_cons (se_glob T.c_MOST_MANY) sa_nil)))))) (sw_or1 (st_not (st_val (se_call (OwnD.mono o_is_between (by omega)) R (sa_cons (se_var 3) (sa_cons se_int (sa_cons (se_var 2) sa_nil))))))))) (sb_one (ss_ret se_bl)) sb_nil)
    (sb_cons (ss_if (st_bool (sw_or (st_not (st_val (se_callB cf_isi T.n_isinstance boot_isinstance (sa_cons (se_var 4) (sa_cons (se_type T.n_tuple boot_tuple) sa_nil))))) (sw_or (st_cmp of_gt (se_callB cf_len T.n_len boot_len (sa_cons (se_var 4) sa_nil)) se_int) (sw_or1 (st_not (st_val (se_callB cf_isi T.n_isinstance boot_isinstance (sa_cons (se_var 5) (sa_cons (se_type T.n_tuple boot_tuple) sa_nil))))))))) (sb_one (ss_ret se_bl)) sb_nil)
    (sb_cons (ss_if (st_not (st_val (se_callB (cf_all G.hc) T.n_all boot_all (sa_cons (se_lc [("size", 6)] G.hc G.hN (by rfl) (si_seq (se_var 4)) (fun _ _ _ _ _ => (sg_name 6 G.hN)) (fun _ _ _ _ _ => sts_nil) (fun _ _ _ _ _ => (se_call (OwnD.mono o_is_between (by omega)) R (sa_cons (se_var 6) (sa_cons se_int (sa_cons (se_glob T.c_MOST_SIZE) sa_nil)))))) sa_nil)))) (sb_one (ss_ret se_bl)) sb_nil)
    (sb_one (ss_ret (se_call (OwnD.mono o_are_rows (by omega)) R (sa_cons (se_call (OwnD.mono o_limits_of (by omega)) R (sa_cons (se_var 2) (sa_cons (se_var 4) (sa_cons (se_var 5) sa_nil)))) (sa_cons (se_var 5) sa_nil)))))))))))
/-! _law_pot -/
abbrev s__law_pot : Stmt := top 30
theorem sc__law_pot : FnScope ["script", "k", "cell", "mixed"] ["script", "k"] (defScope s__law_pot) := ⟨rfl, rfl, rfl, by decide +kernel, rfl, by decide +kernel, by decide +kernel⟩
def d__law_pot_0 : DSt := (sSet 2 (dK (.int 0)))
def d__law_pot_1 : DSt := (sIf (tOf (dBin (lift2 gLt) (dVar 1) (dCallB gLen (aCons (dVar 0) aNil)))) (sSet 2 (dBin (lift2 gMod) (dCallB gAbs (aCons (dIxA (dVar 0) (dVar 1)) aNil)) (dBin (lift2 gPow) (dBin (lift2 gPow) (dK (.int 10)) (dK (.int 60))) (dK (.int 10))))) sNil)
def d__law_pot_2 : DSt := (sSet 3 (dBin (lift2 gMod) (dBin (lift2 gPow) (dBin (lift2 gAdd) (dBin (lift2 gAdd) (dBin (lift2 gMod) (dVar 2) (dK (.int 2147483587))) (dBin (lift2 gMul) (dK (.int 6007)) (dVar 1))) (dK (.int 1))) (dK (.int 5))) (dK (.int 2305843009213693951))))
def d__law_pot_3 : DSt := (sRet (dLstM (aCons (dBin (lift2 gMul) (dVar 2) (dCallB gIntOf (aCons (dBin (lift2 gGe) (dVar 2) (dBin (lift2 gPow) (dK (.int 10)) (dK (.int 18)))) aNil))) (aCons (dVar 3) (aCons (dK (.int 0)) aNil)))))
def d__law_pot : DSt := (sSeq d__law_pot_0 (sSeq d__law_pot_1 (sSeq d__law_pot_2 d__law_pot_3)))
def f__law_pot : DF := fnOf 2 4 d__law_pot
theorem o__law_pot {P : Program} {w : World} {K : Frag} {mg : Str → Option Value} {base : Heap} {f : Addr} {fd : FuncData} (T : Txt K w mg) (sm : SysM K) (F : FunD K "_law_pot" "_law_pot" (defArgs s__law_pot) (defBody s__law_pot) (defScope s__law_pot) [] [] f fd) (hg : mg "_law_pot" = some (.ref f))  : SFn P w K mg base "_law_pot" 1 f__law_pot :=
  own_F F hg sc__law_pot (fun _ _ _ _ _ _ us hl => match us, hl with | [_, _], _ => rfl) (by decide +kernel) sm fun cdv A outer s H E G R => (sb_cons (ss_set 2 G.hN se_int)
    (sb_cons (ss_if (st_cmp of_lt (se_var 1) (se_callB cf_len T.n_len boot_len (sa_cons (se_var 0) sa_nil))) (sb_one (ss_set 2 G.hN (se_bin of_mod (se_callB cf_abs T.n_abs boot_abs (sa_cons (se_ixA G.hu (se_var 0) (se_var 1)) sa_nil)) (se_bin of_pow (se_bin of_pow se_int se_int) se_int)))) sb_nil)
    (sb_cons (ss_set 3 G.hN (se_bin of_mod (se_bin of_pow (se_bin of_add (se_bin of_add (se_bin of_mod (se_var 2) se_int) (se_bin of_mul se_int (se_var 1))) se_int) se_int) se_int))
    (sb_one (ss_ret (se_lstM (sa_cons (se_bin of_mul (se_var 2) (se_callT cf_int T.n_int boot_int (sa_cons (se_cmp of_ge (se_var 2) (se_bin of_pow se_int se_int)) sa_nil))) (sa_cons (se_var 3) (sa_cons se_int sa_nil)))))))))
/-! _law_take -/
abbrev s__law_take : Stmt := top 31
theorem sc__law_take : FnScope ["pot", "many", "found", "one", "other"] ["pot", "many"] (defScope s__law_take) := ⟨rfl, rfl, rfl, by decide +kernel, rfl, by decide +kernel, by decide +kernel⟩
def d__law_take_0 : DSt := (sIf (tOf (dBin (lift2 gGt) (dIxA (dVar 0) (dK (.int 0))) (dK (.int 0)))) (sSeq (sSet 2 (dBin (lift2 gMod) (dIxA (dVar 0) (dK (.int 0))) (dVar 1)))
    (sSeq (sSetIx (dVar 0) (dK (.int 0)) (dBin (lift2 gFdiv) (dIxA (dVar 0) (dK (.int 0))) (dVar 1)))
    (sRet (dVar 2)))) sNil)
def d__law_take_1 : DSt := (sSetIx (dVar 0) (dK (.int 2)) (dBin (lift2 gAdd) (dIxA (dVar 0) (dK (.int 2))) (dK (.int 1))))
def d__law_take_2 : DSt := (sSet 3 (dBin (lift2 gMod) (dBin (lift2 gPow) (dBin (lift2 gAdd) (dIxA (dVar 0) (dK (.int 1))) (dBin (lift2 gMul) (dK (.int 104683)) (dIxA (dVar 0) (dK (.int 2))))) (dK (.int 3))) (dK (.int 2305843009213693921))))
def d__law_take_3 : DSt := (sSet 4 (dBin (lift2 gMod) (dBin (lift2 gPow) (dBin (lift2 gAdd) (dBin (lift2 gAdd) (dVar 3) (dBin (lift2 gMod) (dIxA (dVar 0) (dK (.int 1))) (dK (.int 65521)))) (dBin (lift2 gMul) (dK (.int 37)) (dIxA (dVar 0) (dK (.int 2))))) (dK (.int 5))) (dK (.int 2305843009213693907))))
def d__law_take_4 : DSt := (sRet (dBin (lift2 gMod) (dBin (lift2 gFdiv) (dVar 4) (dK (.int 1024))) (dVar 1)))
def d__law_take : DSt := (sSeq d__law_take_0 (sSeq d__law_take_1 (sSeq d__law_take_2 (sSeq d__law_take_3 d__law_take_4))))
def f__law_take : DF := fnOf 2 5 d__law_take
theorem o__law_take {P : Program} {w : World} {K : Frag} {mg : Str → Option Value} {base : Heap} {f : Addr} {fd : FuncData} (T : Txt K w mg) (sm : SysM K) (F : FunD K "_law_take" "_law_take" (defArgs s__law_take) (defBody s__law_take) (defScope s__law_take) [] [] f fd) (hg : mg "_law_take" = some (.ref f))  : SFn P w K mg base "_law_take" 1 f__law_take :=
  own_F F hg sc__law_take (fun _ _ _ _ _ _ us hl => match us, hl with | [_, _], _ => rfl) (by decide +kernel) sm fun cdv A outer s H E G R => (sb_cons (ss_if (st_cmp of_gt (se_ixA G.hu (se_var 0) se_int) se_int) (sb_cons (ss_set 2 G.hN (se_bin of_mod (se_ixA G.hu (se_var 0) se_int) (se_var 1)))
    (sb_cons (ss_setIx (se_var 0) se_int (se_bin of_fdiv (se_ixA G.hu (se_var 0) se_int) (se_var 1)))
    (sb_one (ss_ret (se_var 2))))) sb_nil)
    (sb_cons (ss_setIx (se_var 0) se_int (se_bin of_add (se_ixA G.hu (se_var 0) se_int) se_int))
    (sb_cons (ss_set 3 G.hN (se_bin of_mod (se_bin of_pow (se_bin of_add (se_ixA G.hu (se_var 0) se_int) (se_bin of_mul se_int (se_ixA G.hu (se_var 0) se_int))) se_int) se_int))
    (sb_cons (ss_set 4 G.hN (se_bin of_mod (se_bin of_pow (se_bin of_add (se_bin of_add (se_var 3) (se_bin of_mod (se_ixA G.hu (se_var 0) se_int) se_int)) (se_bin of_mul se_int (se_ixA G.hu (se_var 0) se_int))) se_int) se_int))
    (sb_one (ss_ret (se_bin of_mod (se_bin of_fdiv (se_var 4) se_int) (se_var 1))))))))
/-! _law_loops -/
abbrev s__law_loops : Stmt := top 32
theorem sc__law_loops : FnScope ["pot", "size", "found", "turn", "first", "last", "apart", "p", "q"] ["pot", "size"] (defScope s__law_loops) := ⟨rfl, rfl, rfl, by decide +kernel, rfl, by decide +kernel, by decide +kernel⟩
def b__law_loops_1 : DSt := (sIf (tOf (dBin (lift2 gGt) (dVar 1) (dK (.int 3)))) (sSeq (sSet 4 (dCall f__law_take (aCons (dVar 0) (aCons (dBin (lift2 gSub) (dVar 1) (dK (.int 2))) aNil))))
    (sSeq (sSet 5 (dBin (lift2 gAdd) (dBin (lift2 gAdd) (dVar 4) (dK (.int 1))) (dCall f__law_take (aCons (dVar 0) (aCons (dBin (lift2 gSub) (dBin (lift2 gSub) (dVar 1) (dK (.int 2))) (dVar 4)) aNil)))))
    (sSeq (sSet 6 (dLc (dSeqI (dVar 2)) [7, 8] (gTup 2 (DL.gCons (gName 7) (DL.gCons (gName 8) gNil))) (tOr (tOf (dBin (lift2 gLt) (dVar 5) (dVar 7))) (tOr (tOf (dBin (lift2 gLt) (dVar 8) (dVar 4))) (tOr (tAnd (tOf (dBin (lift2 gLt) (dVar 7) (dVar 4))) (tOf (dBin (lift2 gLt) (dVar 5) (dVar 8)))) (tAnd (tOf (dBin (lift2 gLt) (dVar 4) (dVar 7))) (tOf (dBin (lift2 gLt) (dVar 8) (dVar 5))))))) (dK (.int 1))))
    (sIf (tAnd (tOf (dBin (lift2 gLt) (dCallB gLen (aCons (dVar 2) aNil)) (dK (.int 2)))) (tOf (dBin (lift2 (gEq false)) (dCallB gLen (aCons (dVar 6) aNil)) (dCallB gLen (aCons (dVar 2) aNil))))) (sExpr (dAppend (dVar 2) (dTup (aCons (dVar 4) (aCons (dVar 5) aNil))))) sNil)))) sNil)
def d__law_loops_0 : DSt := (sSet 2 (dLstM aNil))
def d__law_loops_1 : DSt := (sFor (dRange1 (aCons (dCall f__law_take (aCons (dVar 0) (aCons (dK (.int 4)) aNil))) aNil)) (gName 3) b__law_loops_1)
def d__law_loops_2 : DSt := (sRet (dCallB gSorted (aCons (dVar 2) aNil)))
def d__law_loops : DSt := (sSeq d__law_loops_0 (sSeq d__law_loops_1 d__law_loops_2))
def f__law_loops : DF := fnOf 2 9 d__law_loops
theorem o__law_loops {P : Program} {w : World} {K : Frag} {mg : Str → Option Value} {base : Heap} {f : Addr} {fd : FuncData} (T : Txt K w mg) (sm : SysM K) (F : FunD K "_law_loops" "_law_loops" (defArgs s__law_loops) (defBody s__law_loops) (defScope s__law_loops) [] [] f fd) (hg : mg "_law_loops" = some (.ref f)) (o__law_take : SFn P w K mg base "_law_take" 1 f__law_take) : SFn P w K mg base "_law_loops" 2 f__law_loops :=
  own_F F hg sc__law_loops (fun _ _ _ _ _ _ us hl => match us, hl with | [_, _], _ => rfl) (by decide +kernel) sm fun cdv A outer s H E G R => (sb_cons (ss_set 2 G.hN (se_lstM sa_nil))
    (sb_cons (ss_for G.po G.hc (si_range1 T.n_range (sa_cons (se_call (OwnD.mono o__law_take (by omega)) R (sa_cons (se_var 0) (sa_cons se_int sa_nil))) sa_nil)) (sg_name 3 G.hN) (sb_one (ss_if (st_cmp of_gt (se_var 1) se_int) (sb_cons (ss_set 4 G.hN (se_call (OwnD.mono o__law_take (by omega)) R (sa_cons (se_var 0) (sa_cons (se_bin of_sub (se_var 1) se_int) sa_nil))))
    (sb_cons (ss_set 5 G.hN (se_bin of_add (se_bin of_add (se_var 4) se_int) (se_call (OwnD.mono o__law_take (by omega)) R (sa_cons (se_var 0) (sa_cons (se_bin of_sub (se_bin of_sub (se_var 1) se_int) (se_var 4)) sa_nil)))))
    (sb_cons (ss_setLc 6 [("p", 7), ("q", 8)] G.hc G.hN (by rfl) (si_seq (se_var 2)) (fun _ _ _ _ _ => (sg_tup G.hc (sgs_cons (sg_name 7 G.hN) (sgs_cons (sg_name 8 G.hN) sgs_nil)))) (fun _ _ _ _ _ => (sts_one (st_bool (sw_or (st_cmp of_lt (se_var 5) (se_var 7)) (sw_or (st_cmp of_lt (se_var 8) (se_var 4)) (sw_or (st_bool (sw_and (st_cmp of_lt (se_var 7) (se_var 4)) (sw_and1 (st_cmp of_lt (se_var 5) (se_var 8))))) (sw_or1 (st_bool (sw_and (st_cmp of_lt (se_var 4) (se_var 7)) (sw_and1 (st_cmp of_lt (se_var 8) (se_var 5)))))))))))) (fun _ _ _ _ _ => se_int))
    (sb_one (ss_if (st_bool (sw_and (st_cmp of_lt (se_callB cf_len T.n_len boot_len (sa_cons (se_var 2) sa_nil)) se_int) (sw_and1 (st_cmp (of_eq G.sm G.hu) (se_callB cf_len T.n_len boot_len (sa_cons (se_var 6) sa_nil)) (se_callB cf_len T.n_len boot_len (sa_cons (se_var 2) sa_nil)))))) (sb_one (ss_expr (se_append (se_var 2) (se_tup (sa_cons (se_var 4) (sa_cons (se_var 5) sa_nil)))))) sb_nil))))) sb_nil)))
    (sb_one (ss_ret (se_callB (cf_sorted G.sm G.hu) T.n_sorted boot_sorted (sa_cons (se_var 2) sa_nil))))))
/-! _law_around -/
abbrev s__law_around : Stmt := top 33
theorem sc__law_around : FnScope ["loops", "row", "first", "last"] ["loops", "row"] (defScope s__law_around) := ⟨rfl, rfl, rfl, by decide +kernel, rfl, by decide +kernel, by decide +kernel⟩
def d__law_around : DSt := (sRet (dLc (dSeqI (dVar 0)) [2, 3] (gTup 2 (DL.gCons (gName 2) (DL.gCons (gName 3) gNil))) (tOf (dChain gLt gLe (dVar 2) (dVar 1) (dVar 3))) (dVar 2)))
def f__law_around : DF := fnOf 2 4 d__law_around
theorem o__law_around {P : Program} {w : World} {K : Frag} {mg : Str → Option Value} {base : Heap} {f : Addr} {fd : FuncData} (T : Txt K w mg) (sm : SysM K) (F : FunD K "_law_around" "_law_around" (defArgs s__law_around) (defBody s__law_around) (defScope s__law_around) [] [] f fd) (hg : mg "_law_around" = some (.ref f))  : SFn P w K mg base "_law_around" 1 f__law_around :=
  own_F F hg sc__law_around (fun _ _ _ _ _ _ us hl => match us, hl with | [_, _], _ => rfl) (by decide +kernel) sm fun cdv A outer s H E G R => (sb_one (ss_ret (se_lc [("first", 2), ("last", 3)] G.hc G.hN (by rfl) (si_seq (se_var 0)) (fun _ _ _ _ _ => (sg_tup G.hc (sgs_cons (sg_name 2 G.hN) (sgs_cons (sg_name 3 G.hN) sgs_nil)))) (fun _ _ _ _ _ => (sts_one (st_chain of_lt of_le (se_var 2) (se_var 1) (se_var 3)))) (fun _ _ _ _ _ => (se_var 2)))))
/-! _law_plain_row -/
abbrev s__law_plain_row : Stmt := top 34
theorem sc__law_plain_row : FnScope ["pot", "many", "sizes", "way", "give", "one", "other", "array"] ["pot", "many", "sizes"] (defScope s__law_plain_row) := ⟨rfl, rfl, rfl, by decide +kernel, rfl, by decide +kernel, by decide +kernel⟩
def d__law_plain_row_0 : DSt := (sSet 3 (dCall f__law_take (aCons (dVar 0) (aCons (dK (.int 9)) aNil))))
def d__law_plain_row_1 : DSt := (sPar3 4 5 6 (aCons (dCall f__law_take (aCons (dVar 0) (aCons (dVar 1) aNil))) (aCons (dCall f__law_take (aCons (dVar 0) (aCons (dVar 1) aNil))) (aCons (dCall f__law_take (aCons (dVar 0) (aCons (dVar 1) aNil))) aNil))))
def d__law_plain_row_2 : DSt := (sIf (tAnd (tOf (dBin (lift2 (gEq true)) (dVar 2) (dTup aNil))) (tOf (dBin (lift2 gLt) (dVar 3) (dK (.int 3))))) (sSeq (sSet 7 (dCall f__law_take (aCons (dVar 0) (aCons (dCallB gLen (aCons (dVar 2) aNil)) aNil))))
    (sRet (dIxA (dLst (aCons (dTup (aCons (dK (.str "get")) (aCons (dVar 4) (aCons (dVar 7) (aCons (dVar 5) aNil))))) (aCons (dTup (aCons (dK (.str "put")) (aCons (dVar 7) (aCons (dVar 5) (aCons (dVar 6) aNil))))) aNil))) (dCall f__law_take (aCons (dVar 0) (aCons (dK (.int 2)) aNil)))))) sNil)
def d__law_plain_row_3 : DSt := (sIf (tOf (dBin (lift2 gLt) (dVar 3) (dK (.int 5)))) (sRet (dTup (aCons (dK (.str "set")) (aCons (dVar 4) (aCons (dIxA (dLst (aCons (dK (.int 0)) (aCons (dK (.int 1)) (aCons (dK (.int 255)) (aCons (dCall f__law_take (aCons (dVar 0) (aCons (dK (.int 256)) aNil))) aNil))))) (dCall f__law_take (aCons (dVar 0) (aCons (dK (.int 4)) aNil)))) aNil))))) sNil)
def d__law_plain_row_4 : DSt := (sIf (tOf (dBin (lift2 (gEq false)) (dVar 3) (dK (.int 5)))) (sRet (dIxA (dLst (aCons (dTup (aCons (dK (.str "copy")) (aCons (dVar 4) (aCons (dVar 5) aNil)))) (aCons (dTup (aCons (dK (.str "rest")) aNil)) aNil))) (dBin (lift2 gFdiv) (dCall f__law_take (aCons (dVar 0) (aCons (dK (.int 3)) aNil))) (dK (.int 2))))) sNil)
def d__law_plain_row_5 : DSt := (sRet (dTup (aCons (dIxA (dLst (aCons (dK (.str "*")) (aCons (dK (.str "+")) (aCons (dK (.str "-")) (aCons (dK (.str "*")) (aCons (dK (.str "<")) (aCons (dK (.str "=")) aNil))))))) (dCall f__law_take (aCons (dVar 0) (aCons (dK (.int 6)) aNil)))) (aCons (dVar 4) (aCons (dVar 5) (aCons (dVar 6) aNil))))))
def d__law_plain_row : DSt := (sSeq d__law_plain_row_0 (sSeq d__law_plain_row_1 (sSeq d__law_plain_row_2 (sSeq d__law_plain_row_3 (sSeq d__law_plain_row_4 d__law_plain_row_5)))))
def f__law_plain_row : DF := fnOf 3 8 d__law_plain_row
theorem o__law_plain_row {P : Program} {w : World} {K : Frag} {mg : Str → Option Value} {base : Heap} {f : Addr} {fd : FuncData} (T : Txt K w mg) (sm : SysM K) (F : FunD K "_law_plain_row" "_law_plain_row" (defArgs s__law_plain_row) (defBody s__law_plain_row) (defScope s__law_plain_row) [] [] f fd) (hg : mg "_law_plain_row" = some (.ref f)) (o__law_take : SFn P w K mg base "_law_take" 1 f__law_take) : SFn P w K mg base "_law_plain_row" 2 f__law_plain_row :=
  own_F F hg sc__law_plain_row (fun _ _ _ _ _ _ us hl => match us, hl with | [_, _, _], _ => rfl) (by decide +kernel) sm fun cdv A outer s H E G R => (sb_cons (ss_set 3 G.hN (se_call (OwnD.mono o__law_take (by omega)) R (sa_cons (se_var 0) (sa_cons se_int sa_nil))))
    (sb_cons (ss_par3 4 5 6 G.hc G.hN (sa_cons (se_call (OwnD.mono o__law_take (by omega)) R (sa_cons (se_var 0) (sa_cons (se_var 1) sa_nil))) (sa_cons (se_call (OwnD.mono o__law_take (by omega)) R (sa_cons (se_var 0) (sa_cons (se_var 1) sa_nil))) (sa_cons (se_call (OwnD.mono o__law_take (by omega)) R (sa_cons (se_var 0) (sa_cons (se_var 1) sa_nil))) sa_nil))))
    (sb_cons (ss_if (st_bool (sw_and (st_cmp (of_ne G.sm G.hu) (se_var 2) (se_tup sa_nil)) (sw_and1 (st_cmp of_lt (se_var 3) se_int)))) (sb_cons (ss_set 7 G.hN (se_call (OwnD.mono o__law_take (by omega)) R (sa_cons (se_var 0) (sa_cons (se_callB cf_len T.n_len boot_len (sa_cons (se_var 2) sa_nil)) sa_nil))))
    (sb_one (ss_ret (se_ixA G.hu (se_lst (sa_cons (se_tup (sa_cons se_str (sa_cons (se_var 4) (sa_cons (se_var 7) (sa_cons (se_var 5) sa_nil))))) (sa_cons (se_tup (sa_cons se_str (sa_cons (se_var 7) (sa_cons (se_var 5) (sa_cons (se_var 6) sa_nil))))) sa_nil))) (se_call (OwnD.mono o__law_take (by omega)) R (sa_cons (se_var 0) (sa_cons se_int sa_nil))))))) sb_nil)
    (sb_cons (ss_if (st_cmp of_lt (se_var 3) se_int) (sb_one (ss_ret (se_tup (sa_cons se_str (sa_cons (se_var 4) (sa_cons (se_ixA G.hu (se_lst (sa_cons se_int (sa_cons se_int (sa_cons se_int (sa_cons (se_call (OwnD.mono o__law_take (by omega)) R (sa_cons (se_var 0) (sa_cons se_int sa_nil))) sa_nil))))) (se_call (OwnD.mono o__law_take (by omega)) R (sa_cons (se_var 0) (sa_cons se_int sa_nil)))) sa_nil)))))) sb_nil)
    (sb_cons (ss_if (st_cmp (of_eq G.sm G.hu) (se_var 3) se_int) (sb_one (ss_ret (se_ixA G.hu (se_lst (sa_cons (se_tup (sa_cons se_str (sa_cons (se_var 4) (sa_cons (se_var 5) sa_nil)))) (sa_cons (se_tup (sa_cons se_str sa_nil)) sa_nil))) (se_bin of_fdiv (se_call (OwnD.mono o__law_take (by omega)) R (sa_cons (se_var 0) (sa_cons se_int sa_nil))) se_int)))) sb_nil)
    (sb_one (ss_ret (se_tup (sa_cons (se_ixA G.hu (se_lst (sa_cons se_str (sa_cons se_str (sa_cons se_str (sa_cons se_str (sa_cons se_str (sa_cons se_str sa_nil))))))) (se_call (OwnD.mono o__law_take (by omega)) R (sa_cons (se_var 0) (sa_cons se_int sa_nil)))) (sa_cons (se_var 4) (sa_cons (se_var 5) (sa_cons (se_var 6) sa_nil))))))))))))
/-! _law_code -/
abbrev s__law_code : Stmt := top 35
theorem sc__law_code : FnScope ["pot", "most", "size", "many", "asks", "turn", "low", "sizes", "loops", "ends", "rows", "at", "here", "ahead", "to", "first", "last", "row", "p"] ["pot", "most"] (defScope s__law_code) := ⟨rfl, rfl, rfl, by decide +kernel, rfl, by decide +kernel, by decide +kernel⟩
def b__law_code_1 : DSt := (sSeq (sSet 6 (dIxA (dLst (aCons (dK (.int 0)) (aCons (dK (.int 1)) (aCons (dK (.int 254)) (aCons (dCall f__law_take (aCons (dVar 0) (aCons (dK (.int 254)) aNil))) aNil))))) (dCall f__law_take (aCons (dVar 0) (aCons (dK (.int 4)) aNil)))))
    (sExpr (dAppend (dVar 4) (dTup (aCons (dVar 6) (aCons (dBin (lift2 gAdd) (dVar 6) (dCall f__law_take (aCons (dVar 0) (aCons (dCallB gMin2 (aCons (dK (.int 3)) (aCons (dBin (lift2 gSub) (dK (.int 256)) (dVar 6)) aNil))) aNil)))) aNil))))))
def b__law_code_2 : DSt := (sSeq (sSet 12 (dCall f__law_around (aCons (dVar 8) (aCons (dVar 11) aNil))))
    (sSeq (sSet 13 (dLc (dRange2 (aCons (dBin (lift2 gAdd) (dVar 11) (dK (.int 1))) (aCons (dVar 2) aNil))) [17] (gName 17) (tOf (dBin (lift2 (gEq false)) (dLc (dSeqI (dCall f__law_around (aCons (dVar 8) (aCons (dVar 17) aNil)))) [18] (gName 18) (tOf (dInA true (dVar 18) (dVar 12))) (dVar 18)) (dLst aNil))) (dVar 17)))
    (sIf (tOf (dInA false (dVar 11) (dLc (dSeqI (dVar 8)) [15, 16] (gTup 2 (DL.gCons (gName 15) (DL.gCons (gName 16) gNil))) tYes (dVar 15)))) (sExpr (dAppend (dVar 10) (dTup (aCons (dK (.str "count")) (aCons (dBin (lift2 gAdd) (dK (.int 1)) (dCall f__law_take (aCons (dVar 0) (aCons (dK (.int 3)) aNil)))) aNil))))) (sIf (tOf (dInA false (dVar 11) (dVar 9))) (sExpr (dAppend (dVar 10) (dTup (aCons (dK (.str "again")) (aCons (dBin (lift2 gAdd) (dIxA (dVar 9) (dVar 11)) (dK (.int 1))) aNil))))) (sIf (tOf (dBin (lift2 (gEq false)) (dCall f__law_take (aCons (dVar 0) (aCons (dK (.int 4)) aNil))) (dK (.int 0)))) (sSeq (sSet 14 (dIxA (dVar 13) (dIxA (dLst (aCons (dCall f__law_take (aCons (dVar 0) (aCons (dCallB gLen (aCons (dVar 13) aNil)) aNil))) (aCons (dCall f__law_take (aCons (dVar 0) (aCons (dCallB gMin2 (aCons (dK (.int 3)) (aCons (dCallB gLen (aCons (dVar 13) aNil)) aNil))) aNil))) aNil))) (dCall f__law_take (aCons (dVar 0) (aCons (dK (.int 2)) aNil))))))
    (sExpr (dAppend (dVar 10) (dIxA (dLst (aCons (dTup (aCons (dK (.str "test")) (aCons (dCall f__law_take (aCons (dVar 0) (aCons (dVar 3) aNil))) (aCons (dVar 14) aNil)))) (aCons (dTup (aCons (dK (.str "go")) (aCons (dVar 14) aNil))) aNil))) (dBin (lift2 gFdiv) (dCall f__law_take (aCons (dVar 0) (aCons (dK (.int 4)) aNil))) (dK (.int 3))))))) (sExpr (dAppend (dVar 10) (dCall f__law_plain_row (aCons (dVar 0) (aCons (dVar 3) (aCons (dVar 7) aNil)))))))))))
def d__law_code_0 : DSt := (sSet 2 (dBin (lift2 gAdd) (dK (.int 3)) (dCall f__law_take (aCons (dVar 0) (aCons (dBin (lift2 gSub) (dVar 1) (dK (.int 2))) aNil)))))
def d__law_code_1 : DSt := (sSet 3 (dBin (lift2 gAdd) (dK (.int 1)) (dCall f__law_take (aCons (dVar 0) (aCons (dK (.int 4)) aNil)))))
def d__law_code_2 : DSt := (sSet 4 (dLstM aNil))
def d__law_code_3 : DSt := (sFor (dRange1 (aCons (dCall f__law_take (aCons (dVar 0) (aCons (dCallB gMin2 (aCons (dK (.int 3)) (aCons (dBin (lift2 gAdd) (dVar 3) (dK (.int 1))) aNil))) aNil))) aNil)) (gName 5) b__law_code_1)
def d__law_code_4 : DSt := (sSet 7 (dCallB gTuple (aCons (dLc (dRange1 (aCons (dCall f__law_take (aCons (dVar 0) (aCons (dK (.int 3)) aNil))) aNil)) [5] (gName 5) tYes (dBin (lift2 gAdd) (dK (.int 1)) (dCall f__law_take (aCons (dVar 0) (aCons (dK (.int 6)) aNil))))) aNil)))
def d__law_code_5 : DSt := (sSet 8 (dCall f__law_loops (aCons (dVar 0) (aCons (dVar 2) aNil))))
def d__law_code_6 : DSt := (sSet 9 (dDictP (aCons (dLc (dSeqI (dVar 8)) [15, 16] (gTup 2 (DL.gCons (gName 15) (DL.gCons (gName 16) gNil))) tYes (dTup (aCons (dVar 16) (aCons (dVar 15) aNil)))) aNil)))
def d__law_code_7 : DSt := (sSet 10 (dLstM aNil))
def d__law_code_8 : DSt := (sFor (dRange1 (aCons (dBin (lift2 gSub) (dVar 2) (dK (.int 1))) aNil)) (gName 11) b__law_code_2)
def d__law_code_9 : DSt := (sRet (dTup (aCons (dCallB gTuple (aCons (dVar 4) aNil)) (aCons (dVar 3) (aCons (dCall f__law_take (aCons (dVar 0) (aCons (dBin (lift2 gAdd) (dVar 3) (dK (.int 1))) aNil))) (aCons (dVar 7) (aCons (dCallB gTuple (aCons (dBin (lift2 gAdd) (dVar 10) (dLst (aCons (dTup (aCons (dK (.str "end")) aNil)) aNil))) aNil)) aNil)))))))
def d__law_code : DSt := (sSeq d__law_code_0 (sSeq d__law_code_1 (sSeq d__law_code_2 (sSeq d__law_code_3 (sSeq d__law_code_4 (sSeq d__law_code_5 (sSeq d__law_code_6 (sSeq d__law_code_7 (sSeq d__law_code_8 d__law_code_9)))))))))
def f__law_code : DF := fnOf 2 19 d__law_code
theorem o__law_code {P : Program} {w : World} {K : Frag} {mg : Str → Option Value} {base : Heap} {f : Addr} {fd : FuncData} (T : Txt K w mg) (sm : SysM K) (F : FunD K "_law_code" "_law_code" (defArgs s__law_code) (defBody s__law_code) (defScope s__law_code) [] [] f fd) (hg : mg "_law_code" = some (.ref f)) (o__law_take : SFn P w K mg base "_law_take" 1 f__law_take) (o__law_loops : SFn P w K mg base "_law_loops" 2 f__law_loops) (o__law_around : SFn P w K mg base "_law_around" 1 f__law_around) (o__law_plain_row : SFn P w K mg base "_law_plain_row" 2 f__law_plain_row) : SFn P w K mg base "_law_code" 3 f__law_code :=
  own_F F hg sc__law_code (fun _ _ _ _ _ _ us hl => match us, hl with | [_, _], _ => rfl) (by decide +kernel) sm fun cdv A outer s H E G R => (sb_cons (ss_set 2 G.hN (se_bin of_add se_int (se_call (OwnD.mono o__law_take (by omega)) R (sa_cons (se_var 0) (sa_cons (se_bin of_sub (se_var 1) se_int) sa_nil)))))
    (sb_cons (ss_set 3 G.hN (se_bin of_add se_int (se_call (OwnD.mono o__law_take (by omega)) R (sa_cons (se_var 0) (sa_cons se_int sa_nil)))))
    (sb_cons (ss_set 4 G.hN (se_lstM sa_nil))
    (sb_cons (ss_for G.po G.hc (si_range1 T.n_range (sa_cons (se_call (OwnD.mono o__law_take (by omega)) R (sa_cons (se_var 0) (sa_cons (se_callB (cf_min2 G.hc) T.n_min boot_min (sa_cons se_int (sa_cons (se_bin of_add (se_var 3) se_int) sa_nil))) sa_nil))) sa_nil)) (sg_name 5 G.hN) (sb_cons (ss_set 6 G.hN (se_ixA G.hu (se_lst (sa_cons se_int (sa_cons se_int (sa_cons se_int (sa_cons (se_call (OwnD.mono o__law_take (by omega)) R (sa_cons (se_var 0) (sa_cons se_int sa_nil))) sa_nil))))) (se_call (OwnD.mono o__law_take (by omega)) R (sa_cons (se_var 0) (sa_cons se_int sa_nil)))))
    (sb_one (ss_expr (se_append (se_var 4) (se_tup (sa_cons (se_var 6) (sa_cons (se_bin of_add (se_var 6) (se_call (OwnD.mono o__law_take (by omega)) R (sa_cons (se_var 0) (sa_cons (se_callB (cf_min2 G.hc) T.n_min boot_min (sa_cons se_int (sa_cons (se_bin of_sub se_int (se_var 6)) sa_nil))) sa_nil)))) sa_nil))))))))
    (sb_cons (ss_set 7 G.hN (se_callT cf_tuple T.n_tuple boot_tuple (sa_cons (se_lc [("turn", 5)] G.hc G.hN (by rfl) (si_range1 T.n_range (sa_cons (se_call (OwnD.mono o__law_take (by omega)) R (sa_cons (se_var 0) (sa_cons se_int sa_nil))) sa_nil)) (fun _ _ _ _ _ => (sg_name 5 G.hN)) (fun _ _ _ _ _ => sts_nil) (fun _ _ _ _ _ => (se_bin of_add se_int (se_call (OwnD.mono o__law_take (by omega)) R (sa_cons (se_var 0) (sa_cons se_int sa_nil)))))) sa_nil)))
    (sb_cons (ss_set 8 G.hN (se_call (OwnD.mono o__law_loops (by omega)) R (sa_cons (se_var 0) (sa_cons (se_var 2) sa_nil))))
    (sb_cons (ss_set 9 G.hN (se_dictP G.hc T.n_dict boot_dict (sa_cons (se_lc [("first", 15), ("last", 16)] G.hc G.hN (by rfl) (si_seq (se_var 8)) (fun _ _ _ _ _ => (sg_tup G.hc (sgs_cons (sg_name 15 G.hN) (sgs_cons (sg_name 16 G.hN) sgs_nil)))) (fun _ _ _ _ _ => sts_nil) (fun _ _ _ _ _ => (se_tup (sa_cons (se_var 16) (sa_cons (se_var 15) sa_nil))))) sa_nil)))
    (sb_cons (ss_set 10 G.hN (se_lstM sa_nil))
    (sb_cons (ss_for G.po G.hc (si_range1 T.n_range (sa_cons (se_bin of_sub (se_var 2) se_int) sa_nil)) (sg_name 11 G.hN) (sb_cons (ss_set 12 G.hN (se_call (OwnD.mono o__law_around (by omega)) R (sa_cons (se_var 8) (sa_cons (se_var 11) sa_nil))))
    (sb_cons (ss_setLc 13 [("row", 17)] G.hc G.hN (by rfl) (si_range2 T.n_range (sa_cons (se_bin of_add (se_var 11) se_int) (sa_cons (se_var 2) sa_nil))) (fun _ _ _ _ _ => (sg_name 17 G.hN)) (fun _ _ _ _ _ => (sts_one (st_cmp (of_eq G.sm G.hu) (se_lc [("p", 18)] G.hc G.hN (by rfl) (si_seq (se_call (OwnD.mono o__law_around (by omega)) R (sa_cons (se_var 8) (sa_cons (se_var 17) sa_nil)))) (fun _ _ _ _ _ => (sg_name 18 G.hN)) (fun _ _ _ _ _ => (sts_one (st_notinA G.hu (se_var 18) (se_var 12)))) (fun _ _ _ _ _ => (se_var 18))) (se_lst sa_nil)))) (fun _ _ _ _ _ => (se_var 17)))
    (sb_one (ss_if (st_inA G.hu (se_var 11) (se_lc [("first", 15), ("last", 16)] G.hc G.hN (by rfl) (si_seq (se_var 8)) (fun _ _ _ _ _ => (sg_tup G.hc (sgs_cons (sg_name 15 G.hN) (sgs_cons (sg_name 16 G.hN) sgs_nil)))) (fun _ _ _ _ _ => sts_nil) (fun _ _ _ _ _ => (se_var 15)))) (sb_one (ss_expr (se_append (se_var 10) (se_tup (sa_cons se_str (sa_cons (se_bin of_add se_int (se_call (OwnD.mono o__law_take (by omega)) R (sa_cons (se_var 0) (sa_cons se_int sa_nil)))) sa_nil)))))) (sb_one (ss_if (st_inA G.hu (se_var 11) (se_var 9)) (sb_one (ss_expr (se_append (se_var 10) (se_tup (sa_cons se_str (sa_cons (se_bin of_add (se_ixA G.hu (se_var 9) (se_var 11)) se_int) sa_nil)))))) (sb_one (ss_if (st_cmp (of_eq G.sm G.hu) (se_call (OwnD.mono o__law_take (by omega)) R (sa_cons (se_var 0) (sa_cons se_int sa_nil))) se_int) (sb_cons (ss_set 14 G.hN (se_ixA G.hu (se_var 13) (se_ixA G.hu (se_lst (sa_cons (se_call (OwnD.mono o__law_take (by omega)) R (sa_cons (se_var 0) (sa_cons (se_callB cf_len T.n_len boot_len (sa_cons (se_var 13) sa_nil)) sa_nil))) (sa_cons (se_call (OwnD.mono o__law_take (by omega)) R (sa_cons (se_var 0) (sa_cons (se_callB (cf_min2 G.hc) T.n_min boot_min (sa_cons se_int (sa_cons (se_callB cf_len T.n_len boot_len (sa_cons (se_var 13) sa_nil)) sa_nil))) sa_nil))) sa_nil))) (se_call (OwnD.mono o__law_take (by omega)) R (sa_cons (se_var 0) (sa_cons se_int sa_nil))))))
    (sb_one (ss_expr (se_append (se_var 10) (se_ixA G.hu (se_lst (sa_cons (se_tup (sa_cons se_str (sa_cons (se_call (OwnD.mono o__law_take (by omega)) R (sa_cons (se_var 0) (sa_cons (se_var 3) sa_nil))) (sa_cons (se_var 14) sa_nil)))) (sa_cons (se_tup (sa_cons se_str (sa_cons (se_var 14) sa_nil))) sa_nil))) (se_bin of_fdiv (se_call (OwnD.mono o__law_take (by omega)) R (sa_cons (se_var 0) (sa_cons se_int sa_nil))) se_int)))))) (sb_one (ss_expr (se_append (se_var 10) (se_call (OwnD.mono o__law_plain_row (by omega)) R (sa_cons (se_var 0) (sa_cons (se_var 3) (sa_cons (se_var 7) sa_nil))))))))))))))))
    (sb_one (ss_ret (se_tup (sa_cons (se_callT cf_tuple T.n_tuple boot_tuple (sa_cons (se_var 4) sa_nil)) (sa_cons (se_var 3) (sa_cons (se_call (OwnD.mono o__law_take (by omega)) R (sa_cons (se_var 0) (sa_cons (se_bin of_add (se_var 3) se_int) sa_nil))) (sa_cons (se_var 7) (sa_cons (se_callT cf_tuple T.n_tuple boot_tuple (sa_cons (se_bin of_add (se_var 10) (se_lst (sa_cons (se_tup (sa_cons se_str sa_nil)) sa_nil))) sa_nil)) sa_nil)))))))))))))))))
/-! _law_nested -/
abbrev s__law_nested : Stmt := top 36
theorem sc__law_nested : FnScope ["rows", "open_ones", "found", "at", "row"] ["rows"] (defScope s__law_nested) := ⟨rfl, rfl, rfl, by decide +kernel, rfl, by decide +kernel, by decide +kernel⟩
def b__law_nested_1 : DSt := (sSeq (sExpr (dAppend (dVar 2) (dCallB gTuple (aCons (dVar 1) aNil))))
    (sSeq (sIf (tOf (dBin (lift2 (gEq false)) (dIxA (dVar 4) (dK (.int 0))) (dK (.str "count")))) (sExpr (dAppend (dVar 1) (dVar 3))) sNil)
    (sSeq (sIf (tOf (dBin (lift2 (gEq false)) (dIxA (dVar 4) (dK (.int 0))) (dK (.str "again")))) (sSeq (sIf (tOr (tOf (dBin (lift2 (gEq false)) (dVar 1) (dLst aNil))) (tOf (dBin (lift2 (gEq true)) (dIxA (dVar 4) (dK (.int 1))) (dBin (lift2 gAdd) (dIxA (dVar 1) (dNeg (dK (.int 1)))) (dK (.int 1)))))) (sRet (dK .none)) sNil)
    (sExpr (dPop (dVar 1)))) sNil)
    (sIf (tOf (dBin (lift2 gGt) (dCallB gLen (aCons (dVar 1) aNil)) (dK (.int 2)))) (sRet (dK .none)) sNil))))
def d__law_nested_0 : DSt := (sPar 1 2 (aCons (dLstM aNil) (aCons (dLstM aNil) aNil)))
def d__law_nested_1 : DSt := (sFor (dEnum (aCons (dVar 0) aNil)) (gTup 2 (DL.gCons (gName 3) (DL.gCons (gName 4) gNil))) b__law_nested_1)
def d__law_nested_2 : DSt := (sRet (dIf (tOf (dBin (lift2 (gEq false)) (dVar 1) (dLst aNil))) (dVar 2) (dK .none)))
def d__law_nested : DSt := (sSeq d__law_nested_0 (sSeq d__law_nested_1 d__law_nested_2))
def f__law_nested : DF := fnOf 1 5 d__law_nested
theorem o__law_nested {P : Program} {w : World} {K : Frag} {mg : Str → Option Value} {base : Heap} {f : Addr} {fd : FuncData} (T : Txt K w mg) (sm : SysM K) (F : FunD K "_law_nested" "_law_nested" (defArgs s__law_nested) (defBody s__law_nested) (defScope s__law_nested) [] [] f fd) (hg : mg "_law_nested" = some (.ref f))  : SFn P w K mg base "_law_nested" 1 f__law_nested :=
  own_F F hg sc__law_nested (fun _ _ _ _ _ _ us hl => match us, hl with | [_], _ => rfl) (by decide +kernel) sm fun cdv A outer s H E G R => (sb_cons (ss_par 1 2 G.hc G.hN (sa_cons (se_lstM sa_nil) (sa_cons (se_lstM sa_nil) sa_nil)))
    (sb_cons (ss_for G.po G.hc (si_enum T.n_enumerate (sa_cons (se_var 0) sa_nil)) (sg_tup G.hc (sgs_cons (sg_name 3 G.hN) (sgs_cons (sg_name 4 G.hN) sgs_nil))) (sb_cons (ss_expr (se_append (se_var 2) (se_callT cf_tuple T.n_tuple boot_tuple (sa_cons (se_var 1) sa_nil))))
    (sb_cons (ss_if (st_cmp (of_eq G.sm G.hu) (se_ixA G.hu (se_var 4) se_int) se_str) (sb_one (ss_expr (se_append (se_var 1) (se_var 3)))) sb_nil)
    (sb_cons (ss_if (st_cmp (of_eq G.sm G.hu) (se_ixA G.hu (se_var 4) se_int) se_str) (sb_cons (ss_if (st_bool (sw_or (st_cmp (of_eq G.sm G.hu) (se_var 1) (se_lst sa_nil)) (sw_or1 (st_cmp (of_ne G.sm G.hu) (se_ixA G.hu (se_var 4) se_int) (se_bin of_add (se_ixA G.hu (se_var 1) (se_neg se_int)) se_int))))) (sb_one (ss_ret se_non)) sb_nil)
    (sb_one (ss_expr (se_pop (se_var 1))))) sb_nil)
    (sb_one (ss_if (st_cmp of_gt (se_callB cf_len T.n_len boot_len (sa_cons (se_var 1) sa_nil)) se_int) (sb_one (ss_ret se_non)) sb_nil))))))
    (sb_one (ss_ret (se_if (st_cmp (of_eq G.sm G.hu) (se_var 1) (se_lst sa_nil)) (se_var 2) se_non)))))
/-! _law_whole -/
abbrev s__law_whole : Stmt := top 40
theorem sc__law_whole : FnScope ["thing"] ["thing"] (defScope s__law_whole) := ⟨rfl, rfl, rfl, by decide +kernel, rfl, by decide +kernel, by decide +kernel⟩
def d__law_whole : DSt := (sRet (dAnd (dCallB gIsi (aCons (dVar 0) (aCons (dKv (.ty "int")) aNil))) (dNot (dCallB gIsi (aCons (dVar 0) (aCons (dKv (.ty "bool")) aNil))))))
def f__law_whole : DF := fnOf 1 1 d__law_whole
theorem o__law_whole {P : Program} {w : World} {K : Frag} {mg : Str → Option Value} {base : Heap} {f : Addr} {fd : FuncData} (T : Txt K w mg) (sm : SysM K) (F : FunD K "_law_whole" "_law_whole" (defArgs s__law_whole) (defBody s__law_whole) (defScope s__law_whole) [] [] f fd) (hg : mg "_law_whole" = some (.ref f))  : SFn P w K mg base "_law_whole" 1 f__law_whole :=
  own_F F hg sc__law_whole (fun _ _ _ _ _ _ us hl => match us, hl with | [_], _ => rfl) (by decide +kernel) sm fun cdv A outer s H E G R => (sb_one (ss_ret (se_and (se_callB cf_isi T.n_isinstance boot_isinstance (sa_cons (se_var 0) (sa_cons (se_type T.n_int boot_int) sa_nil))) (se_one (se_not (se_callB cf_isi T.n_isinstance boot_isinstance (sa_cons (se_var 0) (sa_cons (se_type T.n_bool boot_bool) sa_nil))))))))
/-! _law_is_row -/
abbrev s__law_is_row : Stmt := top 37
theorem sc__law_is_row : FnScope ["row", "tops", "forms", "kinds", "kind", "part"] ["row", "tops"] (defScope s__law_is_row) := ⟨rfl, rfl, rfl, by decide +kernel, rfl, by decide +kernel, by decide +kernel⟩
def b__law_is_row_1 : DSt := (sIf (tNot (tOf (dChain gLe gLt (dCallB gIntOf (aCons (dBin (lift2 (gEq false)) (dVar 4) (dK (.str "m"))) aNil)) (dVar 5) (dIxA (dVar 1) (dVar 4))))) (sRet (dK (.bool false))) sNil)
def d__law_is_row_0 : DSt := (sSet 2 (dDisp (pCons (dK (.str "set")) (dK (.str "rw")) (pCons (dK (.str "copy")) (dK (.str "rr")) (pCons (dK (.str "get")) (dK (.str "rar")) (pCons (dK (.str "put")) (dK (.str "arr")) (pCons (dK (.str "test")) (dK (.str "rn")) (pCons (dK (.str "go")) (dK (.str "n")) (pCons (dK (.str "count")) (dK (.str "m")) (pCons (dK (.str "again")) (dK (.str "n")) pNil))))))))))
def d__law_is_row_1 : DSt := (sExpr (dUpdate (dVar 2) (dDisp (pCons (dK (.str "+")) (dK (.str "rrr")) (pCons (dK (.str "-")) (dK (.str "rrr")) (pCons (dK (.str "*")) (dK (.str "rrr")) (pCons (dK (.str "<")) (dK (.str "rrr")) (pCons (dK (.str "=")) (dK (.str "rrr")) (pCons (dK (.str "rest")) (dK (.str "")) (pCons (dK (.str "end")) (dK (.str "")) pNil))))))))))
def d__law_is_row_2 : DSt := (sIf (tOr (tNot (tOf (dCallB gIsi (aCons (dVar 0) (aCons (dKv (.ty "tuple")) aNil))))) (tOr (tOf (dBin (lift2 (gEq false)) (dVar 0) (dTup aNil))) (tOr (tNot (tOf (dCallB gIsi (aCons (dIxA (dVar 0) (dK (.int 0))) (aCons (dKv (.ty "str")) aNil))))) (tOf (dInA true (dIxA (dVar 0) (dK (.int 0))) (dVar 2)))))) (sRet (dK (.bool false))) sNil)
def d__law_is_row_3 : DSt := (sSet 3 (dIxA (dVar 2) (dIxA (dVar 0) (dK (.int 0)))))
def d__law_is_row_4 : DSt := (sIf (tOr (tOf (dBin (lift2 (gEq true)) (dCallB gLen (aCons (dVar 0) aNil)) (dBin (lift2 gAdd) (dK (.int 1)) (dCallB gLen (aCons (dVar 3) aNil))))) (tNot (tOf (dCallB gAll (aCons (dLc (dSeqI (dSlL (dVar 0) (dK (.int 1)))) [5] (gName 5) tYes (dCall f__law_whole (aCons (dVar 5) aNil))) aNil))))) (sRet (dK (.bool false))) sNil)
def d__law_is_row_5 : DSt := (sFor (dZip (aCons (dVar 3) (aCons (dSlL (dVar 0) (dK (.int 1))) aNil))) (gTup 2 (DL.gCons (gName 4) (DL.gCons (gName 5) gNil))) b__law_is_row_1)
def d__law_is_row_6 : DSt := (sRet (dK (.bool true)))
def d__law_is_row : DSt := (sSeq d__law_is_row_0 (sSeq d__law_is_row_1 (sSeq d__law_is_row_2 (sSeq d__law_is_row_3 (sSeq d__law_is_row_4 (sSeq d__law_is_row_5 d__law_is_row_6))))))
def f__law_is_row : DF := fnOf 2 6 d__law_is_row
theorem o__law_is_row {P : Program} {w : World} {K : Frag} {mg : Str → Option Value} {base : Heap} {f : Addr} {fd : FuncData} (T : Txt K w mg) (sm : SysM K) (F : FunD K "_law_is_row" "_law_is_row" (defArgs s__law_is_row) (defBody s__law_is_row) (defScope s__law_is_row) [] [] f fd) (hg : mg "_law_is_row" = some (.ref f)) (o__law_whole : SFn P w K mg base "_law_whole" 1 f__law_whole) : SFn P w K mg base "_law_is_row" 2 f__law_is_row :=
  own_F F hg sc__law_is_row (fun _ _ _ _ _ _ us hl => match us, hl with | [_, _], _ => rfl) (by decide +kernel) sm fun cdv A outer s H E G R => (sb_cons (ss_set 2 G.hN (se_disp (pps_cons pe_w pe_w (pps_cons pe_w pe_w (pps_cons pe_w pe_w (pps_cons pe_w pe_w (pps_cons pe_w pe_w (pps_cons pe_w pe_w (pps_cons pe_w pe_w (pps_cons pe_w pe_w pps_nil)))))))) (sps_cons se_str se_str (sps_cons se_str se_str (sps_cons se_str se_str (sps_cons se_str se_str (sps_cons se_str se_str (sps_cons se_str se_str (sps_cons se_str se_str (sps_cons se_str se_str sps_nil))))))))))
    (sb_cons (ss_expr (se_update (se_var 2) (se_disp (pps_cons pe_w pe_w (pps_cons pe_w pe_w (pps_cons pe_w pe_w (pps_cons pe_w pe_w (pps_cons pe_w pe_w (pps_cons pe_w pe_w (pps_cons pe_w pe_w pps_nil))))))) (sps_cons se_str se_str (sps_cons se_str se_str (sps_cons se_str se_str (sps_cons se_str se_str (sps_cons se_str se_str (sps_cons se_str se_str (sps_cons se_str se_str sps_nil))))))))))
    (sb_cons (ss_if (st_bool (sw_or (st_not (st_val (se_callB cf_isi T.n_isinstance boot_isinstance (sa_cons (se_var 0) (sa_cons (se_type T.n_tuple boot_tuple) sa_nil))))) (sw_or (st_cmp (of_eq G.sm G.hu) (se_var 0) (se_tup sa_nil)) (sw_or (st_not (st_val (se_callB cf_isi T.n_isinstance boot_isinstance (sa_cons (se_ixA G.hu (se_var 0) se_int) (sa_cons (se_type T.n_str boot_str) sa_nil))))) (sw_or1 (st_notinA G.hu (se_ixA G.hu (se_var 0) se_int) (se_var 2))))))) (sb_one (ss_ret se_bl)) sb_nil)
    (sb_cons (ss_set 3 G.hN (se_ixA G.hu (se_var 2) (se_ixA G.hu (se_var 0) se_int)))
    (sb_cons (ss_if (st_bool (sw_or (st_cmp (of_ne G.sm G.hu) (se_callB cf_len T.n_len boot_len (sa_cons (se_var 0) sa_nil)) (se_bin of_add se_int (se_callB cf_len T.n_len boot_len (sa_cons (se_var 3) sa_nil)))) (sw_or1 (st_not (st_val (se_callB (cf_all G.hc) T.n_all boot_all (sa_cons (se_lc [("part", 5)] G.hc G.hN (by rfl) (si_seq (se_slL (se_var 0) se_int)) (fun _ _ _ _ _ => (sg_name 5 G.hN)) (fun _ _ _ _ _ => sts_nil) (fun _ _ _ _ _ => (se_call (OwnD.mono o__law_whole (by omega)) R (sa_cons (se_var 5) sa_nil)))) sa_nil))))))) (sb_one (ss_ret se_bl)) sb_nil)
    (sb_cons (ss_for G.po G.hc (si_zip T.n_zip (sa_cons (se_var 3) (sa_cons (se_slL (se_var 0) se_int) sa_nil))) (sg_tup G.hc (sgs_cons (sg_name 4 G.hN) (sgs_cons (sg_name 5 G.hN) sgs_nil))) (sb_one (ss_if (st_not (st_chain of_le of_lt (se_callT cf_int T.n_int boot_int (sa_cons (se_cmp (of_eq G.sm G.hu) (se_var 4) se_str) sa_nil)) (se_var 5) (se_ixA G.hu (se_var 1) (se_var 4)))) (sb_one (ss_ret se_bl)) sb_nil)))
    (sb_one (ss_ret se_bl))))))))
/-! _law_are_jumps -/
abbrev s__law_are_jumps : Stmt := top 38
theorem sc__law_are_jumps : FnScope ["rows", "nested", "at", "row", "to", "first"] ["rows", "nested"] (defScope s__law_are_jumps) := ⟨rfl, rfl, rfl, by decide +kernel, rfl, by decide +kernel, by decide +kernel⟩
def b__law_are_jumps_1 : DSt := (sIf (tOf (dInA false (dIxA (dVar 3) (dK (.int 0))) (dTup (aCons (dK (.str "test")) (aCons (dK (.str "go")) aNil))))) (sSeq (sSet 4 (dIxA (dVar 3) (dNeg (dK (.int 1)))))
    (sIf (tOr (tOf (dBin (lift2 gLe) (dVar 4) (dVar 2))) (tNot (tOf (dCallB gAll (aCons (dLc (dSeqI (dIxA (dVar 1) (dVar 4))) [5] (gName 5) tYes (dInA false (dVar 5) (dIxA (dVar 1) (dVar 2)))) aNil))))) (sRet (dK (.bool false))) sNil)) sNil)
def d__law_are_jumps_0 : DSt := (sFor (dEnum (aCons (dVar 0) aNil)) (gTup 2 (DL.gCons (gName 2) (DL.gCons (gName 3) gNil))) b__law_are_jumps_1)
def d__law_are_jumps_1 : DSt := (sRet (dK (.bool true)))
def d__law_are_jumps : DSt := (sSeq d__law_are_jumps_0 d__law_are_jumps_1)
def f__law_are_jumps : DF := fnOf 2 6 d__law_are_jumps
theorem o__law_are_jumps {P : Program} {w : World} {K : Frag} {mg : Str → Option Value} {base : Heap} {f : Addr} {fd : FuncData} (T : Txt K w mg) (sm : SysM K) (F : FunD K "_law_are_jumps" "_law_are_jumps" (defArgs s__law_are_jumps) (defBody s__law_are_jumps) (defScope s__law_are_jumps) [] [] f fd) (hg : mg "_law_are_jumps" = some (.ref f))  : SFn P w K mg base "_law_are_jumps" 1 f__law_are_jumps :=
  own_F F hg sc__law_are_jumps (fun _ _ _ _ _ _ us hl => match us, hl with | [_, _], _ => rfl) (by decide +kernel) sm fun cdv A outer s H E G R => (sb_cons (ss_for G.po G.hc (si_enum T.n_enumerate (sa_cons (se_var 0) sa_nil)) (sg_tup G.hc (sgs_cons (sg_name 2 G.hN) (sgs_cons (sg_name 3 G.hN) sgs_nil))) (sb_one (ss_if (st_inA G.hu (se_ixA G.hu (se_var 3) se_int) (se_tup (sa_cons se_str (sa_cons se_str sa_nil)))) (sb_cons (ss_set 4 G.hN (se_ixA G.hu (se_var 3) (se_neg se_int)))
    (sb_one (ss_if (st_bool (sw_or (st_cmp of_le (se_var 4) (se_var 2)) (sw_or1 (st_not (st_val (se_callB (cf_all G.hc) T.n_all boot_all (sa_cons (se_lc [("first", 5)] G.hc G.hN (by rfl) (si_seq (se_ixA G.hu (se_var 1) (se_var 4))) (fun _ _ _ _ _ => (sg_name 5 G.hN)) (fun _ _ _ _ _ => sts_nil) (fun _ _ _ _ _ => (se_inA G.hu (se_var 5) (se_ixA G.hu (se_var 1) (se_var 2))))) sa_nil))))))) (sb_one (ss_ret se_bl)) sb_nil))) sb_nil)))
    (sb_one (ss_ret se_bl)))
/-! _law_is_code -/
abbrev s__law_is_code : Stmt := top 39
theorem sc__law_is_code : FnScope ["thing", "asks", "many", "shown", "sizes", "rows", "ask", "tops", "nested", "row", "at", "part", "size"] ["thing"] (defScope s__law_is_code) := ⟨rfl, rfl, rfl, by decide +kernel, rfl, by decide +kernel, by decide +kernel⟩
def b__law_is_code_1 : DSt := (sSeq (sIf (tOr (tNot (tOf (dCallB gIsi (aCons (dVar 6) (aCons (dKv (.ty "tuple")) aNil))))) (tOf (dBin (lift2 (gEq true)) (dCallB gLen (aCons (dVar 6) aNil)) (dK (.int 2))))) (sRet (dK (.bool false))) sNil)
    (sSeq (sIf (tNot (tOf (dCallB gAll (aCons (dLc (dSeqI (dVar 6)) [11] (gName 11) tYes (dCall f__law_whole (aCons (dVar 11) aNil))) aNil)))) (sRet (dK (.bool false))) sNil)
    (sIf (tNot (tChain3 gLe gLe gLt (dK (.int 0)) (dIxA (dVar 6) (dK (.int 0))) (dIxA (dVar 6) (dK (.int 1))) (dK (.int 256)))) (sRet (dK (.bool false))) sNil)))
def d__law_is_code_0 : DSt := (sIf (tOr (tNot (tOf (dCallB gIsi (aCons (dVar 0) (aCons (dKv (.ty "tuple")) aNil))))) (tOf (dBin (lift2 (gEq true)) (dCallB gLen (aCons (dVar 0) aNil)) (dK (.int 5))))) (sRet (dK (.bool false))) sNil)
def d__law_is_code_1 : DSt := (sAsg (gTup 5 (DL.gCons (gName 1) (DL.gCons (gName 2) (DL.gCons (gName 3) (DL.gCons (gName 4) (DL.gCons (gName 5) gNil)))))) (dVar 0))
def d__law_is_code_2 : DSt := (sIf (tOr (tNot (tOf (dCallB gIsi (aCons (dVar 1) (aCons (dKv (.ty "tuple")) aNil))))) (tNot (tOf (dCallB gIsi (aCons (dVar 4) (aCons (dKv (.ty "tuple")) aNil)))))) (sRet (dK (.bool false))) sNil)
def d__law_is_code_3 : DSt := (sIf (tNot (tOf (dCallB gIsi (aCons (dVar 5) (aCons (dKv (.ty "tuple")) aNil))))) (sRet (dK (.bool false))) sNil)
def d__law_is_code_4 : DSt := (sFor (dSeqI (dVar 1)) (gName 6) b__law_is_code_1)
def d__law_is_code_5 : DSt := (sIf (tOr (tOf (dBin (lift2 gGt) (dCallB gLen (aCons (dVar 1) aNil)) (dK (.int 3)))) (tOr (tNot (tOf (dCall f__law_whole (aCons (dVar 2) aNil)))) (tNot (tOf (dChain gLe gLe (dCallB gMax2 (aCons (dK (.int 1)) (aCons (dCallB gLen (aCons (dVar 1) aNil)) aNil))) (dVar 2) (dK (.int 16))))))) (sRet (dK (.bool false))) sNil)
def d__law_is_code_6 : DSt := (sIf (tOr (tNot (tOf (dCall f__law_whole (aCons (dVar 3) aNil)))) (tOr (tNot (tOf (dChain gLe gLe (dK (.int 0)) (dVar 3) (dVar 2)))) (tOf (dBin (lift2 gGt) (dCallB gLen (aCons (dVar 4) aNil)) (dK (.int 2)))))) (sRet (dK (.bool false))) sNil)
def d__law_is_code_7 : DSt := (sIf (tOr (tNot (tOf (dCallB gAll (aCons (dLc (dSeqI (dVar 4)) [12] (gName 12) tYes (dAnd (dCall f__law_whole (aCons (dVar 12) aNil)) (dChain gLt gLt (dK (.int 0)) (dVar 12) (dK (.int 7))))) aNil)))) (tNot (tOf (dChain gLt gLt (dK (.int 0)) (dCallB gLen (aCons (dVar 5) aNil)) (dK (.int 61)))))) (sRet (dK (.bool false))) sNil)
def d__law_is_code_8 : DSt := (sSet 7 (dDisp (pCons (dK (.str "r")) (dVar 2) (pCons (dK (.str "w")) (dK (.int 256)) (pCons (dK (.str "a")) (dCallB gLen (aCons (dVar 4) aNil)) (pCons (dK (.str "n")) (dCallB gLen (aCons (dVar 5) aNil)) (pCons (dK (.str "m")) (dK (.int 7)) pNil)))))))
def d__law_is_code_9 : DSt := (sIf (tOf (dBin (lift2 (gEq true)) (dLc (dSeqI (dVar 5)) [9] (gName 9) (tNot (tOf (dCall f__law_is_row (aCons (dVar 9) (aCons (dVar 7) aNil))))) (dK (.int 1))) (dLst aNil))) (sRet (dK (.bool false))) sNil)
def d__law_is_code_10 : DSt := (sIf (tOf (dBin (lift2 (gEq true)) (dLc (dEnum (aCons (dVar 5) aNil)) [10, 9] (gTup 2 (DL.gCons (gName 10) (DL.gCons (gName 9) gNil))) (tOf (dBin (lift2 (gEq false)) (dVar 9) (dTup (aCons (dK (.str "end")) aNil)))) (dVar 10)) (dLst (aCons (dBin (lift2 gSub) (dCallB gLen (aCons (dVar 5) aNil)) (dK (.int 1))) aNil)))) (sRet (dK (.bool false))) sNil)
def d__law_is_code_11 : DSt := (sSet 8 (dCall f__law_nested (aCons (dVar 5) aNil)))
def d__law_is_code_12 : DSt := (sRet (dAnd (dBin (lift2 (gIs true)) (dVar 8) (dK .none)) (dCall f__law_are_jumps (aCons (dVar 5) (aCons (dVar 8) aNil)))))
def d__law_is_code : DSt := (sSeq d__law_is_code_0 (sSeq d__law_is_code_1 (sSeq d__law_is_code_2 (sSeq d__law_is_code_3 (sSeq d__law_is_code_4 (sSeq d__law_is_code_5 (sSeq d__law_is_code_6 (sSeq d__law_is_code_7 (sSeq d__law_is_code_8 (sSeq d__law_is_code_9 (sSeq d__law_is_code_10 (sSeq d__law_is_code_11 d__law_is_code_12))))))))))))
def f__law_is_code : DF := fnOf 1 13 d__law_is_code
theorem o__law_is_code {P : Program} {w : World} {K : Frag} {mg : Str → Option Value} {base : Heap} {f : Addr} {fd : FuncData} (T : Txt K w mg) (sm : SysM K) (F : FunD K "_law_is_code" "_law_is_code" (defArgs s__law_is_code) (defBody s__law_is_code) (defScope s__law_is_code) [] [] f fd) (hg : mg "_law_is_code" = some (.ref f)) (o__law_whole : SFn P w K mg base "_law_whole" 1 f__law_whole) (o__law_is_row : SFn P w K mg base "_law_is_row" 2 f__law_is_row) (o__law_nested : SFn P w K mg base "_law_nested" 1 f__law_nested) (o__law_are_jumps : SFn P w K mg base "_law_are_jumps" 1 f__law_are_jumps) : SFn P w K mg base "_law_is_code" 3 f__law_is_code :=
  own_F F hg sc__law_is_code (fun _ _ _ _ _ _ us hl => match us, hl with | [_], _ => rfl) (by decide +kernel) sm fun cdv A outer s H E G R => (sb_cons (ss_if (st_bool (sw_or (st_not (st_val (se_callB cf_isi T.n_isinstance boot_isinstance (sa_cons (se_var 0) (sa_cons (se_type T.n_tuple boot_tuple) sa_nil))))) (sw_or1 (st_cmp (of_ne G.sm G.hu) (se_callB cf_len T.n_len boot_len (sa_cons (se_var 0) sa_nil)) se_int)))) (sb_one (ss_ret se_bl)) sb_nil)
    (sb_cons (ss_asg (se_var 0) (sg_tup G.hc (sgs_cons (sg_name 1 G.hN) (sgs_cons (sg_name 2 G.hN) (sgs_cons (sg_name 3 G.hN) (sgs_cons (sg_name 4 G.hN) (sgs_cons (sg_name 5 G.hN) sgs_nil)))))))
    (sb_cons (ss_if (st_bool (sw_or (st_not (st_val (se_callB cf_isi T.n_isinstance boot_isinstance (sa_cons (se_var 1) (sa_cons (se_type T.n_tuple boot_tuple) sa_nil))))) (sw_or1 (st_not (st_val (se_callB cf_isi T.n_isinstance boot_isinstance (sa_cons (se_var 4) (sa_cons (se_type T.n_tuple boot_tuple) sa_nil)))))))) (sb_one (ss_ret se_bl)) sb_nil)
    (sb_cons (ss_if (st_not (st_val (se_callB cf_isi T.n_isinstance boot_isinstance (sa_cons (se_var 5) (sa_cons (se_type T.n_tuple boot_tuple) sa_nil))))) (sb_one (ss_ret se_bl)) sb_nil)
    (sb_cons (ss_for G.po G.hc (si_seq (se_var 1)) (sg_name 6 G.hN) (sb_cons (ss_if (st_bool (sw_or (st_not (st_val (se_callB cf_isi T.n_isinstance boot_isinstance (sa_cons (se_var 6) (sa_cons (se_type T.n_tuple boot_tuple) sa_nil))))) (sw_or1 (st_cmp (of_ne G.sm G.hu) (se_callB cf_len T.n_len boot_len (sa_cons (se_var 6) sa_nil)) se_int)))) (sb_one (ss_ret se_bl)) sb_nil)
    (sb_cons (ss_if (st_not (st_val (se_callB (cf_all G.hc) T.n_all boot_all (sa_cons (se_lc [("part", 11)] G.hc G.hN (by rfl) (si_seq (se_var 6)) (fun _ _ _ _ _ => (sg_name 11 G.hN)) (fun _ _ _ _ _ => sts_nil) (fun _ _ _ _ _ => (se_call (OwnD.mono o__law_whole (by omega)) R (sa_cons (se_var 11) sa_nil)))) sa_nil)))) (sb_one (ss_ret se_bl)) sb_nil)
    (sb_one (ss_if (st_not (st_chain3 of_le of_le of_lt se_int (se_ixA G.hu (se_var 6) se_int) (se_ixA G.hu (se_var 6) se_int) se_int)) (sb_one (ss_ret se_bl)) sb_nil)))))
    (sb_cons (ss_if (st_bool (sw_or (st_cmp of_gt (se_callB cf_len T.n_len boot_len (sa_cons (se_var 1) sa_nil)) se_int) (sw_or (st_not (st_val (se_call (OwnD.mono o__law_whole (by omega)) R (sa_cons (se_var 2) sa_nil)))) (sw_or1 (st_not (st_chain of_le of_le (se_callB (cf_max2 G.hc) T.n_max boot_max (sa_cons se_int (sa_cons (se_callB cf_len T.n_len boot_len (sa_cons (se_var 1) sa_nil)) sa_nil))) (se_var 2) se_int)))))) (sb_one (ss_ret se_bl)) sb_nil)
    (sb_cons (ss_if (st_bool (sw_or (st_not (st_val (se_call (OwnD.mono o__law_whole (by omega)) R (sa_cons (se_var 3) sa_nil)))) (sw_or (st_not (st_chain of_le of_le se_int (se_var 3) (se_var 2))) (sw_or1 (st_cmp of_gt (se_callB cf_len T.n_len boot_len (sa_cons (se_var 4) sa_nil)) se_int))))) (sb_one (ss_ret se_bl)) sb_nil)
    (sb_cons (ss_if (st_bool (sw_or (st_not (st_val (se_callB (cf_all G.hc) T.n_all boot_all (sa_cons (se_lc [("size", 12)] G.hc G.hN (by rfl) (si_seq (se_var 4)) (fun _ _ _ _ _ => (sg_name 12 G.hN)) (fun _ _ _ _ _ => sts_nil) (fun _ _ _ _ _ => (se_and (se_call (OwnD.mono o__law_whole (by omega)) R (sa_cons (se_var 12) sa_nil)) (se_one (se_chain of_lt of_lt se_int (se_var 12) se_int))))) sa_nil)))) (sw_or1 (st_not (st_chain of_lt of_lt se_int (se_callB cf_len T.n_len boot_len (sa_cons (se_var 5) sa_nil)) se_int))))) (sb_one (ss_ret se_bl)) sb_nil)
    (sb_cons (ss_set 7 G.hN (se_disp (pps_cons pe_w pe_w (pps_cons pe_w pe_w (pps_cons pe_w pe_w (pps_cons pe_w pe_w (pps_cons pe_w pe_w pps_nil))))) (sps_cons se_str (se_var 2) (sps_cons se_str se_int (sps_cons se_str (se_callB cf_len T.n_len boot_len (sa_cons (se_var 4) sa_nil)) (sps_cons se_str (se_callB cf_len T.n_len boot_len (sa_cons (se_var 5) sa_nil)) (sps_cons se_str se_int sps_nil)))))))
    (sb_cons (ss_if (st_cmp (of_ne G.sm G.hu) (se_lc [("row", 9)] G.hc G.hN (by rfl) (si_seq (se_var 5)) (fun _ _ _ _ _ => (sg_name 9 G.hN)) (fun _ _ _ _ _ => (sts_one (st_not (st_val (se_call (OwnD.mono o__law_is_row (by omega)) R (sa_cons (se_var 9) (sa_cons (se_var 7) sa_nil))))))) (fun _ _ _ _ _ => se_int)) (se_lst sa_nil)) (sb_one (ss_ret se_bl)) sb_nil)
    (sb_cons (ss_if (st_cmp (of_ne G.sm G.hu) (se_lc [("at", 10), ("row", 9)] G.hc G.hN (by rfl) (si_enum T.n_enumerate (sa_cons (se_var 5) sa_nil)) (fun _ _ _ _ _ => (sg_tup G.hc (sgs_cons (sg_name 10 G.hN) (sgs_cons (sg_name 9 G.hN) sgs_nil)))) (fun _ _ _ _ _ => (sts_one (st_cmp (of_eq G.sm G.hu) (se_var 9) (se_tup (sa_cons se_str sa_nil))))) (fun _ _ _ _ _ => (se_var 10))) (se_lst (sa_cons (se_bin of_sub (se_callB cf_len T.n_len boot_len (sa_cons (se_var 5) sa_nil)) se_int) sa_nil))) (sb_one (ss_ret se_bl)) sb_nil)
    (sb_cons (ss_set 8 G.hN (se_call (OwnD.mono o__law_nested (by omega)) R (sa_cons (se_var 5) sa_nil)))
    (sb_one (ss_ret (se_and (se_cmp of_isnot (se_var 8) se_non) (se_one (se_call (OwnD.mono o__law_are_jumps (by omega)) R (sa_cons (se_var 5) (sa_cons (se_var 8) sa_nil)))))))))))))))))))
/-! _law_odd -/
abbrev s__law_odd : Stmt := top 41
theorem sc__law_odd : FnScope ["pot", "some"] ["pot"] (defScope s__law_odd) := ⟨rfl, rfl, rfl, by decide +kernel, rfl, by decide +kernel, by decide +kernel⟩
def d__law_odd_0 : DSt := (sSet 1 (dLst (aCons (dK .none) (aCons (dK (.bool true)) (aCons (dK (.bool false)) (aCons (dK (.str "")) (aCons (dK (.str "end")) (aCons (dK (.int 0)) (aCons (dNeg (dK (.int 1))) (aCons (dK (.int 1)) (aCons (dK (.int 59)) (aCons (dK (.int 60)) (aCons (dK (.int 255)) (aCons (dK (.int 256)) (aCons (dBin (lift2 gPow) (dK (.int 10)) (dK (.int 39))) (aCons (dTup aNil) (aCons (dLst aNil) (aCons (dK (.dict [])) (aCons (dTup (aCons (dK (.str "rest")) aNil)) (aCons (dTup (aCons (dK (.str "end")) aNil)) aNil))))))))))))))))))))
def d__law_odd_1 : DSt := (sSet 1 (dBin (lift2 gAdd) (dVar 1) (dLst (aCons (dTup (aCons (dK (.str "again")) (aCons (dK (.int 1)) aNil))) (aCons (dTup (aCons (dK (.str "count")) (aCons (dK (.int 1)) aNil))) (aCons (dTup (aCons (dK (.str "count")) (aCons (dK (.int 7)) aNil))) (aCons (dTup (aCons (dK (.str "go")) (aCons (dK (.int 1)) aNil))) (aCons (dTup (aCons (dK (.int 0)) (aCons (dK (.int 255)) aNil))) (aCons (dTup (aCons (dK (.int 255)) (aCons (dK (.int 0)) aNil))) (aCons (dTup (aCons (dK (.str "test")) (aCons (dK (.int 0)) (aCons (dK (.int 2)) aNil)))) aNil))))))))))
def d__law_odd_2 : DSt := (sRet (dIxA (dVar 1) (dCall f__law_take (aCons (dVar 0) (aCons (dK (.int 25)) aNil)))))
def d__law_odd : DSt := (sSeq d__law_odd_0 (sSeq d__law_odd_1 d__law_odd_2))
def f__law_odd : DF := fnOf 1 2 d__law_odd
theorem o__law_odd {P : Program} {w : World} {K : Frag} {mg : Str → Option Value} {base : Heap} {f : Addr} {fd : FuncData} (T : Txt K w mg) (sm : SysM K) (F : FunD K "_law_odd" "_law_odd" (defArgs s__law_odd) (defBody s__law_odd) (defScope s__law_odd) [] [] f fd) (hg : mg "_law_odd" = some (.ref f)) (o__law_take : SFn P w K mg base "_law_take" 1 f__law_take) : SFn P w K mg base "_law_odd" 2 f__law_odd :=
  own_F F hg sc__law_odd (fun _ _ _ _ _ _ us hl => match us, hl with | [_], _ => rfl) (by decide +kernel) sm fun cdv A outer s H E G R => (sb_cons (ss_set 1 G.hN (se_lst (sa_cons se_non (sa_cons se_bl (sa_cons se_bl (sa_cons se_str (sa_cons se_str (sa_cons se_int (sa_cons (se_neg se_int) (sa_cons se_int (sa_cons se_int (sa_cons se_int (sa_cons se_int (sa_cons se_int (sa_cons (se_bin of_pow se_int se_int) (sa_cons (se_tup sa_nil) (sa_cons (se_lst sa_nil) (sa_cons se_dict0 (sa_cons (se_tup (sa_cons se_str sa_nil)) (sa_cons (se_tup (sa_cons se_str sa_nil)) sa_nil))))))))))))))))))))
    (sb_cons (ss_set 1 G.hN (se_bin of_add (se_var 1) (se_lst (sa_cons (se_tup (sa_cons se_str (sa_cons se_int sa_nil))) (sa_cons (se_tup (sa_cons se_str (sa_cons se_int sa_nil))) (sa_cons (se_tup (sa_cons se_str (sa_cons se_int sa_nil))) (sa_cons (se_tup (sa_cons se_str (sa_cons se_int sa_nil))) (sa_cons (se_tup (sa_cons se_int (sa_cons se_int sa_nil))) (sa_cons (se_tup (sa_cons se_int (sa_cons se_int sa_nil))) (sa_cons (se_tup (sa_cons se_str (sa_cons se_int (sa_cons se_int sa_nil)))) sa_nil))))))))))
    (sb_one (ss_ret (se_ixA G.hu (se_var 1) (se_call (OwnD.mono o__law_take (by omega)) R (sa_cons (se_var 0) (sa_cons se_int sa_nil))))))))
/-! _law_spoilt -/
abbrev s__law_spoilt : Stmt := top 42
theorem sc__law_spoilt : FnScope ["pot", "thing", "deep", "way", "odd", "at", "ahead", "behind"] ["pot", "thing", "deep"] (defScope s__law_spoilt) := ⟨rfl, rfl, rfl, by decide +kernel, rfl, by decide +kernel, by decide +kernel⟩
def d__law_spoilt_0 (self : DF) : DSt := (sPar 3 4 (aCons (dCall f__law_take (aCons (dVar 0) (aCons (dK (.int 8)) aNil))) (aCons (dCall f__law_odd (aCons (dVar 0) aNil)) aNil)))
def d__law_spoilt_1 (self : DF) : DSt := (sIf (tOr (tNot (tOf (dCallB gIsi (aCons (dVar 1) (aCons (dKv (.ty "tuple")) aNil))))) (tOr (tOf (dBin (lift2 (gEq false)) (dVar 1) (dTup aNil))) (tOf (dBin (lift2 (gEq false)) (dVar 2) (dK (.int 0)))))) (sRet (dIf (tAnd (tOf (dCall f__law_whole (aCons (dVar 1) aNil))) (tOf (dBin (lift2 gLt) (dVar 3) (dK (.int 6))))) (dBin (lift2 gAdd) (dVar 1) (dIxA (dLst (aCons (dK (.int 1)) (aCons (dNeg (dK (.int 1))) (aCons (dK (.int 2)) (aCons (dNeg (dK (.int 2))) (aCons (dK (.int 1)) (aCons (dNeg (dK (.int 1))) aNil))))))) (dVar 3))) (dVar 4))) sNil)
def d__law_spoilt_2 (self : DF) : DSt := (sSet 5 (dCall f__law_take (aCons (dVar 0) (aCons (dCallB gLen (aCons (dVar 1) aNil)) aNil))))
def d__law_spoilt_3 (self : DF) : DSt := (sPar 6 7 (aCons (dSlH (dVar 1) (dVar 5)) (aCons (dSlL (dVar 1) (dBin (lift2 gAdd) (dVar 5) (dK (.int 1)))) aNil)))
def d__law_spoilt_4 (self : DF) : DSt := (sIf (tOf (dBin (lift2 gLt) (dVar 3) (dK (.int 5)))) (sRet (dBin (lift2 gAdd) (dBin (lift2 gAdd) (dVar 6) (dTup (aCons (dCall self (aCons (dVar 0) (aCons (dIxA (dVar 1) (dVar 5)) (aCons (dBin (lift2 gSub) (dVar 2) (dK (.int 1))) aNil)))) aNil))) (dVar 7))) sNil)
def d__law_spoilt_5 (self : DF) : DSt := (sRet (dIxA (dLst (aCons (dBin (lift2 gAdd) (dVar 6) (dVar 7)) (aCons (dBin (lift2 gAdd) (dBin (lift2 gAdd) (dVar 6) (dSlLH (dVar 1) (dVar 5) (dBin (lift2 gAdd) (dVar 5) (dK (.int 1))))) (dSlL (dVar 1) (dVar 5))) (aCons (dCallB gList (aCons (dVar 1) aNil)) aNil)))) (dBin (lift2 gSub) (dVar 3) (dK (.int 5)))))
def d__law_spoilt (self : DF) : DSt := (sSeq (d__law_spoilt_0 self) (sSeq (d__law_spoilt_1 self) (sSeq (d__law_spoilt_2 self) (sSeq (d__law_spoilt_3 self) (sSeq (d__law_spoilt_4 self) (d__law_spoilt_5 self))))))
def f__law_spoilt : Nat → DF
  | 0 => fnOf 3 8 fun _ _ => none
  | n + 1 => fnOf 3 8 (d__law_spoilt (f__law_spoilt n))
theorem o__law_spoilt_n {P : Program} {w : World} {K : Frag} {mg : Str → Option Value} {base : Heap} {f : Addr} {fd : FuncData} (T : Txt K w mg) (sm : SysM K) (F : FunD K "_law_spoilt" "_law_spoilt" (defArgs s__law_spoilt) (defBody s__law_spoilt) (defScope s__law_spoilt) [] [] f fd) (hg : mg "_law_spoilt" = some (.ref f)) (o__law_odd : SFn P w K mg base "_law_odd" 2 f__law_odd) (o__law_take : SFn P w K mg base "_law_take" 1 f__law_take) (o__law_whole : SFn P w K mg base "_law_whole" 1 f__law_whole) : ∀ n, SFn P w K mg base "_law_spoilt" (3 + n) (f__law_spoilt n)
  | 0 => OwnD.mono (own_F F hg sc__law_spoilt (fun _ _ _ _ _ _ us hl => match us, hl with | [_, _, _], _ => rfl) (by decide +kernel) sm fun cdv A outer s H E G R => ⟨fun {S st fl S1 st1} q => by cases q⟩) (by omega : 1 ≤ _)
  | n + 1 => by
    have self_o := o__law_spoilt_n T sm F hg o__law_odd o__law_take o__law_whole n
    exact own_F F hg sc__law_spoilt (fun _ _ _ _ _ _ us hl => match us, hl with | [_, _, _], _ => rfl) (by decide +kernel) sm fun cdv A outer s H E G R => (fun (R : Room (3 + n) _) => (sb_cons (ss_par 3 4 G.hc G.hN (sa_cons (se_call (OwnD.mono o__law_take (by omega)) R (sa_cons (se_var 0) (sa_cons se_int sa_nil))) (sa_cons (se_call (OwnD.mono o__law_odd (by omega)) R (sa_cons (se_var 0) sa_nil)) sa_nil)))
    (sb_cons (ss_if (st_bool (sw_or (st_not (st_val (se_callB cf_isi T.n_isinstance boot_isinstance (sa_cons (se_var 1) (sa_cons (se_type T.n_tuple boot_tuple) sa_nil))))) (sw_or (st_cmp (of_eq G.sm G.hu) (se_var 1) (se_tup sa_nil)) (sw_or1 (st_cmp (of_eq G.sm G.hu) (se_var 2) se_int))))) (sb_one (ss_ret (se_if (st_bool (sw_and (st_val (se_call (OwnD.mono o__law_whole (by omega)) R (sa_cons (se_var 1) sa_nil))) (sw_and1 (st_cmp of_lt (se_var 3) se_int)))) (se_bin of_add (se_var 1) (se_ixA G.hu (se_lst (sa_cons se_int (sa_cons (se_neg se_int) (sa_cons se_int (sa_cons (se_neg se_int) (sa_cons se_int (sa_cons (se_neg se_int) sa_nil))))))) (se_var 3))) (se_var 4)))) sb_nil)
    (sb_cons (ss_set 5 G.hN (se_call (OwnD.mono o__law_take (by omega)) R (sa_cons (se_var 0) (sa_cons (se_callB cf_len T.n_len boot_len (sa_cons (se_var 1) sa_nil)) sa_nil))))
    (sb_cons (ss_par 6 7 G.hc G.hN (sa_cons (se_slH (se_var 1) (se_var 5)) (sa_cons (se_slL (se_var 1) (se_bin of_add (se_var 5) se_int)) sa_nil)))
    (sb_cons (ss_if (st_cmp of_lt (se_var 3) se_int) (sb_one (ss_ret (se_bin of_add (se_bin of_add (se_var 6) (se_tup (sa_cons (se_call self_o R (sa_cons (se_var 0) (sa_cons (se_ixA G.hu (se_var 1) (se_var 5)) (sa_cons (se_bin of_sub (se_var 2) se_int) sa_nil)))) sa_nil))) (se_var 7)))) sb_nil)
    (sb_one (ss_ret (se_ixA G.hu (se_lst (sa_cons (se_bin of_add (se_var 6) (se_var 7)) (sa_cons (se_bin of_add (se_bin of_add (se_var 6) (se_slLH (se_var 1) (se_var 5) (se_bin of_add (se_var 5) se_int))) (se_slL (se_var 1) (se_var 5))) (sa_cons (se_callT cf_list T.n_list boot_list (sa_cons (se_var 1) sa_nil)) sa_nil)))) (se_bin of_sub (se_var 3) se_int)))))))))) R
theorem o__law_spoilt {P : Program} {w : World} {K : Frag} {mg : Str → Option Value} {base : Heap} {f : Addr} {fd : FuncData} (T : Txt K w mg) (sm : SysM K) (F : FunD K "_law_spoilt" "_law_spoilt" (defArgs s__law_spoilt) (defBody s__law_spoilt) (defScope s__law_spoilt) [] [] f fd) (hg : mg "_law_spoilt" = some (.ref f)) (o__law_odd : SFn P w K mg base "_law_odd" 2 f__law_odd) (o__law_take : SFn P w K mg base "_law_take" 1 f__law_take) (o__law_whole : SFn P w K mg base "_law_whole" 1 f__law_whole) : SFn P w K mg base "_law_spoilt" 8 (f__law_spoilt 5) := o__law_spoilt_n T sm F hg o__law_odd o__law_take o__law_whole 5
/-! _law_bent -/
abbrev s__law_bent : Stmt := top 43
theorem sc__law_bent : FnScope ["pot", "code"] ["pot", "code"] (defScope s__law_bent) := ⟨rfl, rfl, rfl, by decide +kernel, rfl, by decide +kernel, by decide +kernel⟩
def d__law_bent_0 : DSt := (sIf (tOf (dBin (lift2 (gEq false)) (dCall f__law_take (aCons (dVar 0) (aCons (dK (.int 4)) aNil))) (dK (.int 0)))) (sRet (dCall (f__law_spoilt 5) (aCons (dVar 0) (aCons (dVar 1) (aCons (dK (.int 3)) aNil))))) sNil)
def d__law_bent_1 : DSt := (sRet (dBin (lift2 gAdd) (dSlH (dVar 1) (dK (.int 4))) (dTup (aCons (dCall (f__law_spoilt 5) (aCons (dVar 0) (aCons (dIxA (dVar 1) (dK (.int 4))) (aCons (dK (.int 2)) aNil)))) aNil))))
def d__law_bent : DSt := (sSeq d__law_bent_0 d__law_bent_1)
def f__law_bent : DF := fnOf 2 2 d__law_bent
theorem o__law_bent {P : Program} {w : World} {K : Frag} {mg : Str → Option Value} {base : Heap} {f : Addr} {fd : FuncData} (T : Txt K w mg) (sm : SysM K) (F : FunD K "_law_bent" "_law_bent" (defArgs s__law_bent) (defBody s__law_bent) (defScope s__law_bent) [] [] f fd) (hg : mg "_law_bent" = some (.ref f)) (o__law_take : SFn P w K mg base "_law_take" 1 f__law_take) (o__law_spoilt : SFn P w K mg base "_law_spoilt" 8 (f__law_spoilt 5)) : SFn P w K mg base "_law_bent" 9 f__law_bent :=
  own_F F hg sc__law_bent (fun _ _ _ _ _ _ us hl => match us, hl with | [_, _], _ => rfl) (by decide +kernel) sm fun cdv A outer s H E G R => (sb_cons (ss_if (st_cmp (of_eq G.sm G.hu) (se_call (OwnD.mono o__law_take (by omega)) R (sa_cons (se_var 0) (sa_cons se_int sa_nil))) se_int) (sb_one (ss_ret (se_call (OwnD.mono o__law_spoilt (by omega)) R (sa_cons (se_var 0) (sa_cons (se_var 1) (sa_cons se_int sa_nil)))))) sb_nil)
    (sb_one (ss_ret (se_bin of_add (se_slH (se_var 1) se_int) (se_tup (sa_cons (se_call (OwnD.mono o__law_spoilt (by omega)) R (sa_cons (se_var 0) (sa_cons (se_ixA G.hu (se_var 1) se_int) (sa_cons se_int sa_nil)))) sa_nil))))))
/-! _law_written -/
abbrev s__law_written : Stmt := top 44
theorem sc__law_written : FnScope ["lap", "end", "found", "two", "to", "rows", "many"] [] (defScope s__law_written) := ⟨rfl, rfl, rfl, by decide +kernel, rfl, by decide +kernel, by decide +kernel⟩
def b__law_written_1 : DSt := (sSeq (sExpr (dAppend (dVar 2) (dTup (aCons (dBin (lift2 gAdd) (dTup (aCons (dTup (aCons (dK (.str "go")) (aCons (dVar 4) aNil))) (aCons (dTup (aCons (dK (.str "count")) (aCons (dK (.int 1)) aNil))) (aCons (dTup (aCons (dK (.str "rest")) aNil)) (aCons (dTup (aCons (dK (.str "again")) (aCons (dK (.int 2)) aNil))) aNil))))) (dVar 1)) (aCons (dInA false (dVar 4) (dTup (aCons (dK (.int 1)) (aCons (dK (.int 4)) aNil)))) aNil)))))
    (sExpr (dAppend (dVar 2) (dTup (aCons (dBin (lift2 gAdd) (dTup (aCons (dTup (aCons (dK (.str "count")) (aCons (dK (.int 1)) aNil))) (aCons (dTup (aCons (dK (.str "test")) (aCons (dK (.int 0)) (aCons (dVar 4) aNil)))) (aCons (dTup (aCons (dK (.str "rest")) aNil)) (aCons (dTup (aCons (dK (.str "again")) (aCons (dK (.int 1)) aNil))) aNil))))) (dVar 1)) (aCons (dBin (lift2 gGt) (dVar 4) (dK (.int 1))) aNil))))))
def b__law_written_2 : DSt := (sSeq (sSet 5 (dBin (lift2 gAdd) (dTup (aCons (dTup (aCons (dK (.str "count")) (aCons (dK (.int 1)) aNil))) (aCons (dTup (aCons (dK (.str "go")) (aCons (dVar 4) aNil))) (aCons (dTup (aCons (dK (.str "count")) (aCons (dK (.int 6)) aNil))) (aCons (dTup (aCons (dK (.str "rest")) aNil)) (aCons (dTup (aCons (dK (.str "again")) (aCons (dK (.int 3)) aNil))) (aCons (dTup (aCons (dK (.str "again")) (aCons (dK (.int 1)) aNil))) aNil))))))) (dVar 1)))
    (sSeq (sExpr (dAppend (dVar 2) (dTup (aCons (dVar 5) (aCons (dInA false (dVar 4) (dTup (aCons (dK (.int 2)) (aCons (dK (.int 5)) (aCons (dK (.int 6)) aNil))))) aNil)))))
    (sSeq (sSet 5 (dBin (lift2 gAdd) (dTup (aCons (dTup (aCons (dK (.str "count")) (aCons (dK (.int 1)) aNil))) (aCons (dTup (aCons (dK (.str "count")) (aCons (dK (.int 6)) aNil))) (aCons (dTup (aCons (dK (.str "go")) (aCons (dVar 4) aNil))) (aCons (dTup (aCons (dK (.str "again")) (aCons (dK (.int 2)) aNil))) (aCons (dTup (aCons (dK (.str "again")) (aCons (dK (.int 1)) aNil))) aNil)))))) (dVar 1)))
    (sExpr (dAppend (dVar 2) (dTup (aCons (dVar 5) (aCons (dInA false (dVar 4) (dTup (aCons (dK (.int 3)) (aCons (dK (.int 4)) (aCons (dK (.int 5)) aNil))))) aNil))))))))
def b__law_written_3 : DSt := (sExpr (dAppend (dVar 2) (dTup (aCons (dBin (lift2 gAdd) (dBin (lift2 gMul) (dTup (aCons (dTup (aCons (dK (.str "rest")) aNil)) aNil)) (dVar 6)) (dVar 1)) (aCons (dBin (lift2 gLt) (dVar 6) (dK (.int 60))) aNil)))))
def d__law_written_0 : DSt := (sAsgTT (rCons (gName 0) (rCons (gName 1) rNil)) (aCons (dTup (aCons (dTup (aCons (dK (.str "count")) (aCons (dK (.int 2)) aNil))) (aCons (dTup (aCons (dK (.str "again")) (aCons (dK (.int 1)) aNil))) aNil))) (aCons (dTup (aCons (dTup (aCons (dK (.str "end")) aNil)) aNil)) aNil)))
def d__law_written_1 : DSt := (sSet 2 (dLstM (aCons (dTup (aCons (dBin (lift2 gAdd) (dVar 0) (dVar 1)) (aCons (dK (.bool true)) aNil))) (aCons (dTup (aCons (dBin (lift2 gAdd) (dBin (lift2 gAdd) (dVar 0) (dVar 0)) (dVar 1)) (aCons (dK (.bool false)) aNil))) (aCons (dTup (aCons (dBin (lift2 gAdd) (dBin (lift2 gAdd) (dVar 0) (dTup (aCons (dTup (aCons (dK (.str "count")) (aCons (dK (.int 2)) aNil))) (aCons (dTup (aCons (dK (.str "again")) (aCons (dK (.int 3)) aNil))) aNil)))) (dVar 1)) (aCons (dK (.bool true)) aNil))) aNil)))))
def d__law_written_2 : DSt := (sSet 3 (dTup (aCons (dTup (aCons (dK (.str "count")) (aCons (dK (.int 2)) aNil))) (aCons (dTup (aCons (dK (.str "count")) (aCons (dK (.int 3)) aNil))) aNil))))
def d__law_written_3 : DSt := (sExpr (dAppend (dVar 2) (dTup (aCons (dBin (lift2 gAdd) (dBin (lift2 gAdd) (dVar 3) (dTup (aCons (dTup (aCons (dK (.str "again")) (aCons (dK (.int 2)) aNil))) (aCons (dTup (aCons (dK (.str "again")) (aCons (dK (.int 1)) aNil))) aNil)))) (dVar 1)) (aCons (dK (.bool true)) aNil)))))
def d__law_written_4 : DSt := (sExpr (dAppend (dVar 2) (dTup (aCons (dBin (lift2 gAdd) (dBin (lift2 gAdd) (dVar 3) (dTup (aCons (dTup (aCons (dK (.str "again")) (aCons (dK (.int 1)) aNil))) (aCons (dTup (aCons (dK (.str "again")) (aCons (dK (.int 2)) aNil))) aNil)))) (dVar 1)) (aCons (dK (.bool false)) aNil)))))
def d__law_written_5 : DSt := (sSet 2 (dAddM (dVar 2) (dLst (aCons (dTup (aCons (dBin (lift2 gAdd) (dBin (lift2 gAdd) (dVar 3) (dTup (aCons (dTup (aCons (dK (.str "again")) (aCons (dK (.int 2)) aNil))) aNil))) (dVar 1)) (aCons (dK (.bool false)) aNil))) (aCons (dTup (aCons (dBin (lift2 gAdd) (dBin (lift2 gAdd) (dVar 0) (dTup (aCons (dTup (aCons (dK (.str "again")) (aCons (dK (.int 1)) aNil))) aNil))) (dVar 1)) (aCons (dK (.bool false)) aNil))) aNil)))))
def d__law_written_6 : DSt := (sExpr (dAppend (dVar 2) (dTup (aCons (dBin (lift2 gAdd) (dBin (lift2 gAdd) (dVar 3) (dTup (aCons (dTup (aCons (dK (.str "count")) (aCons (dK (.int 1)) aNil))) (aCons (dTup (aCons (dK (.str "again")) (aCons (dK (.int 3)) aNil))) (aCons (dTup (aCons (dK (.str "again")) (aCons (dK (.int 2)) aNil))) (aCons (dTup (aCons (dK (.str "again")) (aCons (dK (.int 1)) aNil))) aNil)))))) (dVar 1)) (aCons (dK (.bool false)) aNil)))))
def d__law_written_7 : DSt := (sSet 2 (dAddM (dVar 2) (dLst (aCons (dTup (aCons (dBin (lift2 gAdd) (dTup (aCons (dTup (aCons (dK (.str "rest")) aNil)) (aCons (dTup (aCons (dK (.str "again")) (aCons (dK (.int 1)) aNil))) aNil))) (dVar 1)) (aCons (dK (.bool false)) aNil))) (aCons (dTup (aCons (dBin (lift2 gAdd) (dTup (aCons (dTup (aCons (dK (.str "again")) (aCons (dK (.int 0)) aNil))) aNil)) (dVar 1)) (aCons (dK (.bool false)) aNil))) aNil)))))
def d__law_written_8 : DSt := (sFor (dRange1 (aCons (dK (.int 5)) aNil)) (gName 4) b__law_written_1)
def d__law_written_9 : DSt := (sFor (dRange1 (aCons (dK (.int 7)) aNil)) (gName 4) b__law_written_2)
def d__law_written_10 : DSt := (sFor (dSeqI (dTup (aCons (dK (.int 0)) (aCons (dK (.int 1)) (aCons (dK (.int 58)) (aCons (dK (.int 59)) (aCons (dK (.int 60)) aNil))))))) (gName 6) b__law_written_3)
def d__law_written_11 : DSt := (sRet (dBin (lift2 gAdd) (dVar 2) (dLst (aCons (dTup (aCons (dTup aNil) (aCons (dK (.bool false)) aNil))) (aCons (dTup (aCons (dBin (lift2 gAdd) (dVar 1) (dVar 1)) (aCons (dK (.bool false)) aNil))) (aCons (dTup (aCons (dTup (aCons (dTup (aCons (dK (.str "rest")) aNil)) aNil)) (aCons (dK (.bool false)) aNil))) (aCons (dTup (aCons (dBin (lift2 gAdd) (dBin (lift2 gAdd) (dVar 1) (dTup (aCons (dTup (aCons (dK (.str "rest")) aNil)) aNil))) (dVar 1)) (aCons (dK (.bool false)) aNil))) aNil)))))))
def d__law_written : DSt := (sSeq d__law_written_0 (sSeq d__law_written_1 (sSeq d__law_written_2 (sSeq d__law_written_3 (sSeq d__law_written_4 (sSeq d__law_written_5 (sSeq d__law_written_6 (sSeq d__law_written_7 (sSeq d__law_written_8 (sSeq d__law_written_9 (sSeq d__law_written_10 d__law_written_11)))))))))))
def f__law_written : DF := fnOf 0 7 d__law_written
theorem o__law_written {P : Program} {w : World} {K : Frag} {mg : Str → Option Value} {base : Heap} {f : Addr} {fd : FuncData} (T : Txt K w mg) (sm : SysM K) (F : FunD K "_law_written" "_law_written" (defArgs s__law_written) (defBody s__law_written) (defScope s__law_written) [] [] f fd) (hg : mg "_law_written" = some (.ref f))  : SFn P w K mg base "_law_written" 1 f__law_written :=
  own_F F hg sc__law_written (fun _ _ _ _ _ _ us hl => match us, hl with | [], _ => rfl) (by decide +kernel) sm fun cdv A outer s H E G R => (sb_cons (ss_asgTT G.hc (sa_cons (se_tup (sa_cons (se_tup (sa_cons se_str (sa_cons se_int sa_nil))) (sa_cons (se_tup (sa_cons se_str (sa_cons se_int sa_nil))) sa_nil))) (sa_cons (se_tup (sa_cons (se_tup (sa_cons se_str sa_nil)) sa_nil)) sa_nil)) (sgr_cons (sg_name 0 G.hN) (sgr_cons (sg_name 1 G.hN) sgr_nil rlen0) (rlenS rlen0)))
    (sb_cons (ss_set 2 G.hN (se_lstM (sa_cons (se_tup (sa_cons (se_bin of_add (se_var 0) (se_var 1)) (sa_cons se_bl sa_nil))) (sa_cons (se_tup (sa_cons (se_bin of_add (se_bin of_add (se_var 0) (se_var 0)) (se_var 1)) (sa_cons se_bl sa_nil))) (sa_cons (se_tup (sa_cons (se_bin of_add (se_bin of_add (se_var 0) (se_tup (sa_cons (se_tup (sa_cons se_str (sa_cons se_int sa_nil))) (sa_cons (se_tup (sa_cons se_str (sa_cons se_int sa_nil))) sa_nil)))) (se_var 1)) (sa_cons se_bl sa_nil))) sa_nil)))))
    (sb_cons (ss_set 3 G.hN (se_tup (sa_cons (se_tup (sa_cons se_str (sa_cons se_int sa_nil))) (sa_cons (se_tup (sa_cons se_str (sa_cons se_int sa_nil))) sa_nil))))
    (sb_cons (ss_expr (se_append (se_var 2) (se_tup (sa_cons (se_bin of_add (se_bin of_add (se_var 3) (se_tup (sa_cons (se_tup (sa_cons se_str (sa_cons se_int sa_nil))) (sa_cons (se_tup (sa_cons se_str (sa_cons se_int sa_nil))) sa_nil)))) (se_var 1)) (sa_cons se_bl sa_nil)))))
    (sb_cons (ss_expr (se_append (se_var 2) (se_tup (sa_cons (se_bin of_add (se_bin of_add (se_var 3) (se_tup (sa_cons (se_tup (sa_cons se_str (sa_cons se_int sa_nil))) (sa_cons (se_tup (sa_cons se_str (sa_cons se_int sa_nil))) sa_nil)))) (se_var 1)) (sa_cons se_bl sa_nil)))))
    (sb_cons (ss_set 2 G.hN (se_addM (se_var 2) (se_lst (sa_cons (se_tup (sa_cons (se_bin of_add (se_bin of_add (se_var 3) (se_tup (sa_cons (se_tup (sa_cons se_str (sa_cons se_int sa_nil))) sa_nil))) (se_var 1)) (sa_cons se_bl sa_nil))) (sa_cons (se_tup (sa_cons (se_bin of_add (se_bin of_add (se_var 0) (se_tup (sa_cons (se_tup (sa_cons se_str (sa_cons se_int sa_nil))) sa_nil))) (se_var 1)) (sa_cons se_bl sa_nil))) sa_nil)))))
    (sb_cons (ss_expr (se_append (se_var 2) (se_tup (sa_cons (se_bin of_add (se_bin of_add (se_var 3) (se_tup (sa_cons (se_tup (sa_cons se_str (sa_cons se_int sa_nil))) (sa_cons (se_tup (sa_cons se_str (sa_cons se_int sa_nil))) (sa_cons (se_tup (sa_cons se_str (sa_cons se_int sa_nil))) (sa_cons (se_tup (sa_cons se_str (sa_cons se_int sa_nil))) sa_nil)))))) (se_var 1)) (sa_cons se_bl sa_nil)))))
    (sb_cons (ss_set 2 G.hN (se_addM (se_var 2) (se_lst (sa_cons (se_tup (sa_cons (se_bin of_add (se_tup (sa_cons (se_tup (sa_cons se_str sa_nil)) (sa_cons (se_tup (sa_cons se_str (sa_cons se_int sa_nil))) sa_nil))) (se_var 1)) (sa_cons se_bl sa_nil))) (sa_cons (se_tup (sa_cons (se_bin of_add (se_tup (sa_cons (se_tup (sa_cons se_str (sa_cons se_int sa_nil))) sa_nil)) (se_var 1)) (sa_cons se_bl sa_nil))) sa_nil)))))
    (sb_cons (ss_for G.po G.hc (si_range1 T.n_range (sa_cons se_int sa_nil)) (sg_name 4 G.hN) (sb_cons (ss_expr (se_append (se_var 2) (se_tup (sa_cons (se_bin of_add (se_tup (sa_cons (se_tup (sa_cons se_str (sa_cons (se_var 4) sa_nil))) (sa_cons (se_tup (sa_cons se_str (sa_cons se_int sa_nil))) (sa_cons (se_tup (sa_cons se_str sa_nil)) (sa_cons (se_tup (sa_cons se_str (sa_cons se_int sa_nil))) sa_nil))))) (se_var 1)) (sa_cons (se_inA G.hu (se_var 4) (se_tup (sa_cons se_int (sa_cons se_int sa_nil)))) sa_nil)))))
    (sb_one (ss_expr (se_append (se_var 2) (se_tup (sa_cons (se_bin of_add (se_tup (sa_cons (se_tup (sa_cons se_str (sa_cons se_int sa_nil))) (sa_cons (se_tup (sa_cons se_str (sa_cons se_int (sa_cons (se_var 4) sa_nil)))) (sa_cons (se_tup (sa_cons se_str sa_nil)) (sa_cons (se_tup (sa_cons se_str (sa_cons se_int sa_nil))) sa_nil))))) (se_var 1)) (sa_cons (se_cmp of_gt (se_var 4) se_int) sa_nil))))))))
    (sb_cons (ss_for G.po G.hc (si_range1 T.n_range (sa_cons se_int sa_nil)) (sg_name 4 G.hN) (sb_cons (ss_set 5 G.hN (se_bin of_add (se_tup (sa_cons (se_tup (sa_cons se_str (sa_cons se_int sa_nil))) (sa_cons (se_tup (sa_cons se_str (sa_cons (se_var 4) sa_nil))) (sa_cons (se_tup (sa_cons se_str (sa_cons se_int sa_nil))) (sa_cons (se_tup (sa_cons se_str sa_nil)) (sa_cons (se_tup (sa_cons se_str (sa_cons se_int sa_nil))) (sa_cons (se_tup (sa_cons se_str (sa_cons se_int sa_nil))) sa_nil))))))) (se_var 1)))
    (sb_cons (ss_expr (se_append (se_var 2) (se_tup (sa_cons (se_var 5) (sa_cons (se_inA G.hu (se_var 4) (se_tup (sa_cons se_int (sa_cons se_int (sa_cons se_int sa_nil))))) sa_nil)))))
    (sb_cons (ss_set 5 G.hN (se_bin of_add (se_tup (sa_cons (se_tup (sa_cons se_str (sa_cons se_int sa_nil))) (sa_cons (se_tup (sa_cons se_str (sa_cons se_int sa_nil))) (sa_cons (se_tup (sa_cons se_str (sa_cons (se_var 4) sa_nil))) (sa_cons (se_tup (sa_cons se_str (sa_cons se_int sa_nil))) (sa_cons (se_tup (sa_cons se_str (sa_cons se_int sa_nil))) sa_nil)))))) (se_var 1)))
    (sb_one (ss_expr (se_append (se_var 2) (se_tup (sa_cons (se_var 5) (sa_cons (se_inA G.hu (se_var 4) (se_tup (sa_cons se_int (sa_cons se_int (sa_cons se_int sa_nil))))) sa_nil))))))))))
    (sb_cons (ss_for G.po G.hc (si_seq (se_tup (sa_cons se_int (sa_cons se_int (sa_cons se_int (sa_cons se_int (sa_cons se_int sa_nil))))))) (sg_name 6 G.hN) (sb_one (ss_expr (se_append (se_var 2) (se_tup (sa_cons (se_bin of_add (se_bin of_mul (se_tup (sa_cons (se_tup (sa_cons se_str sa_nil)) sa_nil)) (se_var 6)) (se_var 1)) (sa_cons (se_cmp of_lt (se_var 6) se_int) sa_nil)))))))
    (sb_one (ss_ret (se_bin of_add (se_var 2) (se_lst (sa_cons (se_tup (sa_cons (se_tup sa_nil) (sa_cons se_bl sa_nil))) (sa_cons (se_tup (sa_cons (se_bin of_add (se_var 1) (se_var 1)) (sa_cons se_bl sa_nil))) (sa_cons (se_tup (sa_cons (se_tup (sa_cons (se_tup (sa_cons se_str sa_nil)) sa_nil)) (sa_cons se_bl sa_nil))) (sa_cons (se_tup (sa_cons (se_bin of_add (se_bin of_add (se_var 1) (se_tup (sa_cons (se_tup (sa_cons se_str sa_nil)) sa_nil))) (se_var 1)) (sa_cons se_bl sa_nil))) sa_nil)))))))))))))))))))
/-! _law_bounds -/
abbrev s__law_bounds : Stmt := top 45
theorem sc__law_bounds : FnScope ["found", "end", "many", "top", "worth", "some", "word"] [] (defScope s__law_bounds) := ⟨rfl, rfl, rfl, by decide +kernel, rfl, by decide +kernel, by decide +kernel⟩
def b__law_bounds_1 : DSt := (sSeq (sExpr (dAppend (dVar 0) (dTup (aCons (dTup (aCons (dTup aNil) (aCons (dVar 2) (aCons (dVar 2) (aCons (dTup aNil) (aCons (dBin (lift2 gAdd) (dTup (aCons (dTup (aCons (dK (.str "set")) (aCons (dBin (lift2 gSub) (dVar 2) (dK (.int 1))) (aCons (dK (.int 1)) aNil)))) aNil)) (dVar 1)) aNil)))))) (aCons (dBin (lift2 gLt) (dVar 2) (dK (.int 17))) aNil)))))
    (sExpr (dAppend (dVar 0) (dTup (aCons (dTup (aCons (dTup aNil) (aCons (dK (.int 16)) (aCons (dVar 2) (aCons (dTup aNil) (aCons (dVar 1) aNil)))))) (aCons (dBin (lift2 gLt) (dVar 2) (dK (.int 17))) aNil))))))
def b__law_bounds_2 : DSt := (sSeq (sExpr (dAppend (dVar 0) (dTup (aCons (dTup (aCons (dTup aNil) (aCons (dK (.int 1)) (aCons (dK (.int 0)) (aCons (dTup aNil) (aCons (dBin (lift2 gAdd) (dTup (aCons (dTup (aCons (dK (.str "count")) (aCons (dVar 3) aNil))) (aCons (dTup (aCons (dK (.str "again")) (aCons (dK (.int 1)) aNil))) aNil))) (dVar 1)) aNil)))))) (aCons (dChain gLt gLt (dK (.int 0)) (dVar 3) (dK (.int 7))) aNil)))))
    (sExpr (dAppend (dVar 0) (dTup (aCons (dTup (aCons (dTup aNil) (aCons (dK (.int 1)) (aCons (dK (.int 0)) (aCons (dTup (aCons (dVar 3) (aCons (dK (.int 1)) aNil))) (aCons (dBin (lift2 gAdd) (dTup (aCons (dTup (aCons (dK (.str "get")) (aCons (dK (.int 0)) (aCons (dK (.int 1)) (aCons (dK (.int 0)) aNil))))) aNil)) (dVar 1)) aNil)))))) (aCons (dChain gLt gLt (dK (.int 0)) (dVar 3) (dK (.int 7))) aNil))))))
def b__law_bounds_3 : DSt := (sSeq (sExpr (dAppend (dVar 0) (dTup (aCons (dTup (aCons (dTup (aCons (dTup (aCons (dK (.int 0)) (aCons (dVar 4) aNil))) aNil)) (aCons (dK (.int 1)) (aCons (dK (.int 0)) (aCons (dTup aNil) (aCons (dVar 1) aNil)))))) (aCons (dBin (lift2 gLt) (dVar 4) (dK (.int 256))) aNil)))))
    (sExpr (dAppend (dVar 0) (dTup (aCons (dTup (aCons (dTup aNil) (aCons (dK (.int 1)) (aCons (dK (.int 0)) (aCons (dTup aNil) (aCons (dBin (lift2 gAdd) (dTup (aCons (dTup (aCons (dK (.str "set")) (aCons (dK (.int 0)) (aCons (dVar 4) aNil)))) aNil)) (dVar 1)) aNil)))))) (aCons (dBin (lift2 gLt) (dVar 4) (dK (.int 256))) aNil))))))
def b__law_bounds_4 : DSt := (sSeq (sExpr (dAppend (dVar 0) (dTup (aCons (dTup (aCons (dBin (lift2 gMul) (dTup (aCons (dTup (aCons (dK (.int 1)) (aCons (dK (.int 2)) aNil))) aNil)) (dVar 5)) (aCons (dK (.int 16)) (aCons (dK (.int 0)) (aCons (dTup aNil) (aCons (dVar 1) aNil)))))) (aCons (dBin (lift2 gLt) (dVar 5) (dK (.int 4))) aNil)))))
    (sSeq (sExpr (dAppend (dVar 0) (dTup (aCons (dTup (aCons (dBin (lift2 gMul) (dTup (aCons (dTup (aCons (dK (.int 1)) (aCons (dK (.int 2)) aNil))) aNil)) (dVar 5)) (aCons (dK (.int 2)) (aCons (dK (.int 0)) (aCons (dTup aNil) (aCons (dVar 1) aNil)))))) (aCons (dBin (lift2 gLt) (dVar 5) (dK (.int 3))) aNil)))))
    (sExpr (dAppend (dVar 0) (dTup (aCons (dTup (aCons (dTup aNil) (aCons (dK (.int 1)) (aCons (dK (.int 0)) (aCons (dBin (lift2 gMul) (dTup (aCons (dK (.int 6)) aNil)) (dVar 5)) (aCons (dVar 1) aNil)))))) (aCons (dBin (lift2 gLt) (dVar 5) (dK (.int 3))) aNil)))))))
def b__law_bounds_5 : DSt := (sExpr (dAppend (dVar 0) (dTup (aCons (dTup (aCons (dTup aNil) (aCons (dK (.int 1)) (aCons (dK (.int 0)) (aCons (dTup aNil) (aCons (dBin (lift2 gAdd) (dTup (aCons (dTup (aCons (dVar 6) (aCons (dK (.int 0)) (aCons (dK (.int 1)) aNil)))) aNil)) (dVar 1)) aNil)))))) (aCons (dK (.bool false)) aNil)))))
def d__law_bounds_0 : DSt := (sPar 0 1 (aCons (dLstM aNil) (aCons (dTup (aCons (dTup (aCons (dK (.str "end")) aNil)) aNil)) aNil)))
def d__law_bounds_1 : DSt := (sFor (dSeqI (dTup (aCons (dK (.int 1)) (aCons (dK (.int 15)) (aCons (dK (.int 16)) (aCons (dK (.int 17)) (aCons (dK (.int 40)) aNil))))))) (gName 2) b__law_bounds_1)
def d__law_bounds_2 : DSt := (sFor (dSeqI (dTup (aCons (dK (.int 0)) (aCons (dK (.int 1)) (aCons (dK (.int 6)) (aCons (dK (.int 7)) (aCons (dK (.int 60)) aNil))))))) (gName 3) b__law_bounds_2)
def d__law_bounds_3 : DSt := (sFor (dSeqI (dTup (aCons (dK (.int 0)) (aCons (dK (.int 255)) (aCons (dK (.int 256)) (aCons (dK (.int 1000)) aNil)))))) (gName 4) b__law_bounds_3)
def d__law_bounds_4 : DSt := (sFor (dRange1 (aCons (dK (.int 5)) aNil)) (gName 5) b__law_bounds_4)
def d__law_bounds_5 : DSt := (sFor (dSeqI (dTup (aCons (dK (.str "set ")) (aCons (dK (.str "Set")) (aCons (dK (.str "")) (aCons (dK (.str "at")) (aCons (dK (.str "SET")) (aCons (dK (.str "sets")) aNil)))))))) (gName 6) b__law_bounds_5)
def d__law_bounds_6 : DSt := (sRet (dVar 0))
def d__law_bounds : DSt := (sSeq d__law_bounds_0 (sSeq d__law_bounds_1 (sSeq d__law_bounds_2 (sSeq d__law_bounds_3 (sSeq d__law_bounds_4 (sSeq d__law_bounds_5 d__law_bounds_6))))))
def f__law_bounds : DF := fnOf 0 7 d__law_bounds
theorem o__law_bounds {P : Program} {w : World} {K : Frag} {mg : Str → Option Value} {base : Heap} {f : Addr} {fd : FuncData} (T : Txt K w mg) (sm : SysM K) (F : FunD K "_law_bounds" "_law_bounds" (defArgs s__law_bounds) (defBody s__law_bounds) (defScope s__law_bounds) [] [] f fd) (hg : mg "_law_bounds" = some (.ref f))  : SFn P w K mg base "_law_bounds" 1 f__law_bounds :=
  own_F F hg sc__law_bounds (fun _ _ _ _ _ _ us hl => match us, hl with | [], _ => rfl) (by decide +kernel) sm fun cdv A outer s H E G R => (sb_cons (ss_par 0 1 G.hc G.hN (sa_cons (se_lstM sa_nil) (sa_cons (se_tup (sa_cons (se_tup (sa_cons se_str sa_nil)) sa_nil)) sa_nil)))
    (sb_cons (ss_for G.po G.hc (si_seq (se_tup (sa_cons se_int (sa_cons se_int (sa_cons se_int (sa_cons se_int (sa_cons se_int sa_nil))))))) (sg_name 2 G.hN) (sb_cons (ss_expr (se_append (se_var 0) (se_tup (sa_cons (se_tup (sa_cons (se_tup sa_nil) (sa_cons (se_var 2) (sa_cons (se_var 2) (sa_cons (se_tup sa_nil) (sa_cons (se_bin of_add (se_tup (sa_cons (se_tup (sa_cons se_str (sa_cons (se_bin of_sub (se_var 2) se_int) (sa_cons se_int sa_nil)))) sa_nil)) (se_var 1)) sa_nil)))))) (sa_cons (se_cmp of_lt (se_var 2) se_int) sa_nil)))))
    (sb_one (ss_expr (se_append (se_var 0) (se_tup (sa_cons (se_tup (sa_cons (se_tup sa_nil) (sa_cons se_int (sa_cons (se_var 2) (sa_cons (se_tup sa_nil) (sa_cons (se_var 1) sa_nil)))))) (sa_cons (se_cmp of_lt (se_var 2) se_int) sa_nil))))))))
    (sb_cons (ss_for G.po G.hc (si_seq (se_tup (sa_cons se_int (sa_cons se_int (sa_cons se_int (sa_cons se_int (sa_cons se_int sa_nil))))))) (sg_name 3 G.hN) (sb_cons (ss_expr (se_append (se_var 0) (se_tup (sa_cons (se_tup (sa_cons (se_tup sa_nil) (sa_cons se_int (sa_cons se_int (sa_cons (se_tup sa_nil) (sa_cons (se_bin of_add (se_tup (sa_cons (se_tup (sa_cons se_str (sa_cons (se_var 3) sa_nil))) (sa_cons (se_tup (sa_cons se_str (sa_cons se_int sa_nil))) sa_nil))) (se_var 1)) sa_nil)))))) (sa_cons (se_chain of_lt of_lt se_int (se_var 3) se_int) sa_nil)))))
    (sb_one (ss_expr (se_append (se_var 0) (se_tup (sa_cons (se_tup (sa_cons (se_tup sa_nil) (sa_cons se_int (sa_cons se_int (sa_cons (se_tup (sa_cons (se_var 3) (sa_cons se_int sa_nil))) (sa_cons (se_bin of_add (se_tup (sa_cons (se_tup (sa_cons se_str (sa_cons se_int (sa_cons se_int (sa_cons se_int sa_nil))))) sa_nil)) (se_var 1)) sa_nil)))))) (sa_cons (se_chain of_lt of_lt se_int (se_var 3) se_int) sa_nil))))))))
    (sb_cons (ss_for G.po G.hc (si_seq (se_tup (sa_cons se_int (sa_cons se_int (sa_cons se_int (sa_cons se_int sa_nil)))))) (sg_name 4 G.hN) (sb_cons (ss_expr (se_append (se_var 0) (se_tup (sa_cons (se_tup (sa_cons (se_tup (sa_cons (se_tup (sa_cons se_int (sa_cons (se_var 4) sa_nil))) sa_nil)) (sa_cons se_int (sa_cons se_int (sa_cons (se_tup sa_nil) (sa_cons (se_var 1) sa_nil)))))) (sa_cons (se_cmp of_lt (se_var 4) se_int) sa_nil)))))
    (sb_one (ss_expr (se_append (se_var 0) (se_tup (sa_cons (se_tup (sa_cons (se_tup sa_nil) (sa_cons se_int (sa_cons se_int (sa_cons (se_tup sa_nil) (sa_cons (se_bin of_add (se_tup (sa_cons (se_tup (sa_cons se_str (sa_cons se_int (sa_cons (se_var 4) sa_nil)))) sa_nil)) (se_var 1)) sa_nil)))))) (sa_cons (se_cmp of_lt (se_var 4) se_int) sa_nil))))))))
    (sb_cons (ss_for G.po G.hc (si_range1 T.n_range (sa_cons se_int sa_nil)) (sg_name 5 G.hN) (sb_cons (ss_expr (se_append (se_var 0) (se_tup (sa_cons (se_tup (sa_cons (se_bin of_mul (se_tup (sa_cons (se_tup (sa_cons se_int (sa_cons se_int sa_nil))) sa_nil)) (se_var 5)) (sa_cons se_int (sa_cons se_int (sa_cons (se_tup sa_nil) (sa_cons (se_var 1) sa_nil)))))) (sa_cons (se_cmp of_lt (se_var 5) se_int) sa_nil)))))
    (sb_cons (ss_expr (se_append (se_var 0) (se_tup (sa_cons (se_tup (sa_cons (se_bin of_mul (se_tup (sa_cons (se_tup (sa_cons se_int (sa_cons se_int sa_nil))) sa_nil)) (se_var 5)) (sa_cons se_int (sa_cons se_int (sa_cons (se_tup sa_nil) (sa_cons (se_var 1) sa_nil)))))) (sa_cons (se_cmp of_lt (se_var 5) se_int) sa_nil)))))
    (sb_one (ss_expr (se_append (se_var 0) (se_tup (sa_cons (se_tup (sa_cons (se_tup sa_nil) (sa_cons se_int (sa_cons se_int (sa_cons (se_bin of_mul (se_tup (sa_cons se_int sa_nil)) (se_var 5)) (sa_cons (se_var 1) sa_nil)))))) (sa_cons (se_cmp of_lt (se_var 5) se_int) sa_nil)))))))))
    (sb_cons (ss_for G.po G.hc (si_seq (se_tup (sa_cons se_str (sa_cons se_str (sa_cons se_str (sa_cons se_str (sa_cons se_str (sa_cons se_str sa_nil)))))))) (sg_name 6 G.hN) (sb_one (ss_expr (se_append (se_var 0) (se_tup (sa_cons (se_tup (sa_cons (se_tup sa_nil) (sa_cons se_int (sa_cons se_int (sa_cons (se_tup sa_nil) (sa_cons (se_bin of_add (se_tup (sa_cons (se_tup (sa_cons (se_var 6) (sa_cons se_int (sa_cons se_int sa_nil)))) sa_nil)) (se_var 1)) sa_nil)))))) (sa_cons se_bl sa_nil)))))))
    (sb_one (ss_ret (se_var 0)))))))))
/-! _law_laps -/
abbrev s__law_laps : Stmt := top 46
theorem sc__law_laps : FnScope ["laps", "end", "at", "found", "across", "to"] [] (defScope s__law_laps) := ⟨rfl, rfl, rfl, by decide +kernel, rfl, by decide +kernel, by decide +kernel⟩
def b__law_laps_1 : DSt := (sSet 0 (dBin (lift2 gAdd) (dVar 0) (dLst (aCons (dTup (aCons (dK (.str "count")) (aCons (dK (.int 2)) aNil))) (aCons (dTup (aCons (dK (.str "rest")) aNil)) (aCons (dTup (aCons (dK (.str "again")) (aCons (dBin (lift2 gAdd) (dVar 2) (dK (.int 1))) aNil))) aNil))))))
def d__law_laps_0 : DSt := (sAsgTT (rCons (gName 0) (rCons (gName 1) rNil)) (aCons (dLst aNil) (aCons (dTup (aCons (dTup (aCons (dK (.str "end")) aNil)) aNil)) aNil)))
def d__law_laps_1 : DSt := (sFor (dSeqI (dTup (aCons (dK (.int 1)) (aCons (dK (.int 4)) (aCons (dK (.int 7)) (aCons (dK (.int 10)) aNil)))))) (gName 2) b__law_laps_1)
def d__law_laps_2 : DSt := (sSet 3 (dLcM (dRange1 (aCons (dK (.int 14)) aNil)) [5] (gName 5) tYes (dTup (aCons (dBin (lift2 gAdd) (dBin (lift2 gAdd) (dTup (aCons (dTup (aCons (dK (.str "go")) (aCons (dVar 5) aNil))) aNil)) (dCallB gTuple (aCons (dVar 0) aNil))) (dVar 1)) (aCons (dInA false (dVar 5) (dTup (aCons (dK (.int 1)) (aCons (dK (.int 4)) (aCons (dK (.int 7)) (aCons (dK (.int 10)) (aCons (dK (.int 13)) aNil))))))) aNil)))))
def d__law_laps_3 : DSt := (sSet 4 (dLst (aCons (dTup (aCons (dK (.str "count")) (aCons (dK (.int 2)) aNil))) (aCons (dTup (aCons (dK (.str "count")) (aCons (dK (.int 2)) aNil))) (aCons (dTup (aCons (dK (.str "again")) (aCons (dK (.int 8)) aNil))) (aCons (dTup (aCons (dK (.str "again")) (aCons (dK (.int 9)) aNil))) aNil))))))
def d__law_laps_4 : DSt := (sExpr (dAppend (dVar 3) (dTup (aCons (dBin (lift2 gAdd) (dCallB gTuple (aCons (dBin (lift2 gAdd) (dBin (lift2 gAdd) (dLst (aCons (dTup (aCons (dK (.str "rest")) aNil)) aNil)) (dSlH (dVar 0) (dK (.int 6)))) (dVar 4)) aNil)) (dVar 1)) (aCons (dK (.bool false)) aNil)))))
def d__law_laps_5 : DSt := (sSet 4 (dBin (lift2 gAdd) (dSlH (dVar 4) (dK (.int 2))) (dLst (aCons (dTup (aCons (dK (.str "again")) (aCons (dK (.int 9)) aNil))) (aCons (dTup (aCons (dK (.str "again")) (aCons (dK (.int 8)) aNil))) aNil)))))
def d__law_laps_6 : DSt := (sRet (dBin (lift2 gAdd) (dVar 3) (dLst (aCons (dTup (aCons (dBin (lift2 gAdd) (dCallB gTuple (aCons (dBin (lift2 gAdd) (dBin (lift2 gAdd) (dLst (aCons (dTup (aCons (dK (.str "rest")) aNil)) aNil)) (dSlH (dVar 0) (dK (.int 6)))) (dVar 4)) aNil)) (dVar 1)) (aCons (dK (.bool true)) aNil))) aNil))))
def d__law_laps : DSt := (sSeq d__law_laps_0 (sSeq d__law_laps_1 (sSeq d__law_laps_2 (sSeq d__law_laps_3 (sSeq d__law_laps_4 (sSeq d__law_laps_5 d__law_laps_6))))))
def f__law_laps : DF := fnOf 0 6 d__law_laps
theorem o__law_laps {P : Program} {w : World} {K : Frag} {mg : Str → Option Value} {base : Heap} {f : Addr} {fd : FuncData} (T : Txt K w mg) (sm : SysM K) (F : FunD K "_law_laps" "_law_laps" (defArgs s__law_laps) (defBody s__law_laps) (defScope s__law_laps) [] [] f fd) (hg : mg "_law_laps" = some (.ref f))  : SFn P w K mg base "_law_laps" 1 f__law_laps :=
  own_F F hg sc__law_laps (fun _ _ _ _ _ _ us hl => match us, hl with | [], _ => rfl) (by decide +kernel) sm fun cdv A outer s H E G R => (sb_cons (ss_asgTT G.hc (sa_cons (se_lst sa_nil) (sa_cons (se_tup (sa_cons (se_tup (sa_cons se_str sa_nil)) sa_nil)) sa_nil)) (sgr_cons (sg_name 0 G.hN) (sgr_cons (sg_name 1 G.hN) sgr_nil rlen0) (rlenS rlen0)))
    (sb_cons (ss_for G.po G.hc (si_seq (se_tup (sa_cons se_int (sa_cons se_int (sa_cons se_int (sa_cons se_int sa_nil)))))) (sg_name 2 G.hN) (sb_one (ss_set 0 G.hN (se_bin of_add (se_var 0) (se_lst (sa_cons (se_tup (sa_cons se_str (sa_cons se_int sa_nil))) (sa_cons (se_tup (sa_cons se_str sa_nil)) (sa_cons (se_tup (sa_cons se_str (sa_cons (se_bin of_add (se_var 2) se_int) sa_nil))) sa_nil))))))))
    (sb_cons (ss_setLcM 3 [("to", 5)] G.hc G.hN (by rfl) (si_range1 T.n_range (sa_cons se_int sa_nil)) (fun _ _ _ _ _ => (sg_name 5 G.hN)) (fun _ _ _ _ _ => sts_nil) (fun _ _ _ _ _ => (se_tup (sa_cons (se_bin of_add (se_bin of_add (se_tup (sa_cons (se_tup (sa_cons se_str (sa_cons (se_var 5) sa_nil))) sa_nil)) (se_callT cf_tuple T.n_tuple boot_tuple (sa_cons (se_var 0) sa_nil))) (se_var 1)) (sa_cons (se_inA G.hu (se_var 5) (se_tup (sa_cons se_int (sa_cons se_int (sa_cons se_int (sa_cons se_int (sa_cons se_int sa_nil))))))) sa_nil)))))
    (sb_cons (ss_set 4 G.hN (se_lst (sa_cons (se_tup (sa_cons se_str (sa_cons se_int sa_nil))) (sa_cons (se_tup (sa_cons se_str (sa_cons se_int sa_nil))) (sa_cons (se_tup (sa_cons se_str (sa_cons se_int sa_nil))) (sa_cons (se_tup (sa_cons se_str (sa_cons se_int sa_nil))) sa_nil))))))
    (sb_cons (ss_expr (se_append (se_var 3) (se_tup (sa_cons (se_bin of_add (se_callT cf_tuple T.n_tuple boot_tuple (sa_cons (se_bin of_add (se_bin of_add (se_lst (sa_cons (se_tup (sa_cons se_str sa_nil)) sa_nil)) (se_slH (se_var 0) se_int)) (se_var 4)) sa_nil)) (se_var 1)) (sa_cons se_bl sa_nil)))))
    (sb_cons (ss_set 4 G.hN (se_bin of_add (se_slH (se_var 4) se_int) (se_lst (sa_cons (se_tup (sa_cons se_str (sa_cons se_int sa_nil))) (sa_cons (se_tup (sa_cons se_str (sa_cons se_int sa_nil))) sa_nil)))))
    (sb_one (ss_ret (se_bin of_add (se_var 3) (se_lst (sa_cons (se_tup (sa_cons (se_bin of_add (se_callT cf_tuple T.n_tuple boot_tuple (sa_cons (se_bin of_add (se_bin of_add (se_lst (sa_cons (se_tup (sa_cons se_str sa_nil)) sa_nil)) (se_slH (se_var 0) se_int)) (se_var 4)) sa_nil)) (se_var 1)) (sa_cons se_bl sa_nil))) sa_nil)))))))))))
/-! law -/
abbrev s_law : Stmt := top 47
theorem sc_law : FnScope ["script", "some", "code", "due", "found", "k", "pot", "once", "other", "thing", "kept", "rows"] ["script"] (defScope s_law) := ⟨rfl, rfl, rfl, by decide +kernel, rfl, by decide +kernel, by decide +kernel⟩
def b_law_1 : DSt := (sSeq (sSet 4 (dCall f_is_code (aCons (dVar 2) aNil)))
    (sIf (tOr (tNot (tOf (dCallB gIsi (aCons (dVar 4) (aCons (dKv (.ty "bool")) aNil))))) (tOf (dBin (lift2 (gEq true)) (dVar 4) (dVar 3)))) (sRet (dK (.bool false))) sNil))
def b_law_2 : DSt := (sSeq (sSet 10 (dCallB gRepr (aCons (dVar 9) aNil)))
    (sSeq (sSet 4 (dCall f_is_code (aCons (dVar 9) aNil)))
    (sIf (tOr (tNot (tOf (dCallB gIsi (aCons (dVar 4) (aCons (dKv (.ty "bool")) aNil))))) (tOr (tOf (dBin (lift2 (gEq true)) (dVar 4) (dCall f__law_is_code (aCons (dVar 9) aNil)))) (tOf (dBin (lift2 (gEq true)) (dCallB gRepr (aCons (dVar 9) aNil)) (dVar 10))))) (sRet (dK (.bool false))) sNil)))
def b_law_3 : DSt := (sSeq (sSet 6 (dCall f__law_pot (aCons (dVar 0) (aCons (dVar 5) aNil))))
    (sSeq (sSet 2 (dCall f__law_code (aCons (dVar 6) (aCons (dK (.int 20)) aNil))))
    (sSeq (sIf (tOr (tNot (tOf (dCall f__law_is_code (aCons (dVar 2) aNil)))) (tOf (dBin (lift2 (gIs true)) (dCall f_is_code (aCons (dVar 2) aNil)) (dK (.bool true))))) (sRet (dK (.bool false))) sNil)
    (sSeq (sPar 7 8 (aCons (dCall f__law_bent (aCons (dVar 6) (aCons (dVar 2) aNil))) (aCons (dCall f__law_bent (aCons (dVar 6) (aCons (dVar 2) aNil))) aNil)))
    (sFor (dSeqI (dLst (aCons (dVar 7) (aCons (dVar 8) (aCons (dCall (f__law_spoilt 5) (aCons (dVar 6) (aCons (dVar 8) (aCons (dK (.int 3)) aNil)))) (aCons (dCall f__law_odd (aCons (dVar 6) aNil)) (aCons (dCallB gList (aCons (dVar 2) aNil)) aNil))))))) (gName 9) b_law_2)))))
def d_law_0 : DSt := (sSet 1 (dLc (dSeqI (dBin (lift2 gAdd) (dCall f__law_written aNil) (dCall f__law_laps aNil))) [11, 3] (gTup 2 (DL.gCons (gName 11) (DL.gCons (gName 3) gNil))) tYes (dTup (aCons (dTup (aCons (dTup aNil) (aCons (dK (.int 1)) (aCons (dK (.int 0)) (aCons (dTup aNil) (aCons (dVar 11) aNil)))))) (aCons (dVar 3) aNil)))))
def d_law_1 : DSt := (sFor (dSeqI (dBin (lift2 gAdd) (dVar 1) (dCall f__law_bounds aNil))) (gTup 2 (DL.gCons (gName 2) (DL.gCons (gName 3) gNil))) b_law_1)
def d_law_2 : DSt := (sFor (dRange1 (aCons (dCallB gMax2 (aCons (dK (.int 1)) (aCons (dCallB gMin2 (aCons (dK (.int 10)) (aCons (dCallB gLen (aCons (dVar 0) aNil)) aNil))) aNil))) aNil)) (gName 5) b_law_3)
def d_law_3 : DSt := (sRet (dK (.bool true)))
def d_law : DSt := (sSeq d_law_0 (sSeq d_law_1 (sSeq d_law_2 d_law_3)))
def f_law : DF := fnOf 1 12 d_law
theorem c_law {P : Program} {w : World} {K : Frag} {mg : Str → Option Value} {base : Heap} {f : Addr} {fd : FuncData} (T : Txt K w mg) (sm : SysM K) (F : FunD K "law" "law" (defArgs s_law) (defBody s_law) (defScope s_law) [] [] f fd) (hg : mg "law" = some (.ref f)) (o__law_written : SFn P w K mg base "_law_written" 1 f__law_written) (o__law_laps : SFn P w K mg base "_law_laps" 1 f__law_laps) (o__law_bounds : SFn P w K mg base "_law_bounds" 1 f__law_bounds) (o_is_code : SFn P w K mg base "is_code" 6 f_is_code) (o__law_pot : SFn P w K mg base "_law_pot" 1 f__law_pot) (o__law_code : SFn P w K mg base "_law_code" 3 f__law_code) (o__law_is_code : SFn P w K mg base "_law_is_code" 3 f__law_is_code) (o__law_bent : SFn P w K mg base "_law_bent" 9 f__law_bent) (o__law_odd : SFn P w K mg base "_law_odd" 2 f__law_odd) (o__law_spoilt : SFn P w K mg base "_law_spoilt" 8 (f__law_spoilt 5)) (hr : Room 10 callerA) (law : ∀ ns : List Int, ns.length ≤ 63 → ∃ st, f_law [.dat (.list (ns.map .int))] [] = some (.bl true, st)) : CallAt P w K mg base callerA f fd ["script"] (spTop K 63) :=
  top_F F sc_law hr (by decide +kernel) sm (fun cdv outer s H E G R => (sb_cons (ss_setLc 1 [("rows", 11), ("due", 3)] G.hc G.hN (by rfl) (si_seq (se_bin of_add (se_call0 (OwnD.mono o__law_written (by omega)) R) (se_call0 (OwnD.mono o__law_laps (by omega)) R))) (fun _ _ _ _ _ => (sg_tup G.hc (sgs_cons (sg_name 11 G.hN) (sgs_cons (sg_name 3 G.hN) sgs_nil)))) (fun _ _ _ _ _ => sts_nil) (fun _ _ _ _ _ => (se_tup (sa_cons (se_tup (sa_cons (se_tup sa_nil) (sa_cons se_int (sa_cons se_int (sa_cons (se_tup sa_nil) (sa_cons (se_var 11) sa_nil)))))) (sa_cons (se_var 3) sa_nil)))))
    (sb_cons (ss_for G.po G.hc (si_seq (se_bin of_add (se_var 1) (se_call0 (OwnD.mono o__law_bounds (by omega)) R))) (sg_tup G.hc (sgs_cons (sg_name 2 G.hN) (sgs_cons (sg_name 3 G.hN) sgs_nil))) (sb_cons (ss_set 4 G.hN (se_call (OwnD.mono o_is_code (by omega)) R (sa_cons (se_var 2) sa_nil)))
    (sb_one (ss_if (st_bool (sw_or (st_not (st_val (se_callB cf_isi T.n_isinstance boot_isinstance (sa_cons (se_var 4) (sa_cons (se_type T.n_bool boot_bool) sa_nil))))) (sw_or1 (st_cmp (of_ne G.sm G.hu) (se_var 4) (se_var 3))))) (sb_one (ss_ret se_bl)) sb_nil))))
    (sb_cons (ss_for G.po G.hc (si_range1 T.n_range (sa_cons (se_callB (cf_max2 G.hc) T.n_max boot_max (sa_cons se_int (sa_cons (se_callB (cf_min2 G.hc) T.n_min boot_min (sa_cons se_int (sa_cons (se_callB cf_len T.n_len boot_len (sa_cons (se_var 0) sa_nil)) sa_nil))) sa_nil))) sa_nil)) (sg_name 5 G.hN) (sb_cons (ss_set 6 G.hN (se_call (OwnD.mono o__law_pot (by omega)) R (sa_cons (se_var 0) (sa_cons (se_var 5) sa_nil))))
    (sb_cons (ss_set 2 G.hN (se_call (OwnD.mono o__law_code (by omega)) R (sa_cons (se_var 6) (sa_cons se_int sa_nil))))
    (sb_cons (ss_if (st_bool (sw_or (st_not (st_val (se_call (OwnD.mono o__law_is_code (by omega)) R (sa_cons (se_var 2) sa_nil)))) (sw_or1 (st_cmp of_isnot (se_call (OwnD.mono o_is_code (by omega)) R (sa_cons (se_var 2) sa_nil)) se_bl)))) (sb_one (ss_ret se_bl)) sb_nil)
    (sb_cons (ss_par 7 8 G.hc G.hN (sa_cons (se_call (OwnD.mono o__law_bent (by omega)) R (sa_cons (se_var 6) (sa_cons (se_var 2) sa_nil))) (sa_cons (se_call (OwnD.mono o__law_bent (by omega)) R (sa_cons (se_var 6) (sa_cons (se_var 2) sa_nil))) sa_nil)))
    (sb_one (ss_for G.po G.hc (si_seq (se_lst (sa_cons (se_var 7) (sa_cons (se_var 8) (sa_cons (se_call (OwnD.mono o__law_spoilt (by omega)) R (sa_cons (se_var 6) (sa_cons (se_var 8) (sa_cons se_int sa_nil)))) (sa_cons (se_call (OwnD.mono o__law_odd (by omega)) R (sa_cons (se_var 6) sa_nil)) (sa_cons (se_callT cf_list T.n_list boot_list (sa_cons (se_var 2) sa_nil)) sa_nil))))))) (sg_name 9 G.hN) (sb_cons (ss_set 10 G.hN (se_callB (cf_repr G.sm G.hu G.gd) T.n_repr boot_repr (sa_cons (se_var 9) sa_nil)))
    (sb_cons (ss_set 4 G.hN (se_call (OwnD.mono o_is_code (by omega)) R (sa_cons (se_var 9) sa_nil)))
    (sb_one (ss_if (st_bool (sw_or (st_not (st_val (se_callB cf_isi T.n_isinstance boot_isinstance (sa_cons (se_var 4) (sa_cons (se_type T.n_bool boot_bool) sa_nil))))) (sw_or (st_cmp (of_ne G.sm G.hu) (se_var 4) (se_call (OwnD.mono o__law_is_code (by omega)) R (sa_cons (se_var 9) sa_nil))) (sw_or1 (st_cmp (of_ne G.sm G.hu) (se_callB (cf_repr G.sm G.hu G.gd) T.n_repr boot_repr (sa_cons (se_var 9) sa_nil)) (se_var 10)))))) (sb_one (ss_ret se_bl)) sb_nil)))))))))))
    (sb_one (ss_ret se_bl)))))) law
end LW
set_option Elab.async false
set_option linter.all false
set_option maxRecDepth 100000
set_option maxHeartbeats 4000000
namespace LW
open PySem DL
/-! ### is_code's parts as functions of data -/
def isWhole : PyData → Bool
  | .int _ => true
  | _ => false
def isBetween (d : PyData) (lo hi : Int) : Bool := match d with
  | .int i => decide (lo ≤ i) && decide (i ≤ hi)
  | _ => false
theorem isBetween_int {i lo hi : Int} : isBetween (.int i) lo hi = (decide (lo ≤ i) && decide (i ≤ hi)) := rfl
theorem isBetween_iff {d : PyData} {lo hi : Int} : isBetween d lo hi = true ↔ ∃ i, d = .int i ∧ lo ≤ i ∧ i ≤ hi := by
  cases d <;> simp [isBetween]
theorem m_is_whole (d : PyData) : f_is_whole [.dat d] [] = some (.bl (isWhole d), []) := by
  cases d <;> rfl
theorem m_is_between (d : PyData) (lo hi : Int) : f_is_between [.dat d, .int lo, .int hi] [] = some (.bl (isBetween d lo hi), []) := by
  have e := call_pure (st := []) (m_is_whole d)
  cases d with
  | int i =>
    by_cases h : lo ≤ i <;> simp [f_is_between, fnOf_ap, d_is_between, e, isWhole, isBetween, h]
  | _ => simp [f_is_between, fnOf_ap, d_is_between, e, isWhole, isBetween]
theorem c_is_between (st : Sto) (d : PyData) (lo hi : Int) : callF f_is_between [.dat d, .dat (.int lo), .dat (.int hi)] st = some (.dat (.bool (isBetween d lo hi)), st) := call_pure (m_is_between d lo hi)
/-- is_span -/
def isSpan : PyData → Bool
  | .tuple [a, b] => isBetween a 0 255 && isBetween b 0 255 && (match a, b with
    | .int i, .int j => decide (i ≤ j)
    | _, _ => false)
  | _ => false
theorem m_is_span (d : PyData) : f_is_span [.dat d] [] = some (.bl (isSpan d), []) := by
  cases d with
  | tuple ds =>
    match ds with
    | [] => rfl
    | [_] => rfl
    | x :: y :: z :: l =>
      have h : ¬ ((l.length : Int) + 1 + 1 + 1 = 2) := by omega
      simp [f_is_span, fnOf_ap, d_is_span, d_is_span_0, h, isSpan]
    | [a, b] =>
      have hl : ∀ S, lcL [] (gName 1) tYes (dCall f_is_between (aCons (dVar 1) (aCons (dK (.int 0)) (aCons (dK (.int 255)) aNil)))) [S, .un] [a, b] [] = some ([a, b].map fun x => .bool (isBetween x 0 255), []) := fun S =>
        lcL_map _ rfl _ fun d _ => ⟨[S, .dat d], rfl, by simp [c_is_between]⟩
      cases ha : isBetween a 0 255 <;> cases hb : isBetween b 0 255
      case true.true =>
        obtain ⟨i, rfl, h1, h2⟩ := isBetween_iff.mp ha
        obtain ⟨j, rfl, h3, h4⟩ := isBetween_iff.mp hb
        simp [f_is_span, fnOf_ap, d_is_span, d_is_span_0, d_is_span_1, hl, blsOf, isSpan, ha, hb, L2.atI, L2.ixN]
      all_goals simp [f_is_span, fnOf_ap, d_is_span, d_is_span_0, d_is_span_1, hl, blsOf, isSpan, ha, hb]
  | _ => rfl
theorem c_is_span (st : Sto) (d : PyData) : callF f_is_span [.dat d] st = some (.dat (.bool (isSpan d)), st) := call_pure (m_is_span d)
/-! ### rows -/
def lims (m na nr : Int) : List (L2.Key × PyData) := [(.inr "register", .tuple [.int 0, .int (m - 1)]), (.inr "worth", .tuple [.int 0, .int 255]), (.inr "array", .tuple [.int 0, .int (na - 1)]), (.inr "row", .tuple [.int 0, .int (nr - 1)]), (.inr "rounds", .tuple [.int 1, .int 6])]
theorem m_limits_of (m : Int) (as rs : List PyData) : f_limits_of [.dat (.int m), .dat (.tuple as), .dat (.tuple rs)] [] = some (.han 0, [some (.dK (lims m as.length rs.length))]) := by
  simp [f_limits_of, fnOf_ap, d_limits_of, dDisp, pCons, pNil]
  rfl
end LW
set_option Elab.async false
set_option linter.all false
set_option maxRecDepth 100000
set_option maxHeartbeats 4000000
namespace LW
open PySem DL
theorem tabGet_mem {tab : List (Str × PyData)} {w : Str} {y : PyData} (h : tabGet tab w = some y) : (w, y) ∈ tab := by
  unfold tabGet at h
  obtain ⟨p, h1, rfl⟩ := Option.map_eq_some_iff.mp h
  have := List.find?_some h1
  have e : p.1 = w := by simpa using this
  rw [← e]
  exact List.mem_of_find?_eq_some h1
abbrev limS (m na nr : Int) : Sto := [some (.dK (lims m na nr))]
def isPart (m na nr : Int) (k d : PyData) : Bool := match k with
  | .str s => match valP (lims m na nr) (.inr s) with
    | some (.tuple [.int a, .int b]) => isBetween d a b
    | _ => false
  | _ => false
theorem m_is_part {m na nr : Int} {s : Str} {a b : Int} (d : PyData) (h : valP (lims m na nr) (.inr s) = some (.tuple [.int a, .int b])) : f_is_part [.han 0, .str s, .dat d] (limS m na nr) = some (.bl (isPart m na nr (.str s) d), limS m na nr) := by
  simp [f_is_part, fnOf_ap, d_is_part, d_is_part_0, d_is_part_1, limS, h, c_is_between, isPart]
theorem zipD_mem : ∀ {xs ys : List PyData} {d : PyData}, d ∈ zipD xs ys → ∃ x y, d = .tuple [x, y] ∧ x ∈ xs ∧ y ∈ ys
  | [], _, _, h => by simp [zipD] at h
  | _ :: _, [], _, h => by simp [zipD] at h
  | x :: xs, y :: ys, d, h => by
    simp only [zipD, List.mem_cons] at h
    rcases h with rfl | h
    · exact ⟨x, y, rfl, by simp, by simp⟩
    · obtain ⟨a, b, e, h1, h2⟩ := zipD_mem h
      exact ⟨a, b, e, by simp [h1], by simp [h2]⟩
theorem zipD_len : ∀ (xs ys : List PyData), (zipD xs ys).length = min xs.length ys.length
  | [], _ => by simp [zipD]
  | _ :: _, [] => by simp [zipD]
  | x :: xs, y :: ys => by simp [zipD, zipD_len xs ys]
def isRow (m na nr : Int) : PyData → Bool
  | .tuple (.str w :: ps) => match tabGet tab_FORMS w with
    | some (.tuple ks) => decide (ps.length = ks.length) && (zipD ps ks).all fun z => match z with
      | .tuple [p, k] => isPart m na nr k p
      | _ => false
    | _ => false
  | _ => false
theorem forms_ok {m na nr : Int} {w : Str} {y : PyData} (h : tabGet tab_FORMS w = some y) : ∃ ks, y = .tuple ks ∧ ks.length ≤ 3 ∧ ∀ k ∈ ks, ∃ s a b, k = .str s ∧ valP (lims m na nr) (.inr s) = some (.tuple [.int a, .int b]) := by
  have v1 : valP (lims m na nr) (.inr "register") = some (.tuple [.int 0, .int (m - 1)]) := rfl
  have v2 : valP (lims m na nr) (.inr "worth") = some (.tuple [.int 0, .int 255]) := rfl
  have v3 : valP (lims m na nr) (.inr "array") = some (.tuple [.int 0, .int (na - 1)]) := rfl
  have v4 : valP (lims m na nr) (.inr "row") = some (.tuple [.int 0, .int (nr - 1)]) := rfl
  have v5 : valP (lims m na nr) (.inr "rounds") = some (.tuple [.int 1, .int 6]) := rfl
  have h := tabGet_mem h
  simp only [tab_FORMS, List.mem_cons, List.not_mem_nil, or_false, Prod.mk.injEq] at h
  rcases h with h | h | h | h | h | h | h | h | h | h | h | h | h | h | h <;> obtain ⟨-, rfl⟩ := h <;> exact ⟨_, rfl, by simp, by simp [v1, v2, v3, v4, v5]⟩
theorem m_is_row {m na nr : Int} (d : PyData) : f_is_row_within [.han 0, .dat d] (limS m na nr) = some (.bl (isRow m na nr d), limS m na nr) := by
  cases d with
  | tuple ds =>
    match ds with
    | [] => simp [f_is_row_within, fnOf_ap, d_is_row_within, d_is_row_within_0, isRow]
    | x :: ps =>
      have hl : ¬ ((ps.length : Int) + 1 = 0) := by omega
      cases x with
      | str w =>
        cases hw : tabGet tab_FORMS w with
        | none => simp [f_is_row_within, fnOf_ap, d_is_row_within, d_is_row_within_0, isRow, hl, L2.atI, L2.ixN, hw]
        | some y =>
          obtain ⟨ks, rfl, hk3, hk⟩ := forms_ok (m := m) (na := na) (nr := nr) hw
          by_cases he : ps.length = ks.length
          · have hl2 : ¬ ((ks.length : Int) + 1 = 0) := by omega
            have hlc : lcL [] (gTup 2 (DL.gCons (gName 5) (DL.gCons (gName 6) gNil))) tYes (dCall f_is_part (aCons (dVar 0) (aCons (dVar 6) (aCons (dVar 5) aNil)))) [.han 0, .dat (.tuple (.str w :: ps)), .dat (.str w), .dat (.list ps), .dat (.tuple ks), .un, .un] (zipD ps ks) (limS m na nr) = some ((zipD ps ks).map fun z => .bool (match z with
              | .tuple [p, k] => isPart m na nr k p
              | _ => false), limS m na nr) := lcL_map (fun z => .bool (match z with
              | .tuple [p, k] => isPart m na nr k p
              | _ => false)) rfl _ fun d hd => by
                obtain ⟨p, k, rfl, h1, h2⟩ := zipD_mem hd
                obtain ⟨s, a, b, rfl, hv⟩ := hk k h2
                refine ⟨_, by simp; rfl, ?_⟩
                have e := m_is_part (m := m) (na := na) (nr := nr) p hv
                have : callF f_is_part [.han 0, .dat (.str s), .dat p] (limS m na nr) = some (.bl (isPart m na nr (.str s) p), limS m na nr) := Ev_eq.mp (call_one (Ev.of_eq e ⟨_, _, rfl, rfl⟩))
                simpa using this
            have hz : (zipD ps ks).length ≤ 1000000 := by rw [zipD_len]; omega
            simp [f_is_row_within, fnOf_ap, d_is_row_within, d_is_row_within_0, d_is_row_within_1, d_is_row_within_2, d_is_row_within_3, d_is_row_within_4, isRow, hl, hl2, L2.atI, L2.ixN, hw, he, hlc, hz, blsOf_map]
            rfl
          · have he' : ¬ ((ps.length : Int) = ks.length) := by omega
            simp [f_is_row_within, fnOf_ap, d_is_row_within, d_is_row_within_0, d_is_row_within_1, d_is_row_within_2, d_is_row_within_3, isRow, hl, L2.atI, L2.ixN, hw, he, he']
      | _ => simp [f_is_row_within, fnOf_ap, d_is_row_within, d_is_row_within_0, isRow, hl, L2.atI, L2.ixN]
  | _ => simp [f_is_row_within, fnOf_ap, d_is_row_within, d_is_row_within_0, isRow]
end LW
set_option Elab.async false
set_option linter.all false
set_option maxRecDepth 100000
set_option maxHeartbeats 4000000
namespace LW
open PySem DL LM
/-! ### rows, typed -/
abbrev TR := Str × List Int
def encR (r : TR) : PyData := .tuple (.str r.1 :: r.2.map .int)
def rk (r : TR) : RK := if r.1 = "count" then .cnt else if r.1 = "again" then .agn (r.2.headD 0) else .oth
structure ROk (nr : Int) (r : TR) : Prop where
  ag : r.1 = "again" → ∃ n, r.2 = [n] ∧ 0 ≤ n ∧ n < nr
  co : r.1 = "count" → ∃ n, r.2 = [n] ∧ 1 ≤ n ∧ n ≤ 6
  te : r.1 = "test" → ∃ s n, r.2 = [s, n] ∧ 0 ≤ n ∧ n < nr
  go : r.1 = "go" → ∃ n, r.2 = [n] ∧ 0 ≤ n ∧ n < nr
  en : r.1 = "end" → r.2 = []
  lay : PyData.strOk r.1 = true
theorem isRow_typed {m na nr : Int} {d : PyData} (h : isRow m na nr d = true) : ∃ r, d = encR r ∧ ROk nr r := by
  have v1 : valP (lims m na nr) (.inr "register") = some (.tuple [.int 0, .int (m - 1)]) := rfl
  have v2 : valP (lims m na nr) (.inr "worth") = some (.tuple [.int 0, .int 255]) := rfl
  have v3 : valP (lims m na nr) (.inr "array") = some (.tuple [.int 0, .int (na - 1)]) := rfl
  have v4 : valP (lims m na nr) (.inr "row") = some (.tuple [.int 0, .int (nr - 1)]) := rfl
  have v5 : valP (lims m na nr) (.inr "rounds") = some (.tuple [.int 1, .int 6]) := rfl
  unfold isRow at h
  split at h
  · rename_i w ps
    split at h
    · rename_i ks hw
      have hw := tabGet_mem hw
      simp only [tab_FORMS, List.mem_cons, List.not_mem_nil, or_false, Prod.mk.injEq] at hw
      obtain ⟨hl, hz⟩ := Bool.and_eq_true_iff.mp h
      have hl := of_decide_eq_true hl
      rcases hw with hw | hw | hw | hw | hw | hw | hw | hw | hw | hw | hw | hw | hw | hw | hw <;> obtain ⟨hw1, hk⟩ := hw <;> cases hk
      all_goals
        rcases ps with _ | ⟨p1, _ | ⟨p2, _ | ⟨p3, _ | ⟨p4, ps⟩⟩⟩⟩ <;> simp at hl
        simp only [zipD, List.all_cons, List.all_nil, isPart, v1, v2, v3, v4, v5, Bool.and_true, Bool.and_eq_true, isBetween_iff] at hz
      all_goals
        first
        | (obtain ⟨⟨i, rfl, _⟩, ⟨j, rfl, _⟩, ⟨k, rfl, _⟩⟩ := hz; refine ⟨(w, [i, j, k]), rfl, ?_⟩)
        | (obtain ⟨⟨i, rfl, _⟩, ⟨j, rfl, _⟩⟩ := hz; refine ⟨(w, [i, j]), rfl, ?_⟩)
        | (obtain ⟨i, rfl, _⟩ := hz; refine ⟨(w, [i]), rfl, ?_⟩)
        | refine ⟨(w, []), rfl, ?_⟩
      all_goals
        refine ⟨?_, ?_, ?_, ?_, ?_, ?_⟩
      all_goals
        first
        | (show PyData.strOk w = true; rw [hw1]; decide +kernel)
        | (intro h; exact absurd (hw1.symm.trans h) (by decide))
        | (intro _; rfl)
        | (intro _; exact ⟨_, rfl, by omega, by omega⟩)
        | (intro _; exact ⟨_, _, rfl, by omega, by omega⟩)
    · cases h
  · cases h
end LW
set_option Elab.async false
set_option linter.all false
set_option maxRecDepth 100000
set_option maxHeartbeats 4000000
namespace LW
open PySem DL LM
abbrev kinds (Rs : List TR) : List RK := Rs.map rk
theorem agains_len : ∀ (ks : List RK) (a : Int), (agains a ks).length ≤ ks.length
  | [], _ => by simp [agains]
  | .cnt :: r, a => by have := agains_len r (a + 1); simp [agains]; omega
  | .oth :: r, a => by have := agains_len r (a + 1); simp [agains]; omega
  | .agn n :: r, a => by have := agains_len r (a + 1); simp [agains]; omega
theorem counts_len : ∀ (ks : List RK) (a : Int), (counts a ks).length ≤ ks.length
  | [], _ => by simp [counts]
  | .cnt :: r, a => by have := counts_len r (a + 1); simp [counts]; omega
  | .oth :: r, a => by have := counts_len r (a + 1); simp [counts]; omega
  | .agn n :: r, a => by have := counts_len r (a + 1); simp [counts]; omega
def isAg (z : PyData) : Bool := match z with
  | .tuple [_, .tuple (.str w :: _)] => decide (w = "again")
  | _ => false
def agP (z : PyData) : PyData := match z with
  | .tuple [.int a, .tuple (_ :: .int n :: _)] => .tuple [.int (n - 1), .int a]
  | _ => .none
def isCo (z : PyData) : Bool := match z with
  | .tuple [_, .tuple (.str w :: _)] => decide (w = "count")
  | _ => false
def isWd (x : Str) (z : PyData) : Bool := match z with
  | .tuple [_, .tuple (.str w :: _)] => decide (w = x)
  | _ => false
def fstP (z : PyData) : PyData := match z with
  | .tuple (x :: _) => x
  | _ => .none
theorem ags : ∀ (Rs : List TR) (nr : Int) (k : Nat), (∀ r ∈ Rs, ROk nr r) → ((enumD k (Rs.map encR)).filter isAg).map agP = (agains k (kinds Rs)).map encII
  | [], _, _, _ => rfl
  | (w, is) :: Rs, nr, k, h => by
    have ih := ags Rs nr (k + 1) fun r hr => h r (by simp [hr])
    have hr := h (w, is) (by simp)
    by_cases e : w = "again"
    · obtain ⟨n, rfl, _⟩ := hr.ag e
      have e3 : ¬ (Str.ofString "again" = Str.ofString "count") := by decide
      simp [enumD, encR, isAg, e, agP, rk, e3, agains, encII]
      simpa [isAg, encII] using ih
    · by_cases e2 : w = "count"
      · have e3 : ¬ (Str.ofString "count" = Str.ofString "again") := by decide
        simp [enumD, encR, isAg, e3, rk, e2, agains]
        simpa [isAg] using ih
      · simp [enumD, encR, isAg, e, rk, e2, agains]
        simpa using ih
theorem cos : ∀ (Rs : List TR) (nr : Int) (k : Nat), (∀ r ∈ Rs, ROk nr r) → ((enumD k (Rs.map encR)).filter isCo).map fstP = (counts k (kinds Rs)).map .int
  | [], _, _, _ => rfl
  | (w, is) :: Rs, nr, k, h => by
    have ih := cos Rs nr (k + 1) fun r hr => h r (by simp [hr])
    have hr := h (w, is) (by simp)
    by_cases e2 : w = "count"
    · simp [enumD, encR, isCo, rk, e2, counts, fstP]
      simpa using ih
    · by_cases e : w = "again"
      · have e3 : ¬ (Str.ofString "again" = Str.ofString "count") := by decide
        simp [enumD, encR, isCo, e, e3, rk, counts]
        simpa [isCo] using ih
      · simp [enumD, encR, isCo, e, rk, e2, counts]
        simpa using ih
theorem rows_get {Rs : List TR} {z : PyData} {k : Nat} (h : z ∈ enumD k (Rs.map encR)) : ∃ (i : Nat) (r : TR), z = .tuple [.int (i : Nat), encR r] ∧ r ∈ Rs ∧ k ≤ i ∧ Rs[i - k]? = some r := by
  obtain ⟨i, x, rfl, h1, h2, h3, h4⟩ := enumD_mem h
  obtain ⟨r, hr, rfl⟩ := List.mem_map.mp h1
  rw [List.getElem?_map] at h4
  obtain ⟨r', h5, h6⟩ := Option.map_eq_some_iff.mp h4
  exact ⟨i, r', by rw [h6], List.mem_of_getElem? h5, h2, h5⟩
theorem m_loops_by {Rs : List TR} {nr : Int} (hR : ∀ r ∈ Rs, ROk nr r) (hl : Rs.length ≤ 1000) : f_loops_by [.dat (.tuple (Rs.map encR))] [] = some (.dat (.list ((isort leII (agains 0 (kinds Rs))).map encII)), []) := by
  have e : lcL [] (gTup 2 (DL.gCons (gName 1) (DL.gCons (gName 2) gNil))) (tOf (dBin (lift2 (gEq false)) (dIxA (dVar 2) (dK (.int 0))) (dK (.str "again")))) (dTup (aCons (dBin (lift2 gSub) (dIxA (dVar 2) (dK (.int 1))) (dK (.int 1))) (aCons (dVar 1) aNil))) [.dat (.tuple (Rs.map encR)), .un, .un] (enumD 0 (Rs.map encR)) [] = some (((enumD 0 (Rs.map encR)).filter isAg).map agP, []) := by
    refine lcL_pure isAg agP rfl _ fun z hz => ?_
    obtain ⟨i, ⟨w, is⟩, rfl, hr, _⟩ := rows_get hz
    refine ⟨_, by simp; rfl, by simp [encR, isAg, L2.atI, L2.ixN], fun hp => ?_⟩
    have hw : w = "again" := by simpa [isAg, encR] using hp
    obtain ⟨n, hn, _⟩ := (hR _ hr).ag hw
    have hn : is = [n] := hn
    subst hn
    simp [encR, agP, L2.atI, L2.ixN]
  have hg := gSorted_pairs (agains 0 (kinds Rs))
  have hz : ((enumD 0 (Rs.map encR))).length ≤ 1000000 := by rw [enumD_len]; simp; omega
  rw [show ((enumD 0 (Rs.map encR)).filter isAg).map agP = (agains 0 (kinds Rs)).map encII from ags Rs nr 0 hR] at e
  simp [f_loops_by, fnOf_ap, d_loops_by, hz, e, hg]
theorem m_around_by (L : List (Int × Int)) (r : Int) (hl : L.length ≤ 1000) : f_around_by [.dat (.list (L.map encII)), .int r] [] = some (.dat (.list (((L.filter (inR r)).map (·.1)).map .int)), []) := by
  have e : lcL [] (gTup 2 (DL.gCons (gName 2) (DL.gCons (gName 3) gNil))) (tOf (dChain gLt gLe (dVar 2) (dVar 1) (dVar 3))) (dVar 2) [.dat (.list (L.map encII)), .int r, .un, .un] (L.map encII) [] = some (((L.map encII).filter fun z => match z with
    | .tuple [.int a, .int b] => decide (a < r) && decide (r ≤ b)
    | _ => false).map fstP, []) := by
    refine lcL_pure _ fstP rfl _ fun z hz => ?_
    obtain ⟨⟨a, b⟩, hp, rfl⟩ := List.mem_map.mp hz
    refine ⟨_, by simp [encII]; rfl, ?_, fun _ => by simp [encII, fstP]⟩
    by_cases h : a < r <;> simp [encII, h]
  have e2 : ((L.map encII).filter fun z => match z with
    | .tuple [.int a, .int b] => decide (a < r) && decide (r ≤ b)
    | _ => false).map fstP = ((L.filter (inR r)).map (·.1)).map .int := by
    rw [List.filter_map]
    simp only [List.map_map]
    congr 1
  rw [e2] at e
  have hz : L.length ≤ 1000000 := by omega
  simp [f_around_by, fnOf_ap, d_around_by, hz, e]
theorem c_around_by (st : Sto) (L : List (Int × Int)) (r : Int) (hl : L.length ≤ 1000) : callF f_around_by [.dat (.list (L.map encII)), .dat (.int r)] st = some (.dat (.list (((L.filter (inR r)).map (·.1)).map .int)), st) := call_pure (m_around_by L r hl)
def apB (p q : Int × Int) : Bool := decide (p.2 < q.1) || (decide (p.1 < q.1) && decide (q.2 < p.2))
def apartB (p q : Int × Int) : Bool := if leII p q then apB p q else apB q p
theorem m_is_apart (p q : Int × Int) : f_is_apart [.dat (encII p), .dat (encII q)] [] = some (.bl (apartB p q), []) := by
  have e : gSorted [.d (.list [encII p, encII q])] = some (.list ((isort leII [p, q]).map encII)) := gSorted_pairs [p, q]
  have e2 : isort leII [p, q] = if leII p q then [p, q] else [q, p] := rfl
  rw [e2] at e
  obtain ⟨p1, p2⟩ := p
  obtain ⟨q1, q2⟩ := q
  by_cases h : leII (p1, p2) (q1, q2) = true
  · rw [if_pos h] at e
    simp only [encII, List.map_cons, List.map_nil] at e
    by_cases h1 : p2 < q1 <;> by_cases h2 : p1 < q1 <;> simp [f_is_apart, fnOf_ap, d_is_apart, d_is_apart_0, d_is_apart_1, e, encII, apartB, h, apB, h1, h2]
  · rw [if_neg h] at e
    simp only [encII, List.map_cons, List.map_nil] at e
    by_cases h1 : q2 < p1 <;> by_cases h2 : q1 < p1 <;> simp [f_is_apart, fnOf_ap, d_is_apart, d_is_apart_0, d_is_apart_1, e, encII, apartB, h, apB, h1, h2]
theorem c_is_apart (st : Sto) (p q : Int × Int) : callF f_is_apart [.dat (encII p), .dat (encII q)] st = some (.dat (.bool (apartB p q)), st) := call_pure (m_is_apart p q)
end LW
set_option Elab.async false
set_option linter.all false
set_option maxRecDepth 100000
set_option maxHeartbeats 4000000
namespace LW
open PySem DL LM
def pairsB : List (Int × Int) → Bool
  | [] => true
  | p :: r => r.all (apartB p) && pairsB r
theorem pairsB_drop {L : List (Int × Int)} {i : Nat} {p : Int × Int} (h : L[i]? = some p) : pairsB (L.drop i) = ((L.drop (i + 1)).all (apartB p) && pairsB (L.drop (i + 1))) := by
  obtain ⟨hi, e⟩ := List.getElem?_eq_some_iff.mp h
  rw [List.drop_eq_getElem_cons hi, e]
  rfl
theorem and_all {bs : List Bool} : (bs.all fun b => b) = true ↔ ∀ b ∈ bs, b = true := by simp
theorem loop_apart {R C : AV} (L : List (Int × Int)) (hl : L.length ≤ 1000) (x0 y0 : AV) :
    Ev (forL [] (gTup 2 (DL.gCons (gName 3) (DL.gCons (gName 4) gNil))) b_are_loops_1 (enumD 0 (L.map encII)) [R, .dat (.list (L.map encII)), C, x0, y0, .un, .un, .un, .un] []) fun q => q.2.2 = [] ∧ if pairsB L = true then q.1 = .nx ∧ ∃ x y, q.2.1 = [R, .dat (.list (L.map encII)), C, x, y, .un, .un, .un, .un] else q.1 = .rt (.bl false) := by
  refine forL_ev (fun i S st => st = [] ∧ (∃ x y, S = [R, .dat (.list (L.map encII)), C, x, y, .un, .un, .un, .un]) ∧ pairsB L = pairsB (L.drop i)) _ 0 _ _ ⟨rfl, ⟨_, _, rfl⟩, rfl⟩ (fun _ _ _ _ => rfl) ?_ ?_
  · rintro i d S st hd ⟨rfl, ⟨x, y, rfl⟩, hp⟩
    obtain ⟨z, hz, rfl⟩ := enumD_get2 hd
    rw [List.getElem?_map] at hz
    obtain ⟨p, hp1, rfl⟩ := Option.map_eq_some_iff.mp hz
    rw [Nat.zero_add] at hp
    have hpd := pairsB_drop hp1
    have hlc : lcL [] (gName 8) tYes (dCall f_is_apart (aCons (dVar 4) (aCons (dVar 8) aNil))) [R, .dat (.list (L.map encII)), C, .dat (.int (i : Nat)), .dat (encII p), .un, .un, .un, .un] ((L.drop (i + 1)).map encII) [] = some ((L.drop (i + 1)).map fun q => .bool (apartB p q), []) :=
      lcL_mapT encII (fun q => .bool (apartB p q)) rfl _ fun q hq => ⟨_, by simp; rfl, by simp [c_is_apart]⟩
    have hcut : cutD (L.map encII) (some ((i : Int) + 1)) none = (L.drop (i + 1)).map encII := by
      rw [show ((i : Int) + 1) = ((i + 1 : Nat) : Int) by push_cast; rfl, cutD_from, List.map_drop]
    have hz : (L.drop (i + 1)).length ≤ 1000000 := by simp; omega
    rw [Nat.zero_add]
    obtain ⟨D, hD⟩ : ∃ D, D = L.drop (i + 1) := ⟨_, rfl⟩
    rw [← hD] at hpd hlc hcut hz ⊢
    cases ha : D.all (apartB p) with
    | false =>
      rw [ha] at hpd
      rw [hpd] at hp
      simp at hp
      simp [b_are_loops_1, hcut, hlc, hz, gAll_map, -gAll_lst, ha, hp]
    | true =>
      rw [ha] at hpd
      rw [hpd] at hp
      simp only [Bool.true_and] at hp
      simp [b_are_loops_1, hcut, hlc, hz, gAll_map, -gAll_lst, ha, hp]
  · rintro S st ⟨rfl, ⟨x, y, rfl⟩, hp⟩
    rw [Nat.zero_add, enumD_len, List.length_map, List.drop_length] at hp
    have : pairsB L = true := hp
    simp [this]
def areLoopsB (ks : List RK) (L : List (Int × Int)) : Bool := decide (isort leI (counts 0 ks) = L.map (·.1)) && L.all (fun p => decide (p.1 < p.2)) && pairsB L && (List.range ks.length).all fun i => decide ((L.filter (inR (i : Nat))).length ≤ 2)
theorem al_0 {Rs : List TR} {nr : Int} (hR : ∀ r ∈ Rs, ROk nr r) {L : AV} : lcL [] (gTup 2 (DL.gCons (gName 3) (DL.gCons (gName 5) gNil))) (tOf (dBin (lift2 (gEq false)) (dIxA (dVar 5) (dK (.int 0))) (dK (.str "count")))) (dVar 3) [.dat (.tuple (Rs.map encR)), L, .un, .un, .un, .un, .un, .un, .un] (enumD 0 (Rs.map encR)) [] = some ((counts 0 (kinds Rs)).map .int, []) := by
  rw [show (counts 0 (kinds Rs)).map PyData.int = ((enumD 0 (Rs.map encR)).filter isCo).map fstP from (cos Rs nr 0 hR).symm]
  refine lcL_pure isCo fstP rfl _ fun z hz => ?_
  obtain ⟨i, ⟨w, is⟩, rfl, hr, _⟩ := rows_get hz
  exact ⟨_, by simp; rfl, by simp [encR, isCo, L2.atI, L2.ixN], fun hp => by simp [fstP]⟩
theorem al_1 {R C : AV} {L : List (Int × Int)} : lcL [] (gTup 2 (DL.gCons (gName 6) (DL.gCons (gName 7) gNil))) tYes (dVar 6) [R, .dat (.list (L.map encII)), C, .un, .un, .un, .un, .un, .un] (L.map encII) [] = some ((L.map (·.1)).map .int, []) := by
  rw [List.map_map]
  exact lcL_mapT encII (fun p => .int p.1) rfl _ fun q hq => ⟨_, by simp [encII]; rfl, by simp⟩
theorem al_2 {R C : AV} {L : List (Int × Int)} : lcL [] (gTup 2 (DL.gCons (gName 6) (DL.gCons (gName 7) gNil))) tYes (dBin (lift2 gLt) (dVar 6) (dVar 7)) [R, .dat (.list (L.map encII)), C, .un, .un, .un, .un, .un, .un] (L.map encII) [] = some (L.map (fun p => .bool (decide (p.1 < p.2))), []) :=
  lcL_mapT encII _ rfl _ fun q hq => ⟨_, by simp [encII]; rfl, by simp⟩
theorem al_3 {R C x y : AV} {L : List (Int × Int)} {n : Nat} (hL : L.length ≤ 1000) : lcL [] (gName 5) tYes (dBin (lift2 gLe) (dCallB gLen (aCons (dCall f_around_by (aCons (dVar 1) (aCons (dVar 5) aNil))) aNil)) (dK (.int 2))) [R, .dat (.list (L.map encII)), C, x, y, .un, .un, .un, .un] ((List.range n).map fun (i : Nat) => .int (i : Int)) [] = some ((List.range n).map (fun i => .bool (decide ((L.filter (inR (i : Nat))).length ≤ 2))), []) :=
  lcL_mapT _ _ rfl _ fun i hi => ⟨_, by simp; rfl, by simp [c_around_by _ _ _ hL]; omega⟩
theorem m_are_loops {Rs : List TR} {nr : Int} (hR : ∀ r ∈ Rs, ROk nr r) (hl : Rs.length ≤ 1000) (L : List (Int × Int)) (hL : L.length ≤ 1000) :
    f_are_loops [.dat (.tuple (Rs.map encR)), .dat (.list (L.map encII))] [] = some (.bl (areLoopsB (kinds Rs) L), []) := by
  have hz : ((enumD 0 (Rs.map encR))).length ≤ 1000000 := by rw [enumD_len]; simp; omega
  have hz2 : L.length ≤ 1000000 := by omega
  have hz4 : Rs.length ≤ 1000000 := by omega
  have g1 := gSorted_ints (counts 0 (kinds Rs))
  have g2 := gEq_ints (neg := true) (isort leI (counts 0 (kinds Rs))) (L.map (·.1))
  have hk : (kinds Rs).length = Rs.length := by simp
  have hloop := loop_apart (R := .dat (.tuple (Rs.map encR))) (C := .dat (.list ((counts 0 (kinds Rs)).map .int))) L hL .un .un
  obtain ⟨cs, hcs⟩ : ∃ cs, cs = (counts 0 (kinds Rs)) := ⟨_, rfl⟩
  have e := al_0 hR (L := .dat (.list (L.map encII)))
  unfold areLoopsB
  rw [← hcs] at g1 g2 hloop e ⊢
  rw [hk]
  rw [← Ev_eq]
  cases c1 : decide (isort leI cs = L.map (·.1)) with
  | false =>
    rw [c1] at g2
    simp [f_are_loops, fnOf_ap, d_are_loops, d_are_loops_0, d_are_loops_1, e, hz, hz2, al_1, g1, g2, c1, -List.map_map]
  | true =>
    rw [c1] at g2
    cases c2 : L.all (fun p => decide (p.1 < p.2)) with
    | false =>
      simp [f_are_loops, fnOf_ap, d_are_loops, d_are_loops_0, d_are_loops_1, e, hz, hz2, al_1, al_2, g1, g2, c1, c2, gAll_map, -gAll_lst, -List.map_map, -List.all_eq_true, -List.all_eq_false]
    | true =>
      simp [f_are_loops, fnOf_ap, d_are_loops, d_are_loops_0, d_are_loops_1, d_are_loops_2, e, hz, hz2, al_1, al_2, g1, g2, c1, c2, gAll_map, -gAll_lst, -List.map_map, -List.all_eq_true, -List.all_eq_false]
      refine hloop.mono ?_
      rintro ⟨fl, S, st⟩ ⟨hst, h⟩
      simp only at hst h
      subst hst
      cases c3 : pairsB L with
      | false =>
        rw [c3] at h
        simp at h
        subst h
        simp
      | true =>
        rw [c3] at h
        simp at h
        obtain ⟨rfl, x, y, rfl⟩ := h
        simp [d_are_loops_3, rng1_nat hz4, hz4, al_3 hL, gAll_map, -gAll_lst, -List.all_eq_true, -List.map_map]
end LW
set_option Elab.async false
set_option linter.all false
set_option maxRecDepth 100000
set_option maxHeartbeats 4000000
namespace LW
open PySem DL LM
def arn (L : List (Int × Int)) (x : Int) : List Int := (L.filter (inR x)).map (·.1)
def isJ (r : TR) : Bool := decide (r.1 = "test") || decide (r.1 = "go")
def jTo (r : TR) : Int := r.2.getLastD 0
def jumpOk (L : List (Int × Int)) (k : Nat) (r : TR) : Bool := !isJ r || (decide ((k : Int) < jTo r) && (arn L (jTo r)).all fun f => decide (f ∈ arn L k))
theorem arn_len {L : List (Int × Int)} {x : Int} (h : L.length ≤ 1000) : (arn L x).length ≤ 1000 := by
  unfold arn; rw [List.length_map]; exact Nat.le_trans (List.length_filter_le _ _) h
theorem c_arn (st : Sto) {L : List (Int × Int)} (r : Int) (hl : L.length ≤ 1000) : callF f_around_by [.dat (.list (L.map encII)), .dat (.int r)] st = some (.dat (.list ((arn L r).map .int)), st) := c_around_by st L r hl
theorem jump_shape {nr : Int} {r : TR} (h : ROk nr r) (hj : isJ r = true) : ∃ is n, r.2 = is ++ [n] ∧ jTo r = n ∧ is.length ≤ 1 ∧ 0 ≤ n ∧ n < nr := by
  simp only [isJ, Bool.or_eq_true, decide_eq_true_eq] at hj
  rcases hj with hj | hj
  · obtain ⟨s, n, e, h1, h2⟩ := h.te hj
    exact ⟨[s], n, by simp [e], by simp [jTo, e], by simp, h1, h2⟩
  · obtain ⟨n, e, h1, h2⟩ := h.go hj
    exact ⟨[], n, by simp [e], by simp [jTo, e], by simp, h1, h2⟩
theorem intsOf_ints (l : List Int) : intsOf (l.map .int) = some l := by
  have := intsOf_map (fun x : Int => x) l
  simpa using this
theorem loop_jumps {R : AV} {Rs : List TR} {nr : Int} (hR : ∀ r ∈ Rs, ROk nr r) (L : List (Int × Int)) (hL : L.length ≤ 1000) (S : List AV) (hS : ∃ a b c d, S = [R, .dat (.list (L.map encII)), a, b, c, d]) :
    Ev (forL [] (gTup 2 (DL.gCons (gName 2) (DL.gCons (gName 3) gNil))) b_are_jumps_1 (enumD 0 (Rs.map encR)) S []) fun q => q.2.2 = [] ∧ if allFrom (jumpOk L) 0 Rs = true then q.1 = .nx ∧ (fun S => ∃ a b c d, S = [R, .dat (.list (L.map encII)), a, b, c, d]) q.2.1 else q.1 = .rt (.bl false) := by
  refine forL_enum encR (jumpOk L) (fun S => ∃ a b c d, S = [R, .dat (.list (L.map encII)), a, b, c, d]) rfl Rs 0 S hS ?_
  rintro i ⟨w, is⟩ S hi ⟨a, b, c, d, rfl⟩
  have hr := hR _ (List.mem_of_getElem? hi)
  rw [Nat.zero_add]
  cases hj : isJ (w, is) with
  | false =>
    have hw1 : ¬ w = "test" := by intro e; simp [isJ, e] at hj
    have hw2 : ¬ w = "go" := by intro e; simp [isJ, e] at hj
    have hj1 : jumpOk L i (w, is) = true := by simp [jumpOk, hj]
    simp [b_are_jumps_1, encR, L2.atI, L2.ixN, strsOf, hw1, hw2, hj1]
  | true =>
    have hw : w = "test" ∨ w = "go" := by simpa [isJ] using hj
    obtain ⟨js, n, e, hn, hlen, h1, h2⟩ := jump_shape hr hj
    have e : is = js ++ [n] := e
    subst e
    have hat : L2.atI (PyData.str w :: (js.map PyData.int ++ [PyData.int n])) (-1) = some (PyData.int n) := by
      rw [atI_last, ← List.cons_append]
      exact List.getLast?_concat
    have hlc : ∀ (a : AV), lcL [] (gName 5) tYes (dInA false (dVar 5) (dVar 4)) [R, .dat (.list (L.map encII)), .dat (.int (i : Int)), a, .dat (.list ((arn L i).map .int)), .un] ((arn L n).map .int) [] = some ((arn L n).map (fun f => .bool (decide (f ∈ arn L i))), []) := fun a =>
      lcL_mapT _ _ rfl _ fun f hf => ⟨_, by simp; rfl, by simp [intsOf_ints]⟩
    have hz : (arn L n).length ≤ 1000000 := by have := arn_len (x := n) hL; omega
    by_cases hlt : (i : Int) < n
    · have hlt2 : ¬ (n ≤ (i : Int)) := by omega
      cases ha : (arn L n).all (fun f => decide (f ∈ arn L i)) with
      | false =>
        have hj1 : jumpOk L i (w, js ++ [n]) = false := by simp [jumpOk, hj, hn, ha, -List.all_eq_false]
        rcases hw with rfl | rfl <;> simp [b_are_jumps_1, encR, strsOf, hj1, hat, c_arn _ _ hL, hlt2, hlc, hz, gAll_map, -gAll_lst, ha, -List.all_eq_false]
      | true =>
        have hj1 : jumpOk L i (w, js ++ [n]) = true := by simp [jumpOk, hj, hn, ha, hlt, -List.all_eq_true]
        rcases hw with rfl | rfl <;> simp [b_are_jumps_1, encR, strsOf, hj1, hat, c_arn _ _ hL, hlt2, hlc, hz, gAll_map, -gAll_lst, ha, -List.all_eq_true]
    · have hlt2 : n ≤ (i : Int) := by omega
      have hj1 : jumpOk L i (w, js ++ [n]) = false := by simp [jumpOk, hj, hn, hlt]
      rcases hw with rfl | rfl <;> simp [b_are_jumps_1, encR, strsOf, hj1, hat, c_arn _ _ hL, hlt2]
def areJumpsB (Rs : List TR) (L : List (Int × Int)) : Bool := allFrom (jumpOk L) 0 Rs
theorem m_are_jumps {Rs : List TR} {nr : Int} (hR : ∀ r ∈ Rs, ROk nr r) (L : List (Int × Int)) (hL : L.length ≤ 1000) :
    f_are_jumps [.dat (.tuple (Rs.map encR)), .dat (.list (L.map encII))] [] = some (.bl (areJumpsB Rs L), []) := by
  rw [← Ev_eq]
  simp [f_are_jumps, fnOf_ap, d_are_jumps, d_are_jumps_0, d_are_jumps_1]
  refine (loop_jumps hR L hL _ ⟨_, _, _, _, rfl⟩).mono ?_
  rintro ⟨fl, S, st⟩ ⟨hst, h⟩
  simp only at hst h
  subst hst
  unfold areJumpsB
  cases c : allFrom (jumpOk L) 0 Rs with
  | false =>
    rw [c] at h
    simp at h
    subst h
    simp
  | true =>
    rw [c] at h
    simp at h
    obtain ⟨rfl, a, b, c, d, rfl⟩ := h
    simp
/-! ### are_rows -/
def isEndR (r : TR) : Bool := decide (r.1 = "end")
def endsAt : Nat → List TR → List Int
  | _, [] => []
  | k, r :: rs => if isEndR r then (k : Int) :: endsAt (k + 1) rs else endsAt (k + 1) rs
theorem ends_eq : ∀ (Rs : List TR) (k : Nat), ((enumD k (Rs.map encR)).filter (isWd "end")).map fstP = (endsAt k Rs).map .int
  | [], _ => rfl
  | (w, is) :: Rs, k => by
    have ih := ends_eq Rs (k + 1)
    by_cases e : w = "end"
    · simp [enumD, encR, isWd, e, isEndR, endsAt, fstP]
      simpa [isWd] using ih
    · simp [enumD, encR, isWd, e, isEndR, endsAt]
      simpa [isWd] using ih
def typed (d : PyData) : TR := match d with
  | .tuple (.str w :: ps) => (w, ps.map fun p => match p with
    | .int i => i
    | _ => 0)
  | _ => ("", [])
theorem typed_enc (r : TR) : typed (encR r) = r := by
  obtain ⟨w, is⟩ := r
  simp [typed, encR, Function.comp_def]
def goodRows (Rs : List TR) : Bool := decide (endsAt 0 Rs = [(Rs.length : Int) - 1]) && areLoopsB (kinds Rs) (isort leII (agains 0 (kinds Rs))) && areJumpsB Rs (isort leII (agains 0 (kinds Rs)))
def areRows (m na : Int) (rs : List PyData) : Bool := decide (1 ≤ rs.length) && decide (rs.length ≤ 60) && rs.all (isRow m na rs.length) && goodRows (rs.map typed)
theorem rows_typed {m na nr : Int} : ∀ {rs : List PyData}, rs.all (isRow m na nr) = true → ∃ Rs : List TR, rs = Rs.map encR ∧ ∀ r ∈ Rs, ROk nr r
  | [], _ => ⟨[], rfl, by simp⟩
  | d :: rs, h => by
    simp only [List.all_cons, Bool.and_eq_true] at h
    obtain ⟨r, rfl, hr⟩ := isRow_typed h.1
    obtain ⟨Rs, rfl, hR⟩ := rows_typed h.2
    exact ⟨r :: Rs, rfl, by
      intro x hx
      rcases List.mem_cons.mp hx with rfl | hx
      · exact hr
      · exact hR x hx⟩
theorem typed_map (Rs : List TR) : (Rs.map encR).map typed = Rs := by
  rw [List.map_map]
  have : typed ∘ encR = id := funext typed_enc
  rw [this, List.map_id]
theorem m_are_rows {m na : Int} (rs : List PyData) : f_are_rows [.han 0, .dat (.tuple rs)] (limS m na rs.length) = some (.bl (areRows m na rs), limS m na rs.length) := by
  by_cases h1 : 1 ≤ rs.length
  · by_cases h2 : rs.length ≤ 60
    · have h1' : ((1 : Int) ≤ (rs.length : Int)) := by omega
      have h2' : ((rs.length : Int) ≤ 60) := by omega
      have hz : rs.length ≤ 1000000 := by omega
      have hlc : lcL [] (gName 4) tYes (dCall f_is_row_within (aCons (dVar 0) (aCons (dVar 4) aNil))) [.han 0, .dat (.tuple rs), .un, .un, .un] rs (limS m na rs.length) = some (rs.map (fun d => .bool (isRow m na rs.length d)), limS m na rs.length) :=
        lcL_map _ rfl _ fun d hd => ⟨_, by simp; rfl, by
          have : callF f_is_row_within [.han 0, .dat d] (limS m na rs.length) = some (.bl (isRow m na rs.length d), limS m na rs.length) := Ev_eq.mp (call_one (Ev.of_eq (m_is_row d) ⟨_, _, rfl, rfl⟩))
          simpa using this⟩
      cases ha : rs.all (isRow m na rs.length) with
      | false =>
        have : areRows m na rs = false := by simp [areRows, ha, -List.all_eq_false]
        rw [this]
        simp [f_are_rows, fnOf_ap, d_are_rows, d_are_rows_0, d_are_rows_1, h1', h2', hz, hlc, gAll_map, -gAll_lst, ha, -List.all_eq_false]
      | true =>
        obtain ⟨Rs, rfl, hR⟩ := rows_typed ha
        have : areRows m na (Rs.map encR) = goodRows Rs := by
          unfold areRows
          rw [ha, typed_map]
          simp [h1, h2]
          simp at h1 h2
          simp [h1, h2]
        rw [this]
        have he : lcL [] (gTup 2 (DL.gCons (gName 3) (DL.gCons (gName 4) gNil))) (tOf (dBin (lift2 (gEq false)) (dIxA (dVar 4) (dK (.int 0))) (dK (.str "end")))) (dVar 3) [.han 0, .dat (.tuple (Rs.map encR)), .un, .un, .un] (enumD 0 (Rs.map encR)) (limS m na (Rs.map encR).length) = some ((endsAt 0 Rs).map .int, limS m na (Rs.map encR).length) := by
          rw [← ends_eq Rs 0]
          refine lcL_pure (isWd "end") fstP rfl _ fun z hz => ?_
          obtain ⟨i, ⟨w, is⟩, rfl, hr, _⟩ := rows_get hz
          exact ⟨_, by simp; rfl, by simp [encR, isWd], fun hp => by simp [fstP]⟩
        have hz2 : (enumD 0 (Rs.map encR)).length ≤ 1000000 := by rw [enumD_len]; exact hz
        have hl : Rs.length ≤ 1000 := by simp at h2; omega
        obtain ⟨L, hLe⟩ : ∃ L, L = isort leII (agains 0 (kinds Rs)) := ⟨_, rfl⟩
        have hL : L.length ≤ 1000 := by
          rw [hLe, (isort_perm _).length_eq]
          have := agains_len (kinds Rs) 0
          simp at this; omega
        have e1 : ∀ st, callF f_loops_by [.dat (.tuple (Rs.map encR))] st = some (.dat (.list (L.map encII)), st) := fun st => by rw [hLe]; exact call_pure (m_loops_by hR hl)
        have e2 : ∀ st, callF f_are_loops [.dat (.tuple (Rs.map encR)), .dat (.list (L.map encII))] st = some (.bl (areLoopsB (kinds Rs) L), st) := fun st => call_pure (m_are_loops hR hl L hL)
        have e3 : ∀ st, callF f_are_jumps [.dat (.tuple (Rs.map encR)), .dat (.list (L.map encII))] st = some (.bl (areJumpsB Rs L), st) := fun st => call_pure (m_are_jumps hR L hL)
        have hlen : (Rs.map encR).length = Rs.length := by simp
        have g2 := gEq_ints (neg := true) (endsAt 0 Rs) [(Rs.length : Int) - 1]
        unfold goodRows
        rw [← hLe]
        simp only [List.map_cons, List.map_nil] at g2
        rw [hlen] at h1 h2 h1' h2' hz hlc he ha ⊢
        cases c1 : decide (endsAt 0 Rs = [(Rs.length : Int) - 1]) with
        | false =>
          rw [c1] at g2
          simp [f_are_rows, fnOf_ap, d_are_rows, d_are_rows_0, d_are_rows_1, d_are_rows_2, h1', h2', hz, hlc, gAll_map, -gAll_lst, ha, -List.all_eq_true, -List.map_map, -List.all_map, he, hz2, g2]
        | true =>
          rw [c1] at g2
          cases c2 : areLoopsB (kinds Rs) L <;> simp [f_are_rows, fnOf_ap, d_are_rows, d_are_rows_0, d_are_rows_1, d_are_rows_2, d_are_rows_3, d_are_rows_4, h1', h2', hz, hlc, gAll_map, -gAll_lst, ha, -List.all_eq_true, -List.map_map, -List.all_map, he, hz2, g2, e1, e2, e3, c2]
    · have h1' : ((1 : Int) ≤ (rs.length : Int)) := by omega
      have h2' : ¬ ((rs.length : Int) ≤ 60) := by omega
      simp [f_are_rows, fnOf_ap, d_are_rows, d_are_rows_0, h1', h2', areRows, h2]
  · have h1' : ¬ ((1 : Int) ≤ (rs.length : Int)) := by omega
    have h1'' : rs.length = 0 := by omega
    simp [f_are_rows, fnOf_ap, d_are_rows, d_are_rows_0, h1', areRows, h1'']
end LW
set_option Elab.async false
set_option linter.all false
set_option maxRecDepth 100000
set_option maxHeartbeats 4000000
namespace LW
open PySem DL LM
def mxl (as : List PyData) : Int := if (as.length : Int) > 1 then as.length else 1
def codeIn (m : Int) (shown arrays rows : PyData) : Bool := isBetween shown 0 m && match arrays, rows with
  | .tuple ar, .tuple rs => decide (ar.length ≤ 2) && ar.all (fun d => isBetween d 1 6) && areRows m ar.length rs
  | _, _ => false
def isCode5 (asks many shown arrays rows : PyData) : Bool := match asks with
  | .tuple as => decide (as.length ≤ 3) && as.all isSpan && (match many with
    | .int m => decide (mxl as ≤ m) && decide (m ≤ 16) && codeIn m shown arrays rows
    | _ => false)
  | _ => false
def isCode : PyData → Bool
  | .tuple [asks, many, shown, arrays, rows] => isCode5 asks many shown arrays rows
  | _ => false
theorem m_is_code5 (asks many shown arrays rows : PyData) : f_is_code [.dat (.tuple [asks, many, shown, arrays, rows])] [] = some (.bl (isCode5 asks many shown arrays rows), []) := by
  cases asks with
  | tuple as =>
    by_cases h1 : as.length ≤ 3
    · have h1' : ¬ ((3 : Int) < (as.length : Int)) := by omega
      have hz : as.length ≤ 1000000 := by omega
      have hlc : ∀ a, lcL [] (gName 7) tYes (dCall f_is_span (aCons (dVar 7) aNil)) [a, .dat (.tuple as), .dat many, .dat shown, .dat arrays, .dat rows, .un, .un] as [] = some (as.map (fun d => .bool (isSpan d)), []) := fun a =>
        lcL_map _ rfl _ fun d hd => ⟨_, by simp; rfl, by simp [c_is_span]⟩
      cases h2 : as.all isSpan with
      | false =>
        simp [f_is_code, fnOf_ap, d_is_code, d_is_code_0, d_is_code_1, d_is_code_2, h1', hz, hlc, gAll_map, -gAll_lst, h2, -List.all_eq_false, isCode5]
      | true =>
        have hmx : (if (1 : Int) < (as.length : Int) then (as.length : Int) else 1) = mxl as := rfl
        cases many with
        | int m =>
          cases h3 : isBetween (.int m) (mxl as) 16 with
          | false =>
            have h3' : (decide (mxl as ≤ m) && decide (m ≤ 16)) = false := h3
            have h3'' : isCode5 (.tuple as) (.int m) shown arrays rows = false := by simp only [isCode5, h3', Bool.and_false, Bool.false_and]
            rw [h3'']
            simp [f_is_code, fnOf_ap, d_is_code, d_is_code_0, d_is_code_1, d_is_code_2, d_is_code_3, h1', hz, hlc, gAll_map, -gAll_lst, h2, -List.all_eq_true, hmx, c_is_between, h3]
          | true =>
            have h3' : (decide (mxl as ≤ m) && decide (m ≤ 16)) = true := h3
            have h3'' : isCode5 (.tuple as) (.int m) shown arrays rows = codeIn m shown arrays rows := by simp only [isCode5, h3', h1, h2, decide_true, Bool.true_and]
            rw [h3'']
            cases h4 : isBetween shown 0 m with
            | false =>
              simp [f_is_code, fnOf_ap, d_is_code, d_is_code_0, d_is_code_1, d_is_code_2, d_is_code_3, h1', hz, hlc, gAll_map, -gAll_lst, h2, -List.all_eq_true, hmx, c_is_between, h3, h4, codeIn]
            | true =>
              cases arrays with
              | tuple ar =>
                by_cases h5 : ar.length ≤ 2
                · have h5' : ¬ ((2 : Int) < (ar.length : Int)) := by omega
                  have hz2 : ar.length ≤ 1000000 := by omega
                  cases rows with
                  | tuple rs =>
                    have hlc2 : ∀ a, lcL [] (gName 6) tYes (dCall f_is_between (aCons (dVar 6) (aCons (dK (.int 1)) (aCons (dK (.int 6)) aNil)))) [a, .dat (.tuple as), .dat (.int m), .dat shown, .dat (.tuple ar), .dat (.tuple rs), .un, .un] ar [] = some (ar.map (fun d => .bool (isBetween d 1 6)), []) := fun a =>
                      lcL_map _ rfl _ fun d hd => ⟨_, by simp; rfl, by simp [c_is_between]⟩
                    cases h6 : ar.all (fun d => isBetween d 1 6) with
                    | false =>
                      simp [f_is_code, fnOf_ap, d_is_code, d_is_code_0, d_is_code_1, d_is_code_2, d_is_code_3, d_is_code_4, d_is_code_5, h1', hz, hlc, gAll_map, -gAll_lst, h2, -List.all_eq_true, -List.all_eq_false, hmx, c_is_between, h3, h4, codeIn, h5', hz2, hlc2, h6]
                    | true =>
                      have e1 : callF f_limits_of [.dat (.int m), .dat (.tuple ar), .dat (.tuple rs)] [] = some (.han 0, limS m ar.length rs.length) := by
                        unfold callF
                        simp [hansA, renA, cells, inAll, fresh1, m_limits_of, wb, outF]
                      have e2 : callF f_are_rows [.han 0, .dat (.tuple rs)] (limS m ar.length rs.length) = some (.bl (areRows m ar.length rs), limS m ar.length rs.length) := Ev_eq.mp (call_one (Ev.of_eq (m_are_rows rs) ⟨_, _, rfl, rfl⟩))
                      simp [f_is_code, fnOf_ap, d_is_code, d_is_code_0, d_is_code_1, d_is_code_2, d_is_code_3, d_is_code_4, d_is_code_5, d_is_code_6, h1', hz, hlc, gAll_map, -gAll_lst, h2, -List.all_eq_true, hmx, c_is_between, h3, h4, codeIn, h5, h5', hz2, hlc2, h6, e1, e2]
                  | _ => simp [f_is_code, fnOf_ap, d_is_code, d_is_code_0, d_is_code_1, d_is_code_2, d_is_code_3, d_is_code_4, h1', hz, hlc, gAll_map, -gAll_lst, h2, -List.all_eq_true, hmx, c_is_between, h3, h4, codeIn, h5']
                · have h5' : ((2 : Int) < (ar.length : Int)) := by omega
                  have h5'' : codeIn m shown (.tuple ar) rows = false := by
                    unfold codeIn; cases rows <;> simp [h5]
                  rw [h5'']
                  simp [f_is_code, fnOf_ap, d_is_code, d_is_code_0, d_is_code_1, d_is_code_2, d_is_code_3, d_is_code_4, h1', hz, hlc, gAll_map, -gAll_lst, h2, -List.all_eq_true, hmx, c_is_between, h3, h4, h5']
              | _ => simp [f_is_code, fnOf_ap, d_is_code, d_is_code_0, d_is_code_1, d_is_code_2, d_is_code_3, d_is_code_4, h1', hz, hlc, gAll_map, -gAll_lst, h2, -List.all_eq_true, hmx, c_is_between, h3, h4, codeIn]
        | _ => simp [f_is_code, fnOf_ap, d_is_code, d_is_code_0, d_is_code_1, d_is_code_2, d_is_code_3, h1', hz, hlc, gAll_map, -gAll_lst, h2, -List.all_eq_true, hmx, c_is_between, isBetween, isCode5]
    · have h1' : ((3 : Int) < (as.length : Int)) := by omega
      simp [f_is_code, fnOf_ap, d_is_code, d_is_code_0, d_is_code_1, d_is_code_2, h1', isCode5, h1]
  | _ => simp [f_is_code, fnOf_ap, d_is_code, d_is_code_0, d_is_code_1, d_is_code_2, isCode5]
theorem m_is_code (d : PyData) : f_is_code [.dat d] [] = some (.bl (isCode d), []) := by
  cases d with
  | tuple ds =>
    match ds with
    | [] => rfl
    | [_] => rfl
    | [_, _] => rfl
    | [_, _, _] => rfl
    | [_, _, _, _] => rfl
    | [a, b, c, d, e] => exact m_is_code5 a b c d e
    | a :: b :: c :: d :: e :: f :: l =>
      have h : ¬ ((l.length : Int) + 1 + 1 + 1 + 1 + 1 + 1 = 5) := by omega
      simp [f_is_code, fnOf_ap, d_is_code, d_is_code_0, h, isCode]
  | _ => rfl
theorem c_is_code (st : Sto) (d : PyData) : callF f_is_code [.dat d] st = some (.bl (isCode d), st) := call_pure (m_is_code d)
end LW
set_option Elab.async false
set_option linter.all false
set_option maxRecDepth 100000
set_option maxHeartbeats 4000000
namespace LW
open PySem DL LM
/-! ### the law's own look: rows -/
def forms8 : List (L2.Key × PyData) := [(.inr "set", .str "rw"), (.inr "copy", .str "rr"), (.inr "get", .str "rar"), (.inr "put", .str "arr"), (.inr "test", .str "rn"), (.inr "go", .str "n"), (.inr "count", .str "m"), (.inr "again", .str "n")]
def forms7 : List (L2.Key × PyData) := [(.inr "+", .str "rrr"), (.inr "-", .str "rrr"), (.inr "*", .str "rrr"), (.inr "<", .str "rrr"), (.inr "=", .str "rrr"), (.inr "rest", .str ""), (.inr "end", .str "")]
def formsL : List (L2.Key × PyData) := [(.inr "set", .str "rw"), (.inr "copy", .str "rr"), (.inr "get", .str "rar"), (.inr "put", .str "arr"), (.inr "test", .str "rn"), (.inr "go", .str "n"), (.inr "count", .str "m"), (.inr "again", .str "n"), (.inr "+", .str "rrr"), (.inr "-", .str "rrr"), (.inr "*", .str "rrr"), (.inr "<", .str "rrr"), (.inr "=", .str "rrr"), (.inr "rest", .str ""), (.inr "end", .str "")]
def tops (m na nr : Int) : List (L2.Key × PyData) := [(.inr "r", .int m), (.inr "w", .int 256), (.inr "a", .int na), (.inr "n", .int nr), (.inr "m", .int 7)]
def topOk (m na nr : Int) (z : PyData) : Bool := match z with
  | .tuple [.str k, .int p] => match valP (tops m na nr) (.inr k) with
    | some (.int t) => decide ((if k = "m" then 1 else 0) ≤ p) && decide (p < t)
    | _ => false
  | _ => false
def isRowL (m na nr : Int) : PyData → Bool
  | .tuple (.str w :: ps) => match valP formsL (.inr w) with
    | some (.str ks) => decide (ps.length = ks.length) && (ps.all isWhole && (zipD (signsD ks) ps).all (topOk m na nr))
    | _ => false
  | _ => false
theorem m_whole (d : PyData) : f__law_whole [.dat d] [] = some (.bl (isWhole d), []) := by
  cases d <;> rfl
theorem c_whole (st : Sto) (d : PyData) : callF f__law_whole [.dat d] st = some (.bl (isWhole d), st) := call_pure (m_whole d)
theorem isWhole_all : ∀ {ps : List PyData}, ps.all isWhole = true → ∃ is : List Int, ps = is.map .int
  | [], _ => ⟨[], rfl⟩
  | d :: ps, h => by
    simp only [List.all_cons, Bool.and_eq_true] at h
    obtain ⟨is, rfl⟩ := isWhole_all h.2
    cases d <;> simp [isWhole] at h
    exact ⟨_ :: is, rfl⟩
theorem valP_mem {kvs : List (L2.Key × PyData)} {k : L2.Key} {y : PyData} (h : valP kvs k = some y) : (k, y) ∈ kvs := by
  unfold valP at h
  obtain ⟨p, h1, rfl⟩ := Option.map_eq_some_iff.mp h
  have := List.find?_some h1
  have e : p.1 = k := by simpa using this
  rw [← e]
  exact List.mem_of_find?_eq_some h1
theorem tp_r (m na nr : Int) : valP (tops m na nr) (.inr "r") = some (.int m) := rfl
theorem lp_r (m na nr : Int) (p : PyData) : isPart m na nr (.str "register") p = (isWhole p && topOk m na nr (.tuple [.str "r", p])) := by
  have v : valP (lims m na nr) (.inr "register") = some (.tuple [.int 0, .int (m - 1)]) := rfl
  have e : (Str.ofString "r" = Str.ofString "m") = False := by simp; try decide
  cases p with
  | int i =>
    simp only [isPart, v, topOk, tp_r, isWhole, isBetween, e, Bool.true_and, if_true, if_false]
    rw [Bool.eq_iff_iff]; simp only [Bool.and_eq_true, decide_eq_true_eq]; omega
  | _ => simp [isPart, v, isBetween, isWhole]
theorem sg_r : ∀ (m na nr : Int), ∃ k t, PyData.str "r" = .str k ∧ valP (tops m na nr) (.inr k) = some (.int t) := fun m na nr => ⟨_, _, rfl, tp_r m na nr⟩
theorem tp_w (m na nr : Int) : valP (tops m na nr) (.inr "w") = some (.int 256) := rfl
theorem lp_w (m na nr : Int) (p : PyData) : isPart m na nr (.str "worth") p = (isWhole p && topOk m na nr (.tuple [.str "w", p])) := by
  have v : valP (lims m na nr) (.inr "worth") = some (.tuple [.int 0, .int 255]) := rfl
  have e : (Str.ofString "w" = Str.ofString "m") = False := by simp; try decide
  cases p with
  | int i =>
    simp only [isPart, v, topOk, tp_w, isWhole, isBetween, e, Bool.true_and, if_true, if_false]
    rw [Bool.eq_iff_iff]; simp only [Bool.and_eq_true, decide_eq_true_eq]; omega
  | _ => simp [isPart, v, isBetween, isWhole]
theorem sg_w : ∀ (m na nr : Int), ∃ k t, PyData.str "w" = .str k ∧ valP (tops m na nr) (.inr k) = some (.int t) := fun m na nr => ⟨_, _, rfl, tp_w m na nr⟩
theorem tp_a (m na nr : Int) : valP (tops m na nr) (.inr "a") = some (.int na) := rfl
theorem lp_a (m na nr : Int) (p : PyData) : isPart m na nr (.str "array") p = (isWhole p && topOk m na nr (.tuple [.str "a", p])) := by
  have v : valP (lims m na nr) (.inr "array") = some (.tuple [.int 0, .int (na - 1)]) := rfl
  have e : (Str.ofString "a" = Str.ofString "m") = False := by simp; try decide
  cases p with
  | int i =>
    simp only [isPart, v, topOk, tp_a, isWhole, isBetween, e, Bool.true_and, if_true, if_false]
    rw [Bool.eq_iff_iff]; simp only [Bool.and_eq_true, decide_eq_true_eq]; omega
  | _ => simp [isPart, v, isBetween, isWhole]
theorem sg_a : ∀ (m na nr : Int), ∃ k t, PyData.str "a" = .str k ∧ valP (tops m na nr) (.inr k) = some (.int t) := fun m na nr => ⟨_, _, rfl, tp_a m na nr⟩
theorem tp_n (m na nr : Int) : valP (tops m na nr) (.inr "n") = some (.int nr) := rfl
theorem lp_n (m na nr : Int) (p : PyData) : isPart m na nr (.str "row") p = (isWhole p && topOk m na nr (.tuple [.str "n", p])) := by
  have v : valP (lims m na nr) (.inr "row") = some (.tuple [.int 0, .int (nr - 1)]) := rfl
  have e : (Str.ofString "n" = Str.ofString "m") = False := by simp; try decide
  cases p with
  | int i =>
    simp only [isPart, v, topOk, tp_n, isWhole, isBetween, e, Bool.true_and, if_true, if_false]
    rw [Bool.eq_iff_iff]; simp only [Bool.and_eq_true, decide_eq_true_eq]; omega
  | _ => simp [isPart, v, isBetween, isWhole]
theorem sg_n : ∀ (m na nr : Int), ∃ k t, PyData.str "n" = .str k ∧ valP (tops m na nr) (.inr k) = some (.int t) := fun m na nr => ⟨_, _, rfl, tp_n m na nr⟩
theorem tp_m (m na nr : Int) : valP (tops m na nr) (.inr "m") = some (.int 7) := rfl
theorem lp_m (m na nr : Int) (p : PyData) : isPart m na nr (.str "rounds") p = (isWhole p && topOk m na nr (.tuple [.str "m", p])) := by
  have v : valP (lims m na nr) (.inr "rounds") = some (.tuple [.int 1, .int 6]) := rfl
  have e : (Str.ofString "m" = Str.ofString "m") = True := by simp; try decide
  cases p with
  | int i =>
    simp only [isPart, v, topOk, tp_m, isWhole, isBetween, e, Bool.true_and, if_true, if_false]
    rw [Bool.eq_iff_iff]; simp only [Bool.and_eq_true, decide_eq_true_eq]; omega
  | _ => simp [isPart, v, isBetween, isWhole]
theorem sg_m : ∀ (m na nr : Int), ∃ k t, PyData.str "m" = .str k ∧ valP (tops m na nr) (.inr k) = some (.int t) := fun m na nr => ⟨_, _, rfl, tp_m m na nr⟩
theorem sd_rw : signsD "rw" = [.str "r", .str "w"] := rfl
theorem sl_rw : Str.length "rw" = 2 := rfl
theorem sd_rr : signsD "rr" = [.str "r", .str "r"] := rfl
theorem sl_rr : Str.length "rr" = 2 := rfl
theorem sd_rar : signsD "rar" = [.str "r", .str "a", .str "r"] := rfl
theorem sl_rar : Str.length "rar" = 3 := rfl
theorem sd_arr : signsD "arr" = [.str "a", .str "r", .str "r"] := rfl
theorem sl_arr : Str.length "arr" = 3 := rfl
theorem sd_rn : signsD "rn" = [.str "r", .str "n"] := rfl
theorem sl_rn : Str.length "rn" = 2 := rfl
theorem sd_n : signsD "n" = [.str "n"] := rfl
theorem sl_n : Str.length "n" = 1 := rfl
theorem sd_m : signsD "m" = [.str "m"] := rfl
theorem sl_m : Str.length "m" = 1 := rfl
theorem sd_rrr : signsD "rrr" = [.str "r", .str "r", .str "r"] := rfl
theorem sl_rrr : Str.length "rrr" = 3 := rfl
theorem sd_e : signsD "" = [] := rfl
theorem sl_e : Str.length "" = 0 := rfl
theorem formsL_ok {m na nr : Int} {w : Str} {y : PyData} (h : valP formsL (.inr w) = some y) : ∃ z : Str, y = .str z ∧ z.length ≤ 3 ∧ ∀ s ∈ signsD z, ∃ k t, s = .str k ∧ valP (tops m na nr) (.inr k) = some (.int t) := by
  have h := valP_mem h
  simp only [formsL, List.mem_cons, List.not_mem_nil, or_false, Prod.mk.injEq] at h
  rcases h with h | h | h | h | h | h | h | h | h | h | h | h | h | h | h <;> obtain ⟨-, rfl⟩ := h
  · exact ⟨_, rfl, by rw [sl_rw]; omega, by rw [sd_rw]; simp only [List.forall_mem_cons, List.not_mem_nil, false_implies, implies_true, and_true]; exact ⟨sg_r m na nr, sg_w m na nr⟩⟩
  · exact ⟨_, rfl, by rw [sl_rr]; omega, by rw [sd_rr]; simp only [List.forall_mem_cons, List.not_mem_nil, false_implies, implies_true, and_true]; exact ⟨sg_r m na nr, sg_r m na nr⟩⟩
  · exact ⟨_, rfl, by rw [sl_rar]; omega, by rw [sd_rar]; simp only [List.forall_mem_cons, List.not_mem_nil, false_implies, implies_true, and_true]; exact ⟨sg_r m na nr, sg_a m na nr, sg_r m na nr⟩⟩
  · exact ⟨_, rfl, by rw [sl_arr]; omega, by rw [sd_arr]; simp only [List.forall_mem_cons, List.not_mem_nil, false_implies, implies_true, and_true]; exact ⟨sg_a m na nr, sg_r m na nr, sg_r m na nr⟩⟩
  · exact ⟨_, rfl, by rw [sl_rn]; omega, by rw [sd_rn]; simp only [List.forall_mem_cons, List.not_mem_nil, false_implies, implies_true, and_true]; exact ⟨sg_r m na nr, sg_n m na nr⟩⟩
  · exact ⟨_, rfl, by rw [sl_n]; omega, by rw [sd_n]; simp only [List.forall_mem_cons, List.not_mem_nil, false_implies, implies_true, and_true]; exact sg_n m na nr⟩
  · exact ⟨_, rfl, by rw [sl_m]; omega, by rw [sd_m]; simp only [List.forall_mem_cons, List.not_mem_nil, false_implies, implies_true, and_true]; exact sg_m m na nr⟩
  · exact ⟨_, rfl, by rw [sl_n]; omega, by rw [sd_n]; simp only [List.forall_mem_cons, List.not_mem_nil, false_implies, implies_true, and_true]; exact sg_n m na nr⟩
  · exact ⟨_, rfl, by rw [sl_rrr]; omega, by rw [sd_rrr]; simp only [List.forall_mem_cons, List.not_mem_nil, false_implies, implies_true, and_true]; exact ⟨sg_r m na nr, sg_r m na nr, sg_r m na nr⟩⟩
  · exact ⟨_, rfl, by rw [sl_rrr]; omega, by rw [sd_rrr]; simp only [List.forall_mem_cons, List.not_mem_nil, false_implies, implies_true, and_true]; exact ⟨sg_r m na nr, sg_r m na nr, sg_r m na nr⟩⟩
  · exact ⟨_, rfl, by rw [sl_rrr]; omega, by rw [sd_rrr]; simp only [List.forall_mem_cons, List.not_mem_nil, false_implies, implies_true, and_true]; exact ⟨sg_r m na nr, sg_r m na nr, sg_r m na nr⟩⟩
  · exact ⟨_, rfl, by rw [sl_rrr]; omega, by rw [sd_rrr]; simp only [List.forall_mem_cons, List.not_mem_nil, false_implies, implies_true, and_true]; exact ⟨sg_r m na nr, sg_r m na nr, sg_r m na nr⟩⟩
  · exact ⟨_, rfl, by rw [sl_rrr]; omega, by rw [sd_rrr]; simp only [List.forall_mem_cons, List.not_mem_nil, false_implies, implies_true, and_true]; exact ⟨sg_r m na nr, sg_r m na nr, sg_r m na nr⟩⟩
  · exact ⟨_, rfl, by rw [sl_e]; omega, by rw [sd_e]; simp only [List.forall_mem_cons, List.not_mem_nil, false_implies, implies_true, and_true]⟩
  · exact ⟨_, rfl, by rw [sl_e]; omega, by rw [sd_e]; simp only [List.forall_mem_cons, List.not_mem_nil, false_implies, implies_true, and_true]⟩
theorem forms_both (w : Str) : (tabGet tab_FORMS w = none ∧ valP formsL (.inr w) = none) ∨ ∃ ks z, tabGet tab_FORMS w = some (.tuple ks) ∧ valP formsL (.inr w) = some (.str z) ∧ ((ks = [.str "register", .str "worth"] ∧ z = "rw") ∨ (ks = [.str "register", .str "register"] ∧ z = "rr") ∨ (ks = [.str "register", .str "array", .str "register"] ∧ z = "rar") ∨ (ks = [.str "array", .str "register", .str "register"] ∧ z = "arr") ∨ (ks = [.str "register", .str "row"] ∧ z = "rn") ∨ (ks = [.str "row"] ∧ z = "n") ∨ (ks = [.str "rounds"] ∧ z = "m") ∨ (ks = [.str "register", .str "register", .str "register"] ∧ z = "rrr") ∨ (ks = [] ∧ z = "")) := by
  by_cases h0 : w = "set"
  · subst h0; exact .inr ⟨_, _, rfl, rfl, by simp⟩
  by_cases h1 : w = "copy"
  · subst h1; exact .inr ⟨_, _, rfl, rfl, by simp⟩
  by_cases h2 : w = "get"
  · subst h2; exact .inr ⟨_, _, rfl, rfl, by simp⟩
  by_cases h3 : w = "put"
  · subst h3; exact .inr ⟨_, _, rfl, rfl, by simp⟩
  by_cases h4 : w = "test"
  · subst h4; exact .inr ⟨_, _, rfl, rfl, by simp⟩
  by_cases h5 : w = "go"
  · subst h5; exact .inr ⟨_, _, rfl, rfl, by simp⟩
  by_cases h6 : w = "count"
  · subst h6; exact .inr ⟨_, _, rfl, rfl, by simp⟩
  by_cases h7 : w = "again"
  · subst h7; exact .inr ⟨_, _, rfl, rfl, by simp⟩
  by_cases h8 : w = "+"
  · subst h8; exact .inr ⟨_, _, rfl, rfl, by simp⟩
  by_cases h9 : w = "-"
  · subst h9; exact .inr ⟨_, _, rfl, rfl, by simp⟩
  by_cases h10 : w = "*"
  · subst h10; exact .inr ⟨_, _, rfl, rfl, by simp⟩
  by_cases h11 : w = "<"
  · subst h11; exact .inr ⟨_, _, rfl, rfl, by simp⟩
  by_cases h12 : w = "="
  · subst h12; exact .inr ⟨_, _, rfl, rfl, by simp⟩
  by_cases h13 : w = "rest"
  · subst h13; exact .inr ⟨_, _, rfl, rfl, by simp⟩
  by_cases h14 : w = "end"
  · subst h14; exact .inr ⟨_, _, rfl, rfl, by simp⟩
  · refine .inl ⟨?_, ?_⟩
    · have h : ∀ p ∈ tab_FORMS, ¬ p.1 = w := by
        simp only [tab_FORMS, List.forall_mem_cons, List.not_mem_nil, false_implies, implies_true, and_true]
        exact ⟨fun e => h0 e.symm, fun e => h1 e.symm, fun e => h8 e.symm, fun e => h9 e.symm, fun e => h10 e.symm, fun e => h11 e.symm, fun e => h12 e.symm, fun e => h2 e.symm, fun e => h3 e.symm, fun e => h4 e.symm, fun e => h5 e.symm, fun e => h6 e.symm, fun e => h7 e.symm, fun e => h13 e.symm, fun e => h14 e.symm⟩
      unfold tabGet
      rw [List.find?_eq_none.mpr (fun p hp => by simpa using h p hp)]
      rfl
    · have h : ∀ p ∈ formsL, ¬ p.1 = .inr w := by
        simp only [formsL, List.forall_mem_cons, List.not_mem_nil, false_implies, implies_true, and_true, Sum.inr.injEq]
        exact ⟨fun e => h0 e.symm, fun e => h1 e.symm, fun e => h2 e.symm, fun e => h3 e.symm, fun e => h4 e.symm, fun e => h5 e.symm, fun e => h6 e.symm, fun e => h7 e.symm, fun e => h8 e.symm, fun e => h9 e.symm, fun e => h10 e.symm, fun e => h11 e.symm, fun e => h12 e.symm, fun e => h13 e.symm, fun e => h14 e.symm⟩
      unfold valP
      rw [List.find?_eq_none.mpr (fun p hp => by simpa using h p hp)]
      rfl
theorem rowL_eq (m na nr : Int) (d : PyData) : isRowL m na nr d = isRow m na nr d := by
  cases d with
  | tuple ds =>
    match ds with
    | [] => rfl
    | x :: ps =>
      cases x with
      | str w =>
        unfold isRowL isRow
        simp only
        rcases forms_both w with ⟨e1, e2⟩ | ⟨ks, z, e1, e2, h⟩
        · rw [e1, e2]
        · rw [e1, e2]
          simp only
          rcases h with ⟨rfl, rfl⟩ | ⟨rfl, rfl⟩ | ⟨rfl, rfl⟩ | ⟨rfl, rfl⟩ | ⟨rfl, rfl⟩ | ⟨rfl, rfl⟩ | ⟨rfl, rfl⟩ | ⟨rfl, rfl⟩ | ⟨rfl, rfl⟩
          · rw [sd_rw, sl_rw]
            rcases ps with _ | ⟨a, _ | ⟨b, _ | ⟨x2, ps⟩⟩⟩ <;> simp only [List.length_cons, List.length_nil, zipD, List.all_cons, List.all_nil, Bool.and_true]
            all_goals try simp only [lp_r, lp_w]
            all_goals first
            | (simp; done)
            | (cases isWhole a <;> cases isWhole b <;> simp; done)
            | (simp; omega)
          · rw [sd_rr, sl_rr]
            rcases ps with _ | ⟨a, _ | ⟨b, _ | ⟨x2, ps⟩⟩⟩ <;> simp only [List.length_cons, List.length_nil, zipD, List.all_cons, List.all_nil, Bool.and_true]
            all_goals try simp only [lp_r]
            all_goals first
            | (simp; done)
            | (cases isWhole a <;> cases isWhole b <;> simp; done)
            | (simp; omega)
          · rw [sd_rar, sl_rar]
            rcases ps with _ | ⟨a, _ | ⟨b, _ | ⟨c, _ | ⟨x3, ps⟩⟩⟩⟩ <;> simp only [List.length_cons, List.length_nil, zipD, List.all_cons, List.all_nil, Bool.and_true]
            all_goals try simp only [lp_r, lp_a]
            all_goals first
            | (simp; done)
            | (cases isWhole a <;> cases isWhole b <;> cases isWhole c <;> simp; done)
            | (simp; omega)
          · rw [sd_arr, sl_arr]
            rcases ps with _ | ⟨a, _ | ⟨b, _ | ⟨c, _ | ⟨x3, ps⟩⟩⟩⟩ <;> simp only [List.length_cons, List.length_nil, zipD, List.all_cons, List.all_nil, Bool.and_true]
            all_goals try simp only [lp_a, lp_r]
            all_goals first
            | (simp; done)
            | (cases isWhole a <;> cases isWhole b <;> cases isWhole c <;> simp; done)
            | (simp; omega)
          · rw [sd_rn, sl_rn]
            rcases ps with _ | ⟨a, _ | ⟨b, _ | ⟨x2, ps⟩⟩⟩ <;> simp only [List.length_cons, List.length_nil, zipD, List.all_cons, List.all_nil, Bool.and_true]
            all_goals try simp only [lp_r, lp_n]
            all_goals first
            | (simp; done)
            | (cases isWhole a <;> cases isWhole b <;> simp; done)
            | (simp; omega)
          · rw [sd_n, sl_n]
            rcases ps with _ | ⟨a, _ | ⟨x1, ps⟩⟩ <;> simp only [List.length_cons, List.length_nil, zipD, List.all_cons, List.all_nil, Bool.and_true]
            all_goals try simp only [lp_n]
            all_goals first
            | (simp; done)
            | (cases isWhole a <;> simp; done)
            | (simp; omega)
          · rw [sd_m, sl_m]
            rcases ps with _ | ⟨a, _ | ⟨x1, ps⟩⟩ <;> simp only [List.length_cons, List.length_nil, zipD, List.all_cons, List.all_nil, Bool.and_true]
            all_goals try simp only [lp_m]
            all_goals first
            | (simp; done)
            | (cases isWhole a <;> simp; done)
            | (simp; omega)
          · rw [sd_rrr, sl_rrr]
            rcases ps with _ | ⟨a, _ | ⟨b, _ | ⟨c, _ | ⟨x3, ps⟩⟩⟩⟩ <;> simp only [List.length_cons, List.length_nil, zipD, List.all_cons, List.all_nil, Bool.and_true]
            all_goals try simp only [lp_r]
            all_goals first
            | (simp; done)
            | (cases isWhole a <;> cases isWhole b <;> cases isWhole c <;> simp; done)
            | (simp; omega)
          · rw [sd_e, sl_e]
            rcases ps with _ | ⟨x0, ps⟩ <;> simp only [List.length_cons, List.length_nil, zipD, List.all_cons, List.all_nil, Bool.and_true]
            all_goals try simp only [Bool.true_and]
            all_goals first
            | (simp; done)
            | (simp; done)
            | (simp; omega)
      | _ => rfl
  | _ => rfl
end LW
set_option Elab.async false
set_option linter.all false
set_option maxRecDepth 100000
set_option maxHeartbeats 4000000
namespace LW
open PySem DL LM
abbrev topS (m na nr : Int) : Option MO := some (.dK (tops m na nr))
theorem lr_0 {S : List AV} {t : Option MO} : d__law_is_row_0 S [t] = some (.nx, S.set 2 (.han 1), [t, some (.dK forms8)]) := by
  simp [d__law_is_row_0, dDisp, pCons, pNil]
  rfl
theorem lr_1 {d t : AV} {c : Option MO} {x y z u : AV} : d__law_is_row_1 [d, t, .han 1, x, y, z] [c, some (.dK forms8)] = some (.nx, [d, t, .han 1, x, y, z], [c, some (.dK formsL), some (.dK forms7)]) := by
  have e : dDisp (pCons (dK (.str "+")) (dK (.str "rrr")) (pCons (dK (.str "-")) (dK (.str "rrr")) (pCons (dK (.str "*")) (dK (.str "rrr")) (pCons (dK (.str "<")) (dK (.str "rrr")) (pCons (dK (.str "=")) (dK (.str "rrr")) (pCons (dK (.str "rest")) (dK (.str "")) (pCons (dK (.str "end")) (dK (.str "")) pNil))))))) [d, t, .han 1, x, y, z] [c, some (.dK forms8)] = some (.han 2, [c, some (.dK forms8), some (.dK forms7)]) := by
    simp [dDisp, pCons, pNil]
    rfl
  have e2 : mergeP forms8 forms7 = formsL := rfl
  have e3 : forms8.length + forms7.length ≤ 1000000 := by decide
  simp only [d__law_is_row_1, sExpr_ap, dUpdate, dVar_ap]
  simp [e, e2, e3]
theorem lr_2 {d : PyData} {t : AV} {c f7 : Option MO} {x y z : AV} : d__law_is_row_2 [.dat d, t, .han 1, x, y, z] [c, some (.dK formsL), f7] = some (if (match d with
    | .tuple (.str w :: _) => (valP formsL (.inr w)).isSome
    | _ => false) = true then .nx else .rt (.bl false), [.dat d, t, .han 1, x, y, z], [c, some (.dK formsL), f7]) := by
  cases d with
  | tuple ds =>
    match ds with
    | [] => simp [d__law_is_row_2]
    | x :: ps =>
      have hne : ∀ y : PyData, gEq false (.tuple (y :: ps)) (.tuple []) = some (.bool false) := fun y => rfl
      cases x with
      | str w => cases h : valP formsL (.inr w) <;> simp [d__law_is_row_2, h]
      | _ => simp [d__law_is_row_2]
  | _ => simp [d__law_is_row_2]
def known (d : PyData) : Bool := match d with
  | .tuple (.str w :: _) => (valP formsL (.inr w)).isSome
  | _ => false
theorem known_no {d : PyData} {m na nr : Int} (h : known d = false) : isRowL m na nr d = false := by
  cases d with
  | tuple ds =>
    match ds with
    | [] => rfl
    | x :: ps =>
      cases x with
      | str w =>
        have h : (valP formsL (.inr w)).isSome = false := h
        have : valP formsL (.inr w) = none := by simpa using h
        simp [isRowL, this]
      | _ => rfl
  | _ => rfl
theorem known_yes {d : PyData} (h : known d = true) : ∃ w ps y, d = .tuple (.str w :: ps) ∧ valP formsL (.inr w) = some y := by
  cases d with
  | tuple ds =>
    match ds with
    | [] => cases h
    | x :: ps =>
      cases x with
      | str w =>
        have h : (valP formsL (.inr w)).isSome = true := h
        obtain ⟨y, hy⟩ := Option.isSome_iff_exists.mp h
        exact ⟨w, ps, y, rfl, hy⟩
      | _ => cases h
  | _ => cases h
theorem m_law_row (m na nr : Int) (d : PyData) : f__law_is_row [.dat d, .han 0] [topS m na nr] = some (.bl (isRowL m na nr d), [topS m na nr]) := by
  rw [← Ev_eq]
  have h2 : ∀ {t : AV} {c f7 : Option MO} {x y z : AV}, d__law_is_row_2 [.dat d, t, .han 1, x, y, z] [c, some (.dK formsL), f7] = some (if known d = true then .nx else .rt (.bl false), [.dat d, t, .han 1, x, y, z], [c, some (.dK formsL), f7]) := fun {t c f7 x y z} => lr_2 (d := d)
  cases hd : known d with
  | false =>
    rw [known_no hd]
    simp only [hd] at h2
    simp [f__law_is_row, fnOf_ap, d__law_is_row, lr_0, lr_1 (u := .un), h2]
  | true =>
    simp only [hd] at h2
    obtain ⟨w, ps, y, rfl, hy⟩ := known_yes hd
    obtain ⟨z, rfl, hz3, hzt⟩ := formsL_ok (m := m) (na := na) (nr := nr) hy
    have hz3' : z.length ≤ 1000000 := by omega
    have hcut : cutD (.str w :: ps) (some 1) none = ps := cutD_from (k := 1)
    by_cases hl : ps.length = z.length
    · have hl' : ((ps.length : Int) + 1 = 1 + (z.length : Int)) := by omega
      have hz4 : ps.length ≤ 1000000 := by omega
      have hlc : ∀ {st : Sto}, lcL [] (gName 5) tYes (dCall f__law_whole (aCons (dVar 5) aNil)) [.dat (.tuple (.str w :: ps)), .han 0, .han 1, .dat (.str z), .un, .un] ps st = some (ps.map (fun d => .bool (isWhole d)), st) := fun {st} =>
        lcL_map _ rfl _ fun d hd => ⟨_, by simp; rfl, by simp [c_whole]⟩
      cases hw : ps.all isWhole with
      | false =>
        have : isRowL m na nr (.tuple (.str w :: ps)) = false := by simp only [isRowL, hy, hw, Bool.false_and, Bool.and_false]
        rw [this]
        simp [f__law_is_row, fnOf_ap, d__law_is_row, lr_0, lr_1 (u := .un), h2, d__law_is_row_3, d__law_is_row_4, hy, hz3', hl', hz4, hcut, hlc, gAll_map, -gAll_lst, hw, -List.all_eq_false]
      | true =>
        have : isRowL m na nr (.tuple (.str w :: ps)) = (zipD (signsD z) ps).all (topOk m na nr) := by simp only [isRowL, hy, hw, hl, decide_true, Bool.true_and]
        rw [this]
        have hloop := forL_each (g := []) (tg := gTup 2 (DL.gCons (gName 4) (DL.gCons (gName 5) gNil))) (body := b__law_is_row_1) (st := [topS m na nr, some (.dK formsL), some (.dK forms7)]) id (topOk m na nr) (fun S => ∃ a b, S = [.dat (.tuple (.str w :: ps)), .han 0, .han 1, .dat (.str z), a, b]) rfl (zipD (signsD z) ps) _ ⟨.un, .un, rfl⟩ (by
            rintro d S hd ⟨a, b, rfl⟩
            obtain ⟨s, p, rfl, hs, hp⟩ := zipD_mem hd
            obtain ⟨k, t, rfl, hk⟩ := hzt s hs
            obtain ⟨i, rfl⟩ : ∃ i, p = .int i := by
              have := List.all_eq_true.mp hw p hp
              cases p <;> simp [isWhole] at this
              exact ⟨_, rfl⟩
            by_cases hm : (if k = "m" then (1 : Int) else 0) ≤ i <;> by_cases ht : i < t <;> simp [b__law_is_row_1, topOk, hk, hm, ht])
        rw [List.map_id] at hloop
        simp [f__law_is_row, fnOf_ap, d__law_is_row, lr_0, lr_1 (u := .un), h2, d__law_is_row_3, d__law_is_row_4, hy, hz3', hl', hz4, hcut, hlc, gAll_map, -gAll_lst, hw, -List.all_eq_true, d__law_is_row_5, d__law_is_row_6]
        refine hloop.mono ?_
        rintro ⟨fl, S, st⟩ ⟨hst, h⟩
        simp only at hst h
        subst hst
        cases c : (zipD (signsD z) ps).all (topOk m na nr) with
        | false =>
          rw [c] at h
          simp at h
          subst h
          simp
        | true =>
          rw [c] at h
          simp at h
          obtain ⟨rfl, a, b, rfl⟩ := h
          simp
    · have hl' : ¬ ((ps.length : Int) + 1 = 1 + (z.length : Int)) := by omega
      have : isRowL m na nr (.tuple (.str w :: ps)) = false := by simp [isRowL, hy, hl]
      rw [this]
      simp [f__law_is_row, fnOf_ap, d__law_is_row, lr_0, lr_1 (u := .un), h2, d__law_is_row_3, d__law_is_row_4, hy, hz3', hl', hcut]
theorem c_law_row (m na nr : Int) (d : PyData) (st : Sto) : Ev (callF f__law_is_row [.dat d, .han 0] (topS m na nr :: st)) fun r => r = (.bl (isRowL m na nr d), topS m na nr :: st) := by
  unfold callF
  simp [hansA, renA, cells, inAll, fresh1, m_law_row, wb]
end LW
set_option Elab.async false
set_option linter.all false
set_option maxRecDepth 100000
set_option maxHeartbeats 4000000
namespace LW
open PySem DL LM
def tupI (l : List Int) : PyData := .tuple (l.map .int)
def nestL : Int → List Int → List RK → Option (List (List Int) × List Int)
  | _, op, [] => some ([], op)
  | a, op, .cnt :: r => if op.length + 1 ≤ 2 then (nestL (a + 1) (op ++ [a]) r).map fun z => (op :: z.1, z.2) else none
  | a, op, .agn n :: r => if op.getLast? = some (n - 1) then (nestL (a + 1) op.dropLast r).map fun z => (op :: z.1, z.2) else none
  | a, op, .oth :: r => (nestL (a + 1) op r).map fun z => (op :: z.1, z.2)
theorem nest_nestL : ∀ (r : List RK) (a : Int) (op : List Int), nest a op r = (nestL a op r).bind fun z => if z.2 = [] then some z.1 else none
  | [], a, op => by simp [nest, nestL]
  | .cnt :: r, a, op => by
    simp only [nest, nestL]
    split
    · rw [nest_nestL r]; cases nestL (a + 1) (op ++ [a]) r with
      | none => rfl
      | some z => simp only [Option.bind_some, Option.map_some]; split <;> rfl
    · rfl
  | .agn n :: r, a, op => by
    simp only [nest, nestL]
    split
    · rw [nest_nestL r]; cases nestL (a + 1) op.dropLast r with
      | none => rfl
      | some z => simp only [Option.bind_some, Option.map_some]; split <;> rfl
    · rfl
  | .oth :: r, a, op => by
    simp only [nest, nestL]
    rw [nest_nestL r]; cases nestL (a + 1) op r with
      | none => rfl
      | some z => simp only [Option.bind_some, Option.map_some]; split <;> rfl
theorem gEq_nil (neg : Bool) (op : List Int) : gEq neg (.list (op.map .int)) (.list []) = some (.bool (if neg then !decide (op = []) else decide (op = []))) := gEq_ints op []
abbrev nSt (op : List Int) (acc : List (List Int)) : Sto := [some (.lst (op.map .int)), some (.lst (acc.map tupI))]
theorem body_nested {R x y : AV} {nr : Int} {k : Nat} {w : Str} {is : List Int} {op : List Int} {acc : List (List Int)} (hr : ROk nr (w, is)) (h2 : op.length ≤ 2) (ha : acc.length < 1000) :
    Ev (b__law_nested_1 [R, .han 0, .han 1, .dat (.int (k : Nat)), .dat (encR (w, is))] (nSt op acc)) fun q => match rk (w, is) with
      | .cnt => if op.length + 1 ≤ 2 then q = (.nx, [R, .han 0, .han 1, .dat (.int (k : Nat)), .dat (encR (w, is))], nSt (op ++ [(k : Int)]) (acc ++ [op])) else q.1 = .rt .non
      | .agn n => if op.getLast? = some (n - 1) then q = (.nx, [R, .han 0, .han 1, .dat (.int (k : Nat)), .dat (encR (w, is))], nSt op.dropLast (acc ++ [op])) else q.1 = .rt .non
      | .oth => q = (.nx, [R, .han 0, .han 1, .dat (.int (k : Nat)), .dat (encR (w, is))], nSt op (acc ++ [op])) := by
  have hacc : (acc.length < 1000000) := by omega
  have hop : (op.length < 1000000) := by omega
  have hn3 : ¬ ((2 : Int) < (op.length : Int)) := by omega
  by_cases hc : w = "count"
  · have hrk : rk (w, is) = .cnt := by simp [rk, hc]
    have hna : ¬ (Str.ofString "count" = Str.ofString "again") := by decide
    rw [hrk]
    subst hc
    by_cases h3 : op.length + 1 ≤ 2
    · have h3' : ¬ ((2 : Int) < (op.length : Int) + 1) := by omega
      simp [b__law_nested_1, encR, hacc, hop, hna, h3', h3, tupI]
    · have h3' : ((2 : Int) < (op.length : Int) + 1) := by omega
      simp [b__law_nested_1, encR, hacc, hop, hna, h3', h3, tupI]
  · by_cases hag : w = "again"
    · obtain ⟨n, hn, h0, h1⟩ := hr.ag hag
      have hn : is = [n] := hn
      have hrk : rk (w, is) = .agn n := by
        have : ¬ (Str.ofString "again" = Str.ofString "count") := by decide
        simp [rk, hag, hn, this]
      rw [hrk]
      subst hag hn
      have hna : ¬ (Str.ofString "again" = Str.ofString "count") := by decide
      rcases List.eq_nil_or_concat op with rfl | ⟨o, t, rfl⟩
      · have g := gEq_nil false []
        simp at g
        simp [b__law_nested_1, encR, hacc, hop, hna, tupI, g]
      · have g := gEq_nil false (o ++ [t])
        have hat : L2.atI (o.map PyData.int ++ [PyData.int t]) (-1) = some (.int t) := by rw [atI_last]; exact List.getLast?_concat
        simp at g
        by_cases h : n = t + 1
        · have h' : t = n - 1 := by omega
          have ho : ¬ ((2 : Int) < (o.length : Int)) := by simp at hn3; omega
          simp [b__law_nested_1, encR, hacc, hop, hna, tupI, g, hat, h, ho]
        · have h' : ¬ (t = n - 1) := by omega
          simp [b__law_nested_1, encR, hacc, hop, hna, tupI, g, hat, h, h']
    · have hrk : rk (w, is) = .oth := by simp [rk, hc, hag]
      rw [hrk]
      simp [b__law_nested_1, encR, hacc, hop, hc, hag, hn3, tupI]
theorem loop_nested {R : AV} {nr : Int} : ∀ (Rs : List TR) (k : Nat) (op : List Int) (acc : List (List Int)) (S : List AV), (∀ r ∈ Rs, ROk nr r) → op.length ≤ 2 → acc.length + Rs.length ≤ 1000 → (∃ x y, S = [R, .han 0, .han 1, x, y]) →
    Ev (forL [] (gTup 2 (DL.gCons (gName 3) (DL.gCons (gName 4) gNil))) b__law_nested_1 (enumD k (Rs.map encR)) S (nSt op acc)) fun q => match nestL k op (kinds Rs) with
      | some z => q.1 = .nx ∧ (∃ x y, q.2.1 = [R, .han 0, .han 1, x, y]) ∧ q.2.2 = nSt z.2 (acc ++ z.1)
      | none => q.1 = .rt .non
  | [], k, op, acc, S, _, _, _, h => by
    simp [enumD, forL, nestL, h]
  | (w, is) :: Rs, k, op, acc, S, hR, h2, ha, ⟨x, y, h⟩ => by
    subst h
    have hr := hR (w, is) (by simp)
    have hR' : ∀ r ∈ Rs, ROk nr r := fun r h => hR r (by simp [h])
    have b := body_nested (R := R) (x := x) (y := y) (k := k) (op := op) (acc := acc) hr h2 (by simp at ha; omega)
    have e : (gTup 2 (DL.gCons (gName 3) (DL.gCons (gName 4) gNil))) (.dat (.tuple [.int (k : Nat), encR (w, is)])) [R, .han 0, .han 1, x, y] (nSt op acc) = some ([R, .han 0, .han 1, .dat (.int (k : Nat)), .dat (encR (w, is))], nSt op acc) := by simp
    obtain ⟨⟨fl, S', st'⟩, e2, b⟩ := b
    have hacc : (acc ++ [op]).length + Rs.length ≤ 1000 := by simp at ha ⊢; omega
    simp only [List.map_cons, enumD, forL, gOk_nil, if_true, e, Option.bind_some, e2]
    cases hk : rk (w, is) with
    | oth =>
      rw [hk] at b
      cases b
      have ih := loop_nested (R := R) Rs (k + 1) op (acc ++ [op]) [R, .han 0, .han 1, .dat (.int (k : Nat)), .dat (encR (w, is))] hR' h2 hacc ⟨_, _, rfl⟩
      simp only [kinds, List.map_cons, hk, nestL]
      refine ih.mono fun q hq => ?_
      rw [show ((k + 1 : Nat) : Int) = (k : Int) + 1 by push_cast; rfl] at hq
      revert hq
      show (match nestL ((k : Int) + 1) op (Rs.map rk) with | some z => _ | none => _) → _
      cases nestL ((k : Int) + 1) op (Rs.map rk) with
      | none => exact fun h => h
      | some z => simp
    | cnt =>
      rw [hk] at b
      simp only at b
      by_cases h3 : op.length + 1 ≤ 2
      · rw [if_pos h3] at b
        cases b
        have ih := loop_nested (R := R) Rs (k + 1) (op ++ [(k : Int)]) (acc ++ [op]) [R, .han 0, .han 1, .dat (.int (k : Nat)), .dat (encR (w, is))] hR' (by simp; omega) hacc ⟨_, _, rfl⟩
        simp only [kinds, List.map_cons, hk, nestL, h3, if_true]
        refine ih.mono fun q hq => ?_
        rw [show ((k + 1 : Nat) : Int) = (k : Int) + 1 by push_cast; rfl] at hq
        revert hq
        show (match nestL ((k : Int) + 1) (op ++ [(k : Int)]) (Rs.map rk) with | some z => _ | none => _) → _
        cases nestL ((k : Int) + 1) (op ++ [(k : Int)]) (Rs.map rk) with
        | none => exact fun h => h
        | some z => simp
      · rw [if_neg h3] at b
        have b : fl = .rt .non := b
        subst b
        simp [hk, nestL, h3]
    | agn n =>
      rw [hk] at b
      simp only at b
      by_cases h3 : op.getLast? = some (n - 1)
      · rw [if_pos h3] at b
        cases b
        have ih := loop_nested (R := R) Rs (k + 1) op.dropLast (acc ++ [op]) [R, .han 0, .han 1, .dat (.int (k : Nat)), .dat (encR (w, is))] hR' (by simp; omega) hacc ⟨_, _, rfl⟩
        simp only [kinds, List.map_cons, hk, nestL, h3, if_true]
        refine ih.mono fun q hq => ?_
        rw [show ((k + 1 : Nat) : Int) = (k : Int) + 1 by push_cast; rfl] at hq
        revert hq
        show (match nestL ((k : Int) + 1) op.dropLast (Rs.map rk) with | some z => _ | none => _) → _
        cases nestL ((k : Int) + 1) op.dropLast (Rs.map rk) with
        | none => exact fun h => h
        | some z => simp
      · rw [if_neg h3] at b
        have b : fl = .rt .non := b
        subst b
        simp [hk, nestL, h3]
theorem m_nested {Rs : List TR} {nr : Int} (hR : ∀ r ∈ Rs, ROk nr r) (hl : Rs.length ≤ 1000) : f__law_nested [.dat (.tuple (Rs.map encR))] [] = some (match nest 0 [] (kinds Rs) with
    | some N => (.han 0, [some (.lst (N.map tupI))])
    | none => (.non, [])) := by
  rw [← Ev_eq]
  simp [f__law_nested, fnOf_ap, d__law_nested, d__law_nested_0, d__law_nested_1]
  refine (loop_nested (R := .dat (.tuple (Rs.map encR))) Rs 0 [] [] _ hR (by simp) (by simpa using hl) ⟨_, _, rfl⟩).mono ?_
  rintro ⟨fl, S, st⟩ h
  rw [nest_nestL]
  cases hn : nestL 0 [] (kinds Rs) with
  | none =>
    rw [show ((0 : Nat) : Int) = 0 from rfl, hn] at h
    simp only at h
    subst h
    simp
  | some z =>
    rw [show ((0 : Nat) : Int) = 0 from rfl, hn] at h
    simp only at h
    obtain ⟨rfl, ⟨x, y, rfl⟩, rfl⟩ := h
    have g := gEq_nil false z.2
    have g0 : gEq false (.list []) (.list []) = some (.bool true) := gEq_ints [] []
    by_cases hz : z.2 = [] <;> simp [d__law_nested_2, g, g0, hz, outF]
end LW
set_option Elab.async false
set_option linter.all false
set_option maxRecDepth 100000
set_option maxHeartbeats 4000000
namespace LW
open PySem DL LM
def nAt (N : List (List Int)) (k : Nat) : List Int := N[k]?.getD []
def jumpOkN (N : List (List Int)) (k : Nat) (r : TR) : Bool := !isJ r || (decide ((k : Int) < jTo r) && (nAt N (jTo r).toNat).all fun f => decide (f ∈ nAt N k))
theorem nAt_get {N : List (List Int)} {k : Nat} (h : k < N.length) : (N.map tupI)[k]? = some (tupI (nAt N k)) := by
  simp [nAt, h]
theorem loop_jumpsN {R : AV} {Rs : List TR} (hR : ∀ r ∈ Rs, ROk Rs.length r) (N : List (List Int)) (hN : N.length = Rs.length) (hs : ∀ l ∈ N, l.length ≤ 1000) (S : List AV) (hS : ∃ a b c d, S = [R, .han 0, a, b, c, d]) :
    Ev (forL [] (gTup 2 (DL.gCons (gName 2) (DL.gCons (gName 3) gNil))) b__law_are_jumps_1 (enumD 0 (Rs.map encR)) S [some (.lst (N.map tupI))]) fun q => q.2.2 = [some (.lst (N.map tupI))] ∧ if allFrom (jumpOkN N) 0 Rs = true then q.1 = .nx ∧ (fun S => ∃ a b c d, S = [R, .han 0, a, b, c, d]) q.2.1 else q.1 = .rt (.bl false) := by
  refine forL_enum encR (jumpOkN N) (fun S => ∃ a b c d, S = [R, .han 0, a, b, c, d]) rfl Rs 0 S hS ?_
  rintro i ⟨w, is⟩ S hi ⟨a, b, c, d, rfl⟩
  have hr := hR _ (List.mem_of_getElem? hi)
  have hil : i < N.length := by rw [hN]; exact (List.getElem?_eq_some_iff.mp hi).1
  rw [Nat.zero_add]
  cases hj : isJ (w, is) with
  | false =>
    have hw1 : ¬ w = "test" := by intro e; simp [isJ, e] at hj
    have hw2 : ¬ w = "go" := by intro e; simp [isJ, e] at hj
    have hj1 : jumpOkN N i (w, is) = true := by simp [jumpOkN, hj]
    simp [b__law_are_jumps_1, encR, strsOf, hw1, hw2, hj1]
  | true =>
    have hw : w = "test" ∨ w = "go" := by simpa [isJ] using hj
    obtain ⟨js, n, e, hn, hlen, h1, h2⟩ := jump_shape hr hj
    have e : is = js ++ [n] := e
    subst e
    have hat : L2.atI (PyData.str w :: (js.map PyData.int ++ [PyData.int n])) (-1) = some (PyData.int n) := by
      rw [atI_last, ← List.cons_append]
      exact List.getLast?_concat
    have ha1 : L2.atI (N.map tupI) n = some (tupI (nAt N n.toNat)) := by
      rw [atI_pos _ h1]; exact nAt_get (by omega)
    have ha2 : L2.atI (N.map tupI) (i : Int) = some (tupI (nAt N i)) := by
      rw [atI_nat]; exact nAt_get hil
    obtain ⟨A, hA⟩ : ∃ A, A = nAt N n.toNat := ⟨_, rfl⟩
    obtain ⟨B, hB⟩ : ∃ B, B = nAt N i := ⟨_, rfl⟩
    rw [← hA] at ha1
    rw [← hB] at ha2
    have hAl : A.length ≤ 1000000 := by
      have : A ∈ N := by
        rw [hA]; unfold nAt
        rw [List.getElem?_eq_getElem (show n.toNat < N.length by omega)]
        simp
      have := hs A this
      omega
    have hlc : ∀ (a : AV), lcL [] (gName 5) tYes (dInA false (dVar 5) (dIxA (dVar 1) (dVar 2))) [R, .han 0, .dat (.int (i : Int)), a, .dat (.int n), .un] (A.map .int) [some (.lst (N.map tupI))] = some (A.map (fun f => .bool (decide (f ∈ B))), [some (.lst (N.map tupI))]) := fun a =>
      lcL_mapT _ _ rfl _ fun f hf => ⟨_, by simp; rfl, by simp [ha2, tupI, intsOf_ints]⟩
    by_cases hlt : (i : Int) < n
    · have hlt2 : ¬ (n ≤ (i : Int)) := by omega
      cases ha : A.all (fun f => decide (f ∈ B)) with
      | false =>
        have hj1 : jumpOkN N i (w, js ++ [n]) = false := by simp [jumpOkN, hj, hn, ← hA, ← hB, ha, -List.all_eq_false]
        rcases hw with rfl | rfl <;> simp [b__law_are_jumps_1, encR, strsOf, hj1, hat, ha1, tupI, hlt2, hlc, hAl, gAll_map, -gAll_lst, ha, -List.all_eq_false]
      | true =>
        have hj1 : jumpOkN N i (w, js ++ [n]) = true := by simp [jumpOkN, hj, hn, ← hA, ← hB, ha, hlt, -List.all_eq_true]
        rcases hw with rfl | rfl <;> simp [b__law_are_jumps_1, encR, strsOf, hj1, hat, ha1, tupI, hlt2, hlc, hAl, gAll_map, -gAll_lst, ha, -List.all_eq_true]
    · have hlt2 : n ≤ (i : Int) := by omega
      have hj1 : jumpOkN N i (w, js ++ [n]) = false := by simp [jumpOkN, hj, hn, hlt]
      rcases hw with rfl | rfl <;> simp [b__law_are_jumps_1, encR, strsOf, hj1, hat, hlt2]
theorem m_law_jumps {Rs : List TR} (hR : ∀ r ∈ Rs, ROk Rs.length r) (N : List (List Int)) (hN : N.length = Rs.length) (hs : ∀ l ∈ N, l.length ≤ 1000) :
    f__law_are_jumps [.dat (.tuple (Rs.map encR)), .han 0] [some (.lst (N.map tupI))] = some (.bl (allFrom (jumpOkN N) 0 Rs), [some (.lst (N.map tupI))]) := by
  rw [← Ev_eq]
  simp [f__law_are_jumps, fnOf_ap, d__law_are_jumps, d__law_are_jumps_0, d__law_are_jumps_1]
  refine (loop_jumpsN hR N hN hs _ ⟨_, _, _, _, rfl⟩).mono ?_
  rintro ⟨fl, S, st⟩ ⟨hst, h⟩
  simp only at hst h
  subst hst
  cases c : allFrom (jumpOkN N) 0 Rs with
  | false =>
    rw [c] at h
    simp at h
    subst h
    simp
  | true =>
    rw [c] at h
    simp at h
    obtain ⟨rfl, a, b, c, d, rfl⟩ := h
    simp
/-! ### both looks at the rows are one -/
def lawRows (Rs : List TR) : Bool := decide (endsAt 0 Rs = [(Rs.length : Int) - 1]) && match nest 0 [] (kinds Rs) with
  | some N => allFrom (jumpOkN N) 0 Rs
  | none => false
theorem counts_sorted : ∀ (ks : List RK) (a : Int), (counts a ks).Pairwise (· < ·)
  | [], _ => by simp [counts]
  | .oth :: r, a => by simpa [counts] using counts_sorted r (a + 1)
  | .agn n :: r, a => by simpa [counts] using counts_sorted r (a + 1)
  | .cnt :: r, a => by
    simp only [counts]
    refine List.pairwise_cons.mpr ⟨fun x hx => ?_, counts_sorted r (a + 1)⟩
    have := counts_ge r (a + 1) x hx
    omega
theorem apart_symm {p q : Int × Int} (h : apart p q) : apart q p := by
  unfold apart at *; omega
theorem apartB_iff {p q : Int × Int} (hp : p.1 < p.2) (hq : q.1 < q.2) : apartB p q = true ↔ apart p q := by
  unfold apartB apB apart leII
  split
  · rename_i h
    simp at h
    simp
    omega
  · rename_i h
    simp at h
    simp
    omega
theorem pairsB_iff : ∀ {L : List (Int × Int)}, (∀ p ∈ L, p.1 < p.2) → (pairsB L = true ↔ L.Pairwise apart)
  | [], _ => by simp [pairsB]
  | p :: r, h => by
    have ih := pairsB_iff (L := r) fun q hq => h q (by simp [hq])
    simp only [pairsB, Bool.and_eq_true, ih, List.pairwise_cons, List.all_eq_true]
    constructor
    · rintro ⟨h1, h2⟩
      exact ⟨fun q hq => (apartB_iff (h p (by simp)) (h q (by simp [hq]))).mp (h1 q hq), h2⟩
    · rintro ⟨h1, h2⟩
      exact ⟨fun q hq => (apartB_iff (h p (by simp)) (h q (by simp [hq]))).mpr (h1 q hq), h2⟩
theorem loops_iff (ks : List RK) : areLoopsB ks (isort leII (agains 0 ks)) = true ↔ PC 0 [] ks := by
  have P := isort_perm (le := leII) (agains 0 ks)
  unfold areLoopsB
  simp only [Bool.and_eq_true, decide_eq_true_eq, List.all_eq_true, List.mem_range]
  constructor
  · rintro ⟨⟨⟨h1, h2⟩, h3⟩, h4⟩
    have h2' : ∀ p ∈ agains 0 ks, p.1 < p.2 := fun p hp => h2 p (P.symm.subset hp)
    refine ⟨?_, h2', ?_, fun x hx hx2 => ?_⟩
    · rw [List.nil_append]
      refine (P.map (·.1)).symm.trans ?_
      rw [← h1]
      exact isort_perm _
    · exact (P.pairwise_iff (fun h => apart_symm h)).mp ((pairsB_iff h2).mp h3)
    · have := h4 x.toNat (by omega)
      rw [show ((x.toNat : Nat) : Int) = x by omega] at this
      rwa [(P.filter (inR x)).length_eq] at this
  · intro q
    have h2 : ∀ p ∈ isort leII (agains 0 ks), p.1 < p.2 := fun p hp => q.b p (P.subset hp)
    refine ⟨⟨⟨?_, h2⟩, (pairsB_iff h2).mpr ((P.pairwise_iff (fun h => apart_symm h)).mpr q.c)⟩, fun x hx => ?_⟩
    · refine sorted_unique leI_an _ _ ((isort_perm _).trans ?_) (isort_sorted leI_tot leI_tr _) ?_
      · have := q.a
        rw [List.nil_append] at this
        exact this.symm.trans (P.map (·.1)).symm
      · rw [List.pairwise_map]
        refine (isort_sorted leII_tot leII_tr _).imp fun {a b} h => ?_
        simp [leII, leI] at h ⊢
        omega
    · rw [(P.filter (inR (x : Nat))).length_eq]
      exact q.d x (by omega) (by omega)
theorem rows_eq {Rs : List TR} (hR : ∀ r ∈ Rs, ROk Rs.length r) : lawRows Rs = goodRows Rs := by
  unfold lawRows goodRows
  rw [Bool.and_assoc]
  congr 1
  have hi := loops_iff (kinds Rs)
  have hn := nest_iff (kinds Rs) 0 [] .nil (by simp) (by simp)
  cases e : nest 0 [] (kinds Rs) with
  | none =>
    have : ¬ PC 0 [] (kinds Rs) := by rw [← hn, e]; simp
    have : areLoopsB (kinds Rs) (isort leII (agains 0 (kinds Rs))) = false := by
      rw [← hi] at this
      simpa using this
    rw [this, Bool.false_and]
  | some N =>
    have : PC 0 [] (kinds Rs) := by rw [← hn, e]; rfl
    rw [hi.mpr this, Bool.true_and]
    obtain ⟨hl, hN⟩ := nest_is (kinds Rs) 0 [] N .nil (by simp) (by simp) e
    rw [List.length_map] at hl
    unfold areJumpsB
    rw [Bool.eq_iff_iff]
    simp only [allFrom_iff, Nat.zero_add]
    have key : ∀ (k : Nat), k < Rs.length → ∀ x, x ∈ nAt N k ↔ x ∈ arn (isort leII (agains 0 (kinds Rs))) k := fun k hk x => by
      unfold nAt arn
      rw [List.getElem?_eq_getElem (show k < N.length by omega), Option.getD_some]
      have := hN k _ (List.getElem?_eq_getElem (show k < N.length by omega)) x
      rw [this, Int.zero_add]
      exact ((((isort_perm (agains 0 (kinds Rs))).filter (inR k)).map (·.1)).mem_iff).symm
    have key2 : ∀ i a, Rs[i]? = some a → (jumpOkN N i a = true ↔ jumpOk (isort leII (agains 0 (kinds Rs))) i a = true) := fun i a hi => by
      unfold jumpOkN jumpOk
      cases hj : isJ a with
      | false => simp
      | true =>
        obtain ⟨js, n, _, hn, _, h1, h2⟩ := jump_shape (hR _ (List.mem_of_getElem? hi)) hj
        have hil := (List.getElem?_eq_some_iff.mp hi).1
        rw [hn]
        simp only [Bool.not_true, Bool.false_or, Bool.and_eq_true, decide_eq_true_eq, List.all_eq_true]
        have k1 := key n.toNat (by omega)
        rw [show ((n.toNat : Nat) : Int) = n by omega] at k1
        have k2 := key i hil
        constructor
        · rintro ⟨g1, g2⟩
          exact ⟨g1, fun x hx => (k2 x).mp (g2 x ((k1 x).mpr hx))⟩
        · rintro ⟨g1, g2⟩
          exact ⟨g1, fun x hx => (k2 x).mpr (g2 x ((k1 x).mp hx))⟩
    exact ⟨fun h i a hi => (key2 i a hi).mp (h i a hi), fun h i a hi => (key2 i a hi).mpr (h i a hi)⟩
end LW
set_option Elab.async false
set_option linter.all false
set_option maxRecDepth 100000
set_option maxHeartbeats 4000000
namespace LW
open PySem DL LM
theorem nest_small : ∀ (r : List RK) (a : Int) (op : List Int) (N : List (List Int)), nest a op r = some N → op.length ≤ 2 → ∀ l ∈ N, l.length ≤ 2
  | [], a, op, N, h, _, l, hl => by
    simp only [nest] at h
    split at h
    · cases h; cases hl
    · cases h
  | .oth :: r, a, op, N, h, h2, l, hl => by
    simp only [nest, Option.map_eq_some_iff] at h
    obtain ⟨N', h, rfl⟩ := h
    rcases List.mem_cons.mp hl with rfl | hl
    · exact h2
    · exact nest_small r _ _ _ h h2 l hl
  | .cnt :: r, a, op, N, h, h2, l, hl => by
    simp only [nest] at h
    split at h
    · obtain ⟨N', h', rfl⟩ := Option.map_eq_some_iff.mp h
      rcases List.mem_cons.mp hl with rfl | hl
      · exact h2
      · exact nest_small r _ _ _ h' (by simp; omega) l hl
    · cases h
  | .agn n :: r, a, op, N, h, h2, l, hl => by
    simp only [nest] at h
    split at h
    · obtain ⟨N', h', rfl⟩ := Option.map_eq_some_iff.mp h
      rcases List.mem_cons.mp hl with rfl | hl
      · exact h2
      · exact nest_small r _ _ _ h' (by simp; omega) l hl
    · cases h
theorem row_end {nr : Int} {r : TR} (h : ROk nr r) : gEq false (encR r) (.tuple [.str "end"]) = some (.bool (decide (r.1 = "end"))) := by
  obtain ⟨w, is⟩ := r
  have hs : SeqAt.shaped (encR (w, is)) = true := by
    have := h.lay
    simp only at this
    simp [SeqAt.shaped, encR, PyData.canLay0, PyData.canLayAll0, this, canLay_ints, PyData.depth, PyData.depthAll, depth_ints]
  have hs2 : SeqAt.shaped (.tuple [.str "end"]) = true := by decide +kernel
  have e : gEq false (encR (w, is)) (.tuple [.str "end"]) = if SeqAt.shaped (encR (w, is)) && SeqAt.shaped (.tuple [.str "end"]) then some (.bool (PyData.eqv (encR (w, is)) (.tuple [.str "end"]))) else none := rfl
  rw [e, hs, hs2]
  simp only [encR, PyData.eqv, PyData.eqvAll, Bool.and_true, if_true]
  by_cases hw : w = "end"
  · have : is = [] := h.en hw
    subst this
    simp [hw, PyData.eqvAll]
  · simp [hw]
def askFr (a b c d e : AV) (S : List AV) : Prop := ∃ x, S = [a, b, c, d, e, x]
theorem body_ask {a b c d e f g : AV} (x : PyData) (tl : List AV) (htl : tl = [.un, .un, .un, .un, .un, .un]) : Ev (b__law_is_code_1 ([a, b, c, d, e, f, .dat x] ++ tl) []) fun q => q.2.2 = [] ∧ if isSpan x = true then q.1 = .nx ∧ ∃ y, q.2.1 = [a, b, c, d, e, f, y] ++ tl else q.1 = .rt (.bl false) := by
  subst htl
  cases x with
  | tuple ds =>
    match ds with
    | [] => simp [b__law_is_code_1, isSpan]
    | [_] => simp [b__law_is_code_1, isSpan]
    | x :: y :: z :: l =>
      have h : ¬ ((l.length : Int) + 1 + 1 + 1 = 2) := by omega
      simp [b__law_is_code_1, isSpan, h]
    | [p, q] =>
      have hlc : lcL [] (gName 11) tYes (dCall f__law_whole (aCons (dVar 11) aNil)) [a, b, c, d, e, f, .dat (.tuple [p, q]), .un, .un, .un, .un, .un, .un] [p, q] [] = some ([p, q].map (fun d => .bool (isWhole d)), []) :=
        lcL_map _ rfl _ fun d hd => ⟨_, by simp; rfl, by simp [c_whole]⟩
      cases p with
      | int i => cases q with
        | int j =>
          by_cases h1 : 0 ≤ i <;> by_cases h2 : i ≤ j <;> by_cases h3 : j < 256
          all_goals
            have e1 : isSpan (.tuple [.int i, .int j]) = (decide (0 ≤ i) && decide (i ≤ j) && decide (j < 256)) := by
              simp only [isSpan, isBetween]
              rw [Bool.eq_iff_iff]; simp only [Bool.and_eq_true, decide_eq_true_eq]; omega
            simp [b__law_is_code_1, hlc, blsOf, isWhole, tChain3, cmpB, h1, h2, h3, e1]
        | _ => simp [b__law_is_code_1, hlc, blsOf, isWhole, isSpan, isBetween]
      | _ => simp [b__law_is_code_1, hlc, blsOf, isWhole, isSpan, isBetween]
  | _ => simp [b__law_is_code_1, isSpan]
end LW
set_option Elab.async false
set_option linter.all false
set_option maxRecDepth 100000
set_option maxHeartbeats 4000000
namespace LW
open PySem DL LM
def restA : DSt := sSeq d__law_is_code_8 (sSeq d__law_is_code_9 (sSeq d__law_is_code_10 (sSeq d__law_is_code_11 d__law_is_code_12)))
def restL : DSt := sSeq d__law_is_code_5 (sSeq d__law_is_code_6 (sSeq d__law_is_code_7 restA))
theorem law_is_code_split : d__law_is_code = sSeq d__law_is_code_0 (sSeq d__law_is_code_1 (sSeq d__law_is_code_2 (sSeq d__law_is_code_3 (sSeq d__law_is_code_4 restL)))) := rfl
theorem ones_eq (l : List PyData) : (l.map fun _ => PyData.int 1) = (l.map fun _ => (1 : Int)).map .int := by rw [List.map_map]; rfl
theorem m_restA {T A S y : AV} {m : Int} (ar rs : List PyData) (h1 : 1 ≤ rs.length) (h2 : rs.length ≤ 60) :
    Ev (restA [T, A, .int m, S, .dat (.tuple ar), .dat (.tuple rs), y, .un, .un, .un, .un, .un, .un] []) fun q => q.1 = .rt (.bl (areRows m ar.length rs)) := by
  have e8 : d__law_is_code_8 [T, A, .int m, S, .dat (.tuple ar), .dat (.tuple rs), y, .un, .un, .un, .un, .un, .un] [] = some (.nx, [T, A, .int m, S, .dat (.tuple ar), .dat (.tuple rs), y, .han 0, .un, .un, .un, .un, .un], [topS m ar.length rs.length]) := by
    simp [d__law_is_code_8, dDisp, pCons, pNil]
    rfl
  have hz : rs.length ≤ 1000000 := by omega
  have hlc : lcL [] (gName 9) (tNot (tOf (dCall f__law_is_row (aCons (dVar 9) (aCons (dVar 7) aNil))))) (dK (.int 1)) [T, A, .int m, S, .dat (.tuple ar), .dat (.tuple rs), y, .han 0, .un, .un, .un, .un, .un] rs [topS m ar.length rs.length] = some ((rs.filter fun d => !isRowL m ar.length rs.length d).map fun _ => .int 1, [topS m ar.length rs.length]) := by
    refine lcL_pure _ _ rfl _ fun d hd => ⟨_, by simp; rfl, ?_, fun _ => by simp⟩
    have := Ev_eq.mp (c_law_row m ar.length rs.length d [])
    simp [this]
  rw [ones_eq] at hlc
  have hb : ((rs.filter fun d => !isRowL m ar.length rs.length d).map fun _ => (1 : Int)) = [] ↔ rs.all (isRow m ar.length rs.length) = true := by
    simp [rowL_eq]
  have g := gEq_nil true ((rs.filter fun d => !isRowL m ar.length rs.length d).map fun _ => (1 : Int))
  obtain ⟨X, hX⟩ : ∃ X, X = ((rs.filter fun d => !isRowL m ar.length rs.length d).map fun _ => (1 : Int)) := ⟨_, rfl⟩
  rw [← hX] at hlc hb g
  cases ha : rs.all (isRow m ar.length rs.length) with
  | false =>
    have : areRows m ar.length rs = false := by simp [areRows, ha, -List.all_eq_false]
    rw [this]
    have hXn : ¬ X = [] := by rw [hb, ha]; simp
    simp [restA, e8, d__law_is_code_9, hz, hlc, g, hXn]
  | true =>
    have hXn : X = [] := by rw [hb, ha]
    have hr : areRows m ar.length rs = goodRows (rs.map typed) := by simp [areRows, ha, h1, h2, -List.all_eq_true]
    rw [hr]
    obtain ⟨Rs, rfl, hR⟩ := rows_typed ha
    rw [typed_map]
    have hlen : (Rs.map encR).length = Rs.length := by simp
    rw [hlen] at hR h1 h2 hz e8 hlc
    rw [← rows_eq hR]
    have he : lcL [] (gTup 2 (DL.gCons (gName 10) (DL.gCons (gName 9) gNil))) (tOf (dBin (lift2 (gEq false)) (dVar 9) (dTup (aCons (dK (.str "end")) aNil)))) (dVar 10) [T, A, .int m, S, .dat (.tuple ar), .dat (.tuple (Rs.map encR)), y, .han 0, .un, .un, .un, .un, .un] (enumD 0 (Rs.map encR)) [topS m ar.length Rs.length] = some ((endsAt 0 Rs).map .int, [topS m ar.length Rs.length]) := by
      rw [← ends_eq Rs 0]
      refine lcL_pure (isWd "end") fstP rfl _ fun z hz => ?_
      obtain ⟨i, ⟨w, is⟩, rfl, hr, _⟩ := rows_get hz
      have := row_end (hR _ hr)
      refine ⟨_, by simp; rfl, ?_, fun hp => by simp [fstP]⟩
      simp [this]
      simp [encR, isWd]
    have hz2 : (enumD 0 (Rs.map encR)).length ≤ 1000000 := by rw [enumD_len]; simp; omega
    have g2 := gEq_ints (neg := true) (endsAt 0 Rs) [(Rs.length : Int) - 1]
    simp only [List.map_cons, List.map_nil] at g2
    have g0 : gEq true (.list []) (.list []) = some (.bool false) := gEq_ints [] []
    have hnest := m_nested hR (by omega)
    unfold lawRows
    subst hXn
    simp at hlc
    by_cases c1 : endsAt 0 Rs = [(Rs.length : Int) - 1]
    · rw [c1] at he g2
      simp at g2
      cases hN : nest 0 [] (kinds Rs) with
      | none =>
        rw [hN] at hnest
        have hc : callF f__law_nested [.dat (.tuple (Rs.map encR))] [topS m ar.length Rs.length] = some (.non, [topS m ar.length Rs.length]) := call_pure hnest
        simp [restA, e8, d__law_is_code_9, d__law_is_code_10, d__law_is_code_11, d__law_is_code_12, hz, hlc, g0, g2, he, hz2, c1, hc, gIs, isNone]
      | some N =>
        rw [hN] at hnest
        have hs := nest_small _ _ _ _ hN (by simp)
        have hNl := (nest_is _ _ _ _ .nil (by simp) (by simp) hN).1
        rw [List.length_map] at hNl
        have hj := m_law_jumps hR N hNl (fun l hl => by have := hs l hl; omega)
        have hc : callF f__law_nested [.dat (.tuple (Rs.map encR))] [topS m ar.length Rs.length] = some (.han 1, [topS m ar.length Rs.length, some (.lst (N.map tupI))]) := by
          unfold callF
          simp [hansA, renA, cells, inAll, fresh1, hnest, wb, outF]
        have hc2 : callF f__law_are_jumps [.dat (.tuple (Rs.map encR)), .han 1] [topS m ar.length Rs.length, some (.lst (N.map tupI))] = some (.bl (allFrom (jumpOkN N) 0 Rs), [topS m ar.length Rs.length, some (.lst (N.map tupI))]) := by
          unfold callF
          simp [hansA, renA, cells, inAll, fresh1, hj, wb]
        simp [restA, e8, d__law_is_code_9, d__law_is_code_10, d__law_is_code_11, d__law_is_code_12, hz, hlc, g0, g2, he, hz2, c1, hc, hc2, gIs, isNone]
    · simp [c1] at g2
      simp [restA, e8, d__law_is_code_9, d__law_is_code_10, hz, hlc, g0, g2, he, hz2, c1]
end LW
set_option Elab.async false
set_option linter.all false
set_option maxRecDepth 100000
set_option maxHeartbeats 4000000
namespace LW
open PySem DL LM
theorem m_restL {T y : AV} (many shown : PyData) (as ar rs : List PyData) (h0 : as.all isSpan = true) :
    Ev (restL [T, .dat (.tuple as), .dat many, .dat shown, .dat (.tuple ar), .dat (.tuple rs), y, .un, .un, .un, .un, .un, .un] []) fun q => q.1 = .rt (.bl (isCode5 (.tuple as) many shown (.tuple ar) (.tuple rs))) := by
  by_cases h1 : as.length ≤ 3
  · have h1' : ¬ ((3 : Int) < (as.length : Int)) := by omega
    have hmx : (if (1 : Int) < (as.length : Int) then (as.length : Int) else 1) = mxl as := rfl
    cases many with
    | int m =>
      have e5 : isCode5 (.tuple as) (.int m) shown (.tuple ar) (.tuple rs) = (decide (mxl as ≤ m) && decide (m ≤ 16) && codeIn m shown (.tuple ar) (.tuple rs)) := by simp [isCode5, h0, h1, -List.all_eq_true]
      rw [e5]
      by_cases h2 : mxl as ≤ m
      · by_cases h3 : m ≤ 16
        · have e6 : (decide (mxl as ≤ m) && decide (m ≤ 16) && codeIn m shown (.tuple ar) (.tuple rs)) = codeIn m shown (.tuple ar) (.tuple rs) := by simp [h2, h3]
          rw [e6]
          cases shown with
          | int s =>
            by_cases h4 : 0 ≤ s
            · by_cases h5 : s ≤ m
              · by_cases h6 : ar.length ≤ 2
                · have h6' : ¬ ((2 : Int) < (ar.length : Int)) := by omega
                  have hz : ar.length ≤ 1000000 := by omega
                  have e7 : codeIn m (.int s) (.tuple ar) (.tuple rs) = (ar.all (fun d => isBetween d 1 6) && areRows m ar.length rs) := by simp [codeIn, isBetween, h4, h5, h6, -List.all_eq_true]
                  rw [e7]
                  have hlc : lcL [] (gName 12) tYes (dAnd (dCall f__law_whole (aCons (dVar 12) aNil)) (dChain gLt gLt (dK (.int 0)) (dVar 12) (dK (.int 7)))) [T, .dat (.tuple as), .dat (.int m), .dat (.int s), .dat (.tuple ar), .dat (.tuple rs), y, .un, .un, .un, .un, .un, .un] ar [] = some (ar.map (fun d => .bool (isBetween d 1 6)), []) := by
                    refine lcL_map _ rfl _ fun d hd => ⟨_, by simp; rfl, ?_⟩
                    cases d with
                    | int i =>
                      have e : isBetween (.int i) 1 6 = (decide (0 < i) && decide (i < 7)) := by
                        rw [Bool.eq_iff_iff]; simp only [isBetween, Bool.and_eq_true, decide_eq_true_eq]; omega
                      rw [e]
                      by_cases g1 : 0 < i <;> by_cases g2 : i < 7 <;> simp [c_whole, isWhole, g1, g2]
                    | _ => simp [c_whole, isWhole, isBetween]
                  cases h7 : ar.all (fun d => isBetween d 1 6) with
                  | false =>
                    simp [restL, d__law_is_code_5, d__law_is_code_6, d__law_is_code_7, h1', c_whole, isWhole, hmx, h2, h3, h4, h5, h6', hz, hlc, gAll_map, -gAll_lst, h7, -List.all_eq_false]
                  | true =>
                    by_cases h8 : 1 ≤ rs.length
                    · have h8' : 0 < rs.length := by omega
                      by_cases h9 : rs.length ≤ 60
                      · have h9' : ((rs.length : Int) < 61) := by omega
                        simp [restL, d__law_is_code_5, d__law_is_code_6, d__law_is_code_7, h1', c_whole, isWhole, hmx, h2, h3, h4, h5, h6', hz, hlc, gAll_map, -gAll_lst, h7, -List.all_eq_true, h8', h9']
                        exact m_restA ar rs h8 h9
                      · have h9' : ¬ ((rs.length : Int) < 61) := by omega
                        have e8 : areRows m ar.length rs = false := by simp [areRows, h9]
                        rw [e8]
                        simp [restL, d__law_is_code_5, d__law_is_code_6, d__law_is_code_7, h1', c_whole, isWhole, hmx, h2, h3, h4, h5, h6', hz, hlc, gAll_map, -gAll_lst, h7, -List.all_eq_true, h8', h9']
                    · have h8' : ¬ (0 < rs.length) := by omega
                      have e8 : areRows m ar.length rs = false := by simp [areRows, h8]
                      rw [e8]
                      simp [restL, d__law_is_code_5, d__law_is_code_6, d__law_is_code_7, h1', c_whole, isWhole, hmx, h2, h3, h4, h5, h6', hz, hlc, gAll_map, -gAll_lst, h7, -List.all_eq_true, h8']
                · have h6' : ((2 : Int) < (ar.length : Int)) := by omega
                  have e7 : codeIn m (.int s) (.tuple ar) (.tuple rs) = false := by simp [codeIn, h6]
                  rw [e7]
                  simp [restL, d__law_is_code_5, d__law_is_code_6, h1', c_whole, isWhole, hmx, h2, h3, h4, h5, h6']
              · have e7 : codeIn m (.int s) (.tuple ar) (.tuple rs) = false := by simp [codeIn, isBetween, h5]
                rw [e7]
                simp [restL, d__law_is_code_5, d__law_is_code_6, h1', c_whole, isWhole, hmx, h2, h3, h4, h5]
            · have e7 : codeIn m (.int s) (.tuple ar) (.tuple rs) = false := by simp [codeIn, isBetween, h4]
              rw [e7]
              simp [restL, d__law_is_code_5, d__law_is_code_6, h1', c_whole, isWhole, hmx, h2, h3, h4]
          | _ => simp [restL, d__law_is_code_5, d__law_is_code_6, h1', c_whole, isWhole, hmx, h2, h3, codeIn, isBetween]
        · simp [restL, d__law_is_code_5, h1', c_whole, isWhole, hmx, h2, h3]
      · simp [restL, d__law_is_code_5, h1', c_whole, isWhole, hmx, h2]
    | _ => simp [restL, d__law_is_code_5, h1', c_whole, isWhole, isCode5]
  · have h1' : ((3 : Int) < (as.length : Int)) := by omega
    simp [restL, d__law_is_code_5, h1', isCode5, h1]
end LW
set_option Elab.async false
set_option linter.all false
set_option maxRecDepth 100000
set_option maxHeartbeats 4000000
namespace LW
open PySem DL LM
theorem m_law_is_code5 (asks many shown arrays rows : PyData) : f__law_is_code [.dat (.tuple [asks, many, shown, arrays, rows])] [] = some (.bl (isCode5 asks many shown arrays rows), []) := by
  rw [← Ev_eq]
  have hno : ∀ as, (∀ x, arrays ≠ .tuple x) ∨ (∀ x, rows ≠ .tuple x) → isCode5 (.tuple as) many shown arrays rows = false := fun as h => by
    have : ∀ m, codeIn m shown arrays rows = false := fun m => by
      unfold codeIn
      split
      · rcases h with h | h
        · exact absurd rfl (h _)
        · exact absurd rfl (h _)
      · simp
    cases many <;> simp [isCode5, this]
  cases asks with
  | tuple as =>
    cases arrays with
    | tuple ar =>
      cases rows with
      | tuple rs =>
        have hloop := forL_each (g := []) (tg := gName 6) (body := b__law_is_code_1) (st := []) id isSpan (fun S => ∃ y, S = [.dat (.tuple [.tuple as, many, shown, .tuple ar, .tuple rs]), .dat (.tuple as), .dat many, .dat shown, .dat (.tuple ar), .dat (.tuple rs), y] ++ [.un, .un, .un, .un, .un, .un]) rfl as _ ⟨.un, rfl⟩ (by
          rintro d S hd ⟨y, rfl⟩
          have := body_ask (a := .dat (.tuple [.tuple as, many, shown, .tuple ar, .tuple rs])) (b := .dat (.tuple as)) (c := .dat many) (d := .dat shown) (e := .dat (.tuple ar)) (f := .dat (.tuple rs)) (g := .un) d _ rfl
          exact Ev.of_eq rfl this)
        rw [List.map_id] at hloop
        simp only [List.cons_append, List.nil_append] at hloop
        simp [f__law_is_code, fnOf_ap, law_is_code_split, d__law_is_code_0, d__law_is_code_1, d__law_is_code_2, d__law_is_code_3, d__law_is_code_4]
        refine hloop.mono ?_
        rintro ⟨fl, S, st⟩ ⟨hst, h⟩
        simp only at hst h
        subst hst
        cases c : as.all isSpan with
        | false =>
          rw [c] at h
          simp at h
          subst h
          have : isCode5 (.tuple as) many shown (.tuple ar) (.tuple rs) = false := by simp [isCode5, c, -List.all_eq_false]
          simp [this]
        | true =>
          rw [c] at h
          simp at h
          obtain ⟨rfl, y, rfl⟩ := h
          simp
          refine (m_restL many shown as ar rs c).mono ?_
          rintro ⟨fl, S, st⟩ h
          simp only at h
          subst h
          simp
      | _ => simp [f__law_is_code, fnOf_ap, law_is_code_split, d__law_is_code_0, d__law_is_code_1, d__law_is_code_2, d__law_is_code_3, hno]
    | _ => simp [f__law_is_code, fnOf_ap, law_is_code_split, d__law_is_code_0, d__law_is_code_1, d__law_is_code_2, hno]
  | _ => simp [f__law_is_code, fnOf_ap, law_is_code_split, d__law_is_code_0, d__law_is_code_1, d__law_is_code_2, isCode5]
theorem m_law_is_code (d : PyData) : f__law_is_code [.dat d] [] = some (.bl (isCode d), []) := by
  cases d with
  | tuple ds =>
    match ds with
    | [] => rfl
    | [_] => rfl
    | [_, _] => rfl
    | [_, _, _] => rfl
    | [_, _, _, _] => rfl
    | [a, b, c, d, e] => exact m_law_is_code5 a b c d e
    | a :: b :: c :: d :: e :: f :: l =>
      have h : ¬ ((l.length : Int) + 1 + 1 + 1 + 1 + 1 + 1 = 5) := by omega
      simp [f__law_is_code, fnOf_ap, law_is_code_split, d__law_is_code_0, h, isCode]
  | _ => rfl
theorem c_law_is_code (st : Sto) (d : PyData) : callF f__law_is_code [.dat d] st = some (.bl (isCode d), st) := call_pure (m_law_is_code d)
end LW
set_option Elab.async false
set_option linter.all false
set_option maxRecDepth 100000
set_option maxHeartbeats 4000000
namespace LW
open PySem DL LM
/-! ### draws -/
def PotC (n : Nat) (c : Option MO) : Prop := ∃ a b k : Int, c = some (.lst [.int a, .int b, .int k]) ∧ 0 ≤ a ∧ 0 ≤ b ∧ b < 2305843009213693952 ∧ 0 ≤ k ∧ k ≤ n
theorem PotC.mono {n m : Nat} {c : Option MO} (h : PotC n c) (q : n ≤ m) : PotC m c := by
  obtain ⟨a, b, k, h1, h2, h3, h4, h5, h6⟩ := h
  exact ⟨a, b, k, h1, h2, h3, h4, h5, by omega⟩
theorem pow_ok {i : Int} {k : Nat} (h : i.natAbs < 2 ^ 1000) (hk : k ≤ 100) : CPowW i (k : Nat) := by
  have hb : Builtin.Int.intBits i ≤ 1000 := by
    unfold Builtin.Int.intBits
    split
    · omega
    · rename_i h0
      have : i.natAbs ≠ 0 := by
        intro z
        exact h0 (by simp [Int.natAbs_eq_zero.mp z])
      have := (Nat.log2_lt this).mpr h
      omega
  refine ⟨by omega, ?_⟩
  have : (Builtin.Int.intBits i : Int) * (k : Int) ≤ 1000 * 100 := Int.mul_le_mul (by omega) (by omega) (by omega) (by omega)
  omega
theorem log_small {n k : Nat} (h : n < 2 ^ k) (hk : 0 < k) : n.log2 < k := by
  by_cases z : n = 0
  · subst z; simpa using hk
  · exact (Nat.log2_lt z).mpr h
theorem mul_ok {i j : Int} (h1 : i.natAbs < 2 ^ 1000) (h2 : j.natAbs < 2 ^ 1000) : L2.CMulW i j := by
  have := log_small h1 (by omega)
  have := log_small h2 (by omega)
  unfold L2.CMulW
  omega
theorem small_of {i : Int} (h0 : 0 ≤ i) (h : i < 2 ^ 200) : i.natAbs < 2 ^ 1000 := by
  have : (2 : Nat) ^ 200 < 2 ^ 1000 := Nat.pow_lt_pow_right (by omega) (by omega)
  have h2 : i.natAbs < 2 ^ 200 := by
    have : ((i.natAbs : Nat) : Int) = i := Int.natAbs_of_nonneg h0
    have h3 : ((i.natAbs : Nat) : Int) < ((2 ^ 200 : Nat) : Int) := by rw [this]; exact_mod_cast h
    exact_mod_cast h3
  omega
theorem div_ok {a m : Int} (h : 0 < m) (h2 : m ≤ 1000000) : L2.CDivW a m := by
  refine ⟨h, ?_⟩
  have : m.natAbs < 2 ^ 20 := by omega
  have := log_small this (by omega)
  omega
theorem m_take {n : Nat} {c : Option MO} {m : Int} (hc : PotC n c) (hn : n ≤ 1000000) (h0 : 0 < m) (hm : m ≤ 1000000) : ∃ x c', f__law_take [.han 0, .int m] [c] = some (.int x, [c']) ∧ 0 ≤ x ∧ x < m ∧ PotC (n + 1) c' := by
  obtain ⟨a, b, k, rfl, ha, hb, hb2, hk, hk2⟩ := hc
  have hd := div_ok (a := a) h0 hm
  by_cases hap : 0 < a
  · refine ⟨a % m, some (.lst [.int (a / m), .int b, .int k]), ?_, Int.emod_nonneg _ (by omega), Int.emod_lt_of_pos _ h0, a / m, b, k, rfl, Int.ediv_nonneg ha (by omega), hb, hb2, hk, by omega⟩
    simp [f__law_take, fnOf_ap, d__law_take, d__law_take_0, hap, h0, hd]
  · have s1 : L2.CMulW 104683 (k + 1) := mul_ok (small_of (by omega) (by omega)) (small_of (by omega) (by omega))
    have s2 : L2.CMulW 37 (k + 1) := mul_ok (small_of (by omega) (by omega)) (small_of (by omega) (by omega))
    have s3 : CPowW (b + 104683 * (k + 1)) 3 := pow_ok (k := 3) (small_of (by omega) (by omega)) (by omega)
    have s4 : CPowW ((b + 104683 * (k + 1)) ^ 3 % 2305843009213693921 + b % 65521 + 37 * (k + 1)) 5 := by
      have h1 := Int.emod_nonneg ((b + 104683 * (k + 1)) ^ 3) (show (2305843009213693921 : Int) ≠ 0 by decide)
      have h2 := Int.emod_lt_of_pos ((b + 104683 * (k + 1)) ^ 3) (show (0 : Int) < 2305843009213693921 by decide)
      exact pow_ok (k := 5) (small_of (by omega) (by omega)) (by omega)
    have s5 : ∀ x : Int, L2.CDivW x 1024 := fun x => ⟨by decide, by decide⟩
    refine ⟨((((b + 104683 * (k + 1)) ^ 3 % 2305843009213693921 + b % 65521 + 37 * (k + 1)) ^ 5 % 2305843009213693907) / 1024) % m, some (.lst [.int a, .int b, .int (k + 1)]), ?_, Int.emod_nonneg _ (by omega), Int.emod_lt_of_pos _ h0, a, b, k + 1, rfl, ha, hb, hb2, by omega, by omega⟩
    simp [f__law_take, fnOf_ap, d__law_take, d__law_take_0, d__law_take_1, d__law_take_2, d__law_take_3, d__law_take_4, hap, h0, s1, s2, s3, s4, s5]
theorem c_take {n : Nat} {c : Option MO} {st : Sto} {m : Int} {Q : AV × Sto → Prop} (hc : PotC n c) (hn : n ≤ 1000000) (h0 : 0 < m) (hm : m ≤ 1000000) (h : ∀ x c', 0 ≤ x → x < m → PotC (n + 1) c' → Q (.dat (.int x), c' :: st)) : Ev (callF f__law_take [.han 0, .dat (.int m)] (c :: st)) Q := by
  obtain ⟨x, c', e, h1, h2, h3⟩ := m_take hc hn h0 hm
  exact call_one (Ev.of_eq e ⟨_, _, rfl, h x c' h1 h2 h3⟩)
end LW
set_option Elab.async false
set_option linter.all false
set_option maxRecDepth 100000
set_option maxHeartbeats 4000000
namespace LW
open PySem DL LM
structure LoopsOk (size : Int) (L : List (Int × Int)) : Prop where
  len : L.length ≤ 2
  rng : ∀ p ∈ L, 0 ≤ p.1 ∧ p.1 < p.2 ∧ p.2 ≤ size - 2
  ap : L.Pairwise apart
theorem noDict_II (L : List (Int × Int)) : noDictAll (L.map encII) = true := by
  induction L with
  | nil => rfl
  | cons p r ih => simp [noDictAll, noDict, encII, ih]
theorem gOk_own {st : Sto} {k : Nat} {ds : List PyData} (h : st[k]? = some (some (.lst ds))) (n : noDictAll ds = true) : gOk [(k, ds)] st = true := by
  simp [gOk, h, sameAll_refl ds n]
theorem LoopsOk.add {size : Int} {L : List (Int × Int)} {f l : Int} (h : LoopsOk size L) (h1 : L.length < 2) (h2 : 0 ≤ f) (h3 : f < l) (h4 : l ≤ size - 2) (h5 : ∀ p ∈ L, apart (f, l) p) : LoopsOk size (L ++ [(f, l)]) := by
  refine ⟨by simp; omega, ?_, List.pairwise_append.mpr ⟨h.ap, by simp, ?_⟩⟩
  · intro p hp
    rcases List.mem_append.mp hp with hp | hp
    · exact h.rng p hp
    · simp at hp; subst hp; exact ⟨h2, h3, h4⟩
  · intro p hp q hq
    simp at hq; subst hq
    exact apart_symm (h5 p hp)
theorem gEq_len (a b : Nat) : gEq false (.int (a : Int)) (.int (b : Int)) = some (.bool (decide (a = b))) := by
  simp only [gEq_ii, Bool.false_eq_true, if_false]
  congr 2
  rw [Bool.eq_iff_iff]; simp; omega
theorem lp_comp {L : List (Int × Int)} {f l : Int} {P A B : AV} {c : Option MO} : lcL [(1, L.map encII)] (gTup 2 (DL.gCons (gName 7) (DL.gCons (gName 8) gNil))) (tOr (tOf (dBin (lift2 gLt) (dVar 5) (dVar 7))) (tOr (tOf (dBin (lift2 gLt) (dVar 8) (dVar 4))) (tOr (tAnd (tOf (dBin (lift2 gLt) (dVar 7) (dVar 4))) (tOf (dBin (lift2 gLt) (dVar 5) (dVar 8)))) (tAnd (tOf (dBin (lift2 gLt) (dVar 4) (dVar 7))) (tOf (dBin (lift2 gLt) (dVar 8) (dVar 5))))))) (dK (.int 1)) [.han 0, P, .han 1, A, .int f, .int l, B, .un, .un] (L.map encII) [c, some (.lst (L.map encII))] = some (((L.filter fun p => decide (apart (f, l) p)).map fun _ => .int 1), [c, some (.lst (L.map encII))]) := by
  refine lcL_pureT encII _ (fun _ => .int 1) (gOk_own rfl (noDict_II L)) L fun p hp => ?_
  obtain ⟨a, b⟩ := p
  refine ⟨_, by simp [encII]; rfl, ?_, fun _ => rfl⟩
  by_cases h1 : l < a
  · have : apart (f, l) (a, b) := .inl h1
    simp [h1, this]
  · by_cases h2 : b < f
    · have : apart (f, l) (a, b) := .inr (.inl h2)
      simp [h1, h2, this]
    · by_cases h3 : a < f
      · by_cases h4 : l < b
        · have : apart (f, l) (a, b) := by unfold apart; simp only; omega
          simp [h1, h2, h3, h4, this]
        · have h5 : ¬ f < a := by omega
          have : ¬ apart (f, l) (a, b) := by unfold apart; simp only; omega
          simp [h1, h2, h3, h4, h5, this]
      · by_cases h5 : f < a
        · by_cases h6 : b < l
          · have : apart (f, l) (a, b) := by unfold apart; simp only; omega
            simp [h1, h2, h3, h5, h6, this]
          · have : ¬ apart (f, l) (a, b) := by unfold apart; simp only; omega
            simp [h1, h2, h3, h5, h6, this]
        · have : ¬ apart (f, l) (a, b) := by unfold apart; simp only; omega
          simp [h1, h2, h3, h5, this]
def LPost (n : Nat) (size : Int) (t : AV) (q : Fl × List AV × Sto) : Prop := q.1 = .nx ∧ ∃ x y z c' L', q.2.1 = [.han 0, .int size, .han 1, t, x, y, z, .un, .un] ∧ q.2.2 = [c', some (.lst (L'.map encII))] ∧ PotC (n + 2) c' ∧ LoopsOk size L'
theorem body_loops {n : Nat} {size : Int} {c : Option MO} {L : List (Int × Int)} {x y z : AV} (t : AV) (hc : PotC n c) (hn : n ≤ 900000) (hs : size ≤ 1000) (hL : LoopsOk size L) (hs3 : 3 ≤ size) :
    Ev (b__law_loops_1 [.han 0, .int size, .han 1, t, x, y, z, .un, .un] [c, some (.lst (L.map encII))]) (LPost n size t) := by
  by_cases h3 : 3 < size
  · simp [b__law_loops_1, h3]
    refine c_take hc (by omega) (by omega) (by omega) fun f c1 f0 f1 hc1 => ?_
    simp
    refine c_take hc1 (by omega) (by omega) (by omega) fun d c2 d0 d1 hc2 => ?_
    have hz : L.length ≤ 1000000 := by have := hL.len; omega
    have hco : lcL [(1, L.map encII)] (gTup 2 (DL.gCons (gName 7) (DL.gCons (gName 8) gNil))) (tOr (tOf (dBin (lift2 gLt) (dVar 5) (dVar 7))) (tOr (tOf (dBin (lift2 gLt) (dVar 8) (dVar 4))) (tOr (tAnd (tOf (dBin (lift2 gLt) (dVar 7) (dVar 4))) (tOf (dBin (lift2 gLt) (dVar 5) (dVar 8)))) (tAnd (tOf (dBin (lift2 gLt) (dVar 4) (dVar 7))) (tOf (dBin (lift2 gLt) (dVar 8) (dVar 5))))))) (dK (.int 1)) [.han 0, .int size, .han 1, t, .int f, .int (f + 1 + d), z, .un, .un] (L.map encII) [c2, some (.lst (L.map encII))] = _ := lp_comp
    obtain ⟨F, hF⟩ : ∃ F, F = (L.filter fun p => decide (apart (f, f + 1 + d) p)) := ⟨_, rfl⟩
    rw [← hF] at hco
    by_cases h2 : L.length < 2
    · have h2' : ((L.length : Int) < 2) := by omega
      by_cases hq : F.length = L.length
      · have hall : ∀ p ∈ L, apart (f, f + 1 + d) p := by
          have := List.filter_eq_self.mp ((List.filter_sublist (p := fun p => decide (apart (f, f + 1 + d) p))).eq_of_length (by rw [← hF]; exact hq))
          simpa using this
        have hLn := hL.add h2 f0 (show f < f + 1 + d by omega) (by omega) hall
        have hz' : L.length < 1000000 := by omega
        simp [hz, hz', hco, h2', hq]
        exact ⟨rfl, _, _, _, c2, L ++ [(f, f + 1 + d)], rfl, by simp [encII], hc2, hLn⟩
      · have hq' : ¬ ((F.length : Int) = L.length) := by omega
        simp [hz, hco, h2', hq']
        exact ⟨rfl, _, _, _, c2, L, rfl, rfl, hc2, hL⟩
    · have h2' : ¬ ((L.length : Int) < 2) := by omega
      simp [hz, hco, h2']
      exact ⟨rfl, _, _, _, c2, L, rfl, rfl, hc2, hL⟩
  · simp [b__law_loops_1, h3]
    exact ⟨rfl, _, _, _, c, L, rfl, rfl, hc.mono (by omega), hL⟩
def LRes (n : Nat) (size : Int) (r : AV × Sto) : Prop := ∃ L c', r = (.dat (.list (L.map encII)), [c']) ∧ PotC (n + 10) c' ∧ LoopsOk size L
def LInv (n : Nat) (size : Int) (i : Nat) (S : List AV) (st : Sto) : Prop := i ≤ 4 ∧ ∃ t x y z c' L', S = [.han 0, .int size, .han 1, t, x, y, z, .un, .un] ∧ st = [c', some (.lst (L'.map encII))] ∧ PotC (n + 1 + 2 * i) c' ∧ LoopsOk size L'
theorem m_loops {n : Nat} {size : Int} {c : Option MO} (hc : PotC n c) (hn : n ≤ 800000) (hs : size ≤ 1000) (hs3 : 3 ≤ size) :
    Ev (f__law_loops [.han 0, .int size] [c]) (LRes n size) := by
  simp [f__law_loops, fnOf_ap, d__law_loops, d__law_loops_0, d__law_loops_1]
  refine c_take hc (by omega) (by omega) (by omega) fun t c1 t0 t1 hc1 => ?_
  simp [rng1_int (show -1000000 ≤ t by omega) (show t ≤ 1000000 by omega)]
  refine forL_ev (LInv n size) _ 0 _ _ ⟨by omega, .un, .un, .un, .un, c1, [], rfl, rfl, hc1, ⟨by simp, by simp, by simp⟩⟩ (fun _ _ _ _ => rfl) ?_ ?_
  · rintro i d S st hd ⟨hi, t', x, y, z, c', L', rfl, rfl, hc', hL'⟩
    have hi2 : i < t.toNat := by
      have := (List.getElem?_eq_some_iff.mp hd).1
      simpa using this
    simp
    refine (body_loops (.dat d) hc' (by omega) hs hL' hs3).mono ?_
    rintro ⟨fl, S, st⟩ ⟨h1, x, y, z, c'', L'', h2, h3, h4, h5⟩
    simp only at h1 h2 h3
    subst h1 h2 h3
    exact ⟨by omega, _, _, _, _, c'', L'', rfl, rfl, h4.mono (by omega), h5⟩
  · rintro S st ⟨hi, t', x, y, z, c', L', rfl, rfl, hc', hL'⟩
    have hg := gSorted_pairs L'
    have P := isort_perm (le := leII) L'
    simp [d__law_loops_2, hg]
    exact ⟨isort leII L', _, rfl, hc'.mono (by simp; omega), ⟨by rw [P.length_eq]; exact hL'.len, fun p hp => hL'.rng p (P.subset hp), (P.pairwise_iff (fun h => apart_symm h)).mpr hL'.ap⟩⟩
theorem c_loops {n : Nat} {size : Int} {c : Option MO} {st : Sto} {Q : AV × Sto → Prop} (hc : PotC n c) (hn : n ≤ 800000) (hs : size ≤ 1000) (hs3 : 3 ≤ size) (h : ∀ L c', PotC (n + 10) c' → LoopsOk size L → Q (.dat (.list (L.map encII)), c' :: st)) : Ev (callF f__law_loops [.han 0, .dat (.int size)] (c :: st)) Q :=
  call_one ((m_loops hc hn hs hs3).mono fun r ⟨L, c', e, h1, h2⟩ => ⟨_, _, e, h L c' h1 h2⟩)
end LW
set_option Elab.async false
set_option linter.all false
set_option maxRecDepth 100000
set_option maxHeartbeats 4000000
namespace LW
open PySem DL LM
theorem okR {m na nr i : Int} (h0 : 0 ≤ i) (h1 : i < m) : isPart m na nr (.str "register") (.int i) = true := by
  have v : valP (lims m na nr) (.inr "register") = some (.tuple [.int 0, .int (m - 1)]) := rfl
  simp [isPart, v, isBetween]; omega
theorem okW {m na nr i : Int} (h0 : 0 ≤ i) (h1 : i < 256) : isPart m na nr (.str "worth") (.int i) = true := by
  have v : valP (lims m na nr) (.inr "worth") = some (.tuple [.int 0, .int 255]) := rfl
  simp [isPart, v, isBetween]; omega
theorem okA {m na nr i : Int} (h0 : 0 ≤ i) (h1 : i < na) : isPart m na nr (.str "array") (.int i) = true := by
  have v : valP (lims m na nr) (.inr "array") = some (.tuple [.int 0, .int (na - 1)]) := rfl
  simp [isPart, v, isBetween]; omega
theorem okN {m na nr i : Int} (h0 : 0 ≤ i) (h1 : i < nr) : isPart m na nr (.str "row") (.int i) = true := by
  have v : valP (lims m na nr) (.inr "row") = some (.tuple [.int 0, .int (nr - 1)]) := rfl
  simp [isPart, v, isBetween]; omega
theorem okM {m na nr i : Int} (h0 : 1 ≤ i) (h1 : i < 7) : isPart m na nr (.str "rounds") (.int i) = true := by
  have v : valP (lims m na nr) (.inr "rounds") = some (.tuple [.int 1, .int 6]) := rfl
  simp [isPart, v, isBetween]; omega
theorem isRow_of {m na nr : Int} {w : Str} {is : List Int} {ks : List PyData} (h : tabGet tab_FORMS w = some (.tuple ks)) (hl : is.length = ks.length) (ha : ((zipD (is.map .int) ks).all fun z => match z with
    | .tuple [p, k] => isPart m na nr k p
    | _ => false) = true) : isRow m na nr (encR (w, is)) = true := by
  simp only [isRow, encR, h, List.length_map, hl, decide_true, Bool.true_and]
  exact ha
structure PlainOk (m na : Int) (r : TR) : Prop where
  row : ∀ nr, isRow m na nr (encR r) = true
  oth : rk r = .oth
  nj : isJ r = false
  ne : ¬ r.1 = "end"
theorem pl_get {m na a b c : Int} (a0 : 0 ≤ a) (a1 : a < m) (b0 : 0 ≤ b) (b1 : b < na) (c0 : 0 ≤ c) (c1 : c < m) : PlainOk m na ("get", [a, b, c]) :=
  ⟨fun nr => isRow_of (ks := [.str "register", .str "array", .str "register"]) rfl rfl (by simp [zipD, okR a0 a1, okA b0 b1, okR c0 c1]), rfl, rfl, fun h => by revert h; exact (by decide : ¬ (Str.ofString "get" = Str.ofString "end"))⟩
theorem pl_put {m na a b c : Int} (a0 : 0 ≤ a) (a1 : a < na) (b0 : 0 ≤ b) (b1 : b < m) (c0 : 0 ≤ c) (c1 : c < m) : PlainOk m na ("put", [a, b, c]) :=
  ⟨fun nr => isRow_of (ks := [.str "array", .str "register", .str "register"]) rfl rfl (by simp [zipD, okA a0 a1, okR b0 b1, okR c0 c1]), rfl, rfl, fun h => by revert h; exact (by decide : ¬ (Str.ofString "put" = Str.ofString "end"))⟩
theorem pl_set {m na a b : Int} (a0 : 0 ≤ a) (a1 : a < m) (b0 : 0 ≤ b) (b1 : b < 256) : PlainOk m na ("set", [a, b]) :=
  ⟨fun nr => isRow_of (ks := [.str "register", .str "worth"]) rfl rfl (by simp [zipD, okR a0 a1, okW b0 b1]), rfl, rfl, fun h => by revert h; exact (by decide : ¬ (Str.ofString "set" = Str.ofString "end"))⟩
theorem pl_copy {m na a b : Int} (a0 : 0 ≤ a) (a1 : a < m) (b0 : 0 ≤ b) (b1 : b < m) : PlainOk m na ("copy", [a, b]) :=
  ⟨fun nr => isRow_of (ks := [.str "register", .str "register"]) rfl rfl (by simp [zipD, okR a0 a1, okR b0 b1]), rfl, rfl, fun h => by revert h; exact (by decide : ¬ (Str.ofString "copy" = Str.ofString "end"))⟩
theorem pl_rest {m na : Int} : PlainOk m na ("rest", []) :=
  ⟨fun nr => isRow_of (ks := []) rfl rfl (by simp [zipD]), rfl, rfl, fun h => by revert h; exact (by decide : ¬ (Str.ofString "rest" = Str.ofString "end"))⟩
theorem pl_op {m na a b c : Int} {w : Str} (hw : w = "+" ∨ w = "-" ∨ w = "*" ∨ w = "<" ∨ w = "=") (a0 : 0 ≤ a) (a1 : a < m) (b0 : 0 ≤ b) (b1 : b < m) (c0 : 0 ≤ c) (c1 : c < m) : PlainOk m na (w, [a, b, c]) := by
  have hne : ¬ w = "end" := by rcases hw with rfl | rfl | rfl | rfl | rfl <;> decide
  rcases hw with rfl | rfl | rfl | rfl | rfl <;> exact ⟨fun nr => isRow_of (ks := [.str "register", .str "register", .str "register"]) rfl rfl (by simp [zipD, okR a0 a1, okR b0 b1, okR c0 c1]), rfl, rfl, hne⟩
def restP : DSt := sSeq d__law_plain_row_3 (sSeq d__law_plain_row_4 d__law_plain_row_5)
theorem plain_split : d__law_plain_row = sSeq d__law_plain_row_0 (sSeq d__law_plain_row_1 (sSeq d__law_plain_row_2 restP)) := rfl
def PRes (n : Nat) (m na : Int) (r : AV × Sto) : Prop := ∃ w c', r = (.dat (encR w), [c']) ∧ PotC (n + 8) c' ∧ PlainOk m na w
def TRes (n : Nat) (m na : Int) (q : Fl × List AV × Sto) : Prop := ∃ w S' c', q = (.rt (.dat (encR w)), S', [c']) ∧ PotC (n + 2) c' ∧ PlainOk m na w
theorem m_tail {n : Nat} {m na way a b d : Int} {S : AV} {c : Option MO} (hc : PotC n c) (hn : n ≤ 900000) (w0 : 0 ≤ way) (w1 : way < 9) (a0 : 0 ≤ a) (a1 : a < m) (b0 : 0 ≤ b) (b1 : b < m) (d0 : 0 ≤ d) (d1 : d < m) :
    Ev (restP [.han 0, .int m, S, .int way, .int a, .int b, .int d, .un] [c]) (TRes n m na) := by
  have fin : ∀ (w : Str) (is : List Int) (S' : List AV) (c' : Option MO), PotC (n + 2) c' → PlainOk m na (w, is) → TRes n m na (.rt (.dat (.tuple (.str w :: is.map .int))), S', [c']) := fun w is S' c' h1 h2 => ⟨(w, is), S', c', rfl, h1, h2⟩
  by_cases h5 : way < 5
  · simp [restP, d__law_plain_row_3, h5]
    refine c_take hc (by omega) (by omega) (by omega) fun e c5 e0 e1 hc5 => ?_
    simp
    refine c_take hc5 (by omega) (by omega) (by omega) fun f c6 f0 f1 hc6 => ?_
    have : f = 0 ∨ f = 1 ∨ f = 2 ∨ f = 3 := by omega
    rcases this with rfl | rfl | rfl | rfl <;> simp
    · exact fin "set" [a, 0] _ _ hc6 (pl_set a0 a1 (by omega) (by omega))
    · exact fin "set" [a, 1] _ _ hc6 (pl_set a0 a1 (by omega) (by omega))
    · exact fin "set" [a, 255] _ _ hc6 (pl_set a0 a1 (by omega) (by omega))
    · exact fin "set" [a, e] _ _ hc6 (pl_set a0 a1 (by omega) (by omega))
  · by_cases h6 : way = 5
    · subst h6
      simp [restP, d__law_plain_row_3, d__law_plain_row_4]
      refine c_take hc (by omega) (by omega) (by omega) fun e c5 e0 e1 hc5 => ?_
      have hd : L2.CDivW e 2 := ⟨by decide, by decide⟩
      have : e = 0 ∨ e = 1 ∨ e = 2 := by omega
      rcases this with rfl | rfl | rfl <;> simp [hd]
      · exact fin "copy" [a, b] _ _ (hc5.mono (by omega)) (pl_copy a0 a1 b0 b1)
      · exact fin "copy" [a, b] _ _ (hc5.mono (by omega)) (pl_copy a0 a1 b0 b1)
      · exact fin "rest" [] _ _ (hc5.mono (by omega)) pl_rest
    · simp [restP, d__law_plain_row_3, d__law_plain_row_4, d__law_plain_row_5, h5, h6]
      refine c_take hc (by omega) (by omega) (by omega) fun e c5 e0 e1 hc5 => ?_
      have : e = 0 ∨ e = 1 ∨ e = 2 ∨ e = 3 ∨ e = 4 ∨ e = 5 := by omega
      have g5 : ∀ x : PyData, L2.atI [PyData.str "*", .str "+", .str "-", .str "*", .str "<", x] 5 = some x := fun x => rfl
      rcases this with rfl | rfl | rfl | rfl | rfl | rfl <;> simp [g5]
      · exact fin "*" [a, b, d] _ _ (hc5.mono (by omega)) (pl_op (by simp) a0 a1 b0 b1 d0 d1)
      · exact fin "+" [a, b, d] _ _ (hc5.mono (by omega)) (pl_op (by simp) a0 a1 b0 b1 d0 d1)
      · exact fin "-" [a, b, d] _ _ (hc5.mono (by omega)) (pl_op (by simp) a0 a1 b0 b1 d0 d1)
      · exact fin "*" [a, b, d] _ _ (hc5.mono (by omega)) (pl_op (by simp) a0 a1 b0 b1 d0 d1)
      · exact fin "<" [a, b, d] _ _ (hc5.mono (by omega)) (pl_op (by simp) a0 a1 b0 b1 d0 d1)
      · exact fin "=" [a, b, d] _ _ (hc5.mono (by omega)) (pl_op (by simp) a0 a1 b0 b1 d0 d1)
theorem m_plain {n : Nat} {m : Int} {c : Option MO} {sz : List PyData} (hc : PotC n c) (hn : n ≤ 800000) (hm : 0 < m) (hm2 : m ≤ 1000) (hsz : sz.length ≤ 2) (hsh : SeqAt.shaped (.tuple sz) = true) :
    Ev (f__law_plain_row [.han 0, .int m, .dat (.tuple sz)] [c]) (PRes n m sz.length) := by
  simp [f__law_plain_row, fnOf_ap, plain_split, d__law_plain_row_0, d__law_plain_row_1, -lift2_ap]
  refine c_take hc (by omega) (by omega) (by omega) fun way c1 w0 w1 hc1 => ?_
  simp [-lift2_ap]
  refine c_take hc1 (by omega) (by omega) (by omega) fun a c2 a0 a1 hc2 => ?_
  simp [-lift2_ap]
  refine c_take hc2 (by omega) (by omega) (by omega) fun b c3 b0 b1 hc3 => ?_
  simp [-lift2_ap]
  refine c_take hc3 (by omega) (by omega) (by omega) fun d c4 d0 d1 hc4 => ?_
  have hne : gEq true (.tuple sz) (.tuple []) = some (.bool (!decide (sz = []))) := by
    have hs : gEq true (.tuple sz) (.tuple []) = some (.bool (!PyData.eqv (.tuple sz) (.tuple []))) := by
      have q : gEq true (.tuple sz) (.tuple []) = if SeqAt.shaped (.tuple sz) then some (.bool (!PyData.eqv (.tuple sz) (.tuple []))) else none := rfl
      rw [q, if_pos hsh]
    rw [hs]
    cases sz <;> simp [PyData.eqv, PyData.eqvAll]
  have tail := m_tail (n := n + 1 + 1 + 1 + 1) (m := m) (na := sz.length) (S := .dat (.tuple sz)) hc4 (by omega) w0 w1 a0 a1 b0 b1 d0 d1
  by_cases hs0 : sz = []
  · subst hs0
    simp at hne
    simp [d__law_plain_row_2, hne]
    refine tail.mono ?_
    rintro _ ⟨w, S', c', rfl, h1, h2⟩
    simp
    exact ⟨w, c', rfl, h1.mono (by omega), h2⟩
  · by_cases hw3 : way < 3
    · have hpos : 0 < sz.length := by cases sz with
        | nil => exact absurd rfl hs0
        | cons => simp
      simp [d__law_plain_row_2, hne, hs0, hw3]
      refine c_take hc4 (by omega) (by omega) (by omega) fun e c5 e0 e1 hc5 => ?_
      simp
      refine c_take hc5 (by omega) (by omega) (by omega) fun f c6 f0 f1 hc6 => ?_
      have : f = 0 ∨ f = 1 := by omega
      rcases this with rfl | rfl <;> simp
      · exact ⟨("get", [a, e, b]), _, rfl, hc6.mono (by omega), pl_get a0 a1 e0 e1 b0 b1⟩
      · exact ⟨("put", [e, b, d]), _, rfl, hc6.mono (by omega), pl_put e0 e1 b0 b1 d0 d1⟩
    · simp [d__law_plain_row_2, hne, hs0, hw3]
      refine tail.mono ?_
      rintro _ ⟨w, S', c', rfl, h1, h2⟩
      simp
      exact ⟨w, c', rfl, h1.mono (by omega), h2⟩
end LW
set_option Elab.async false
set_option linter.all false
set_option maxRecDepth 100000
set_option maxHeartbeats 4000000
namespace LW
open PySem DL LM
theorem c_plain {n : Nat} {m : Int} {c : Option MO} {sz : List PyData} {st : Sto} {Q : AV × Sto → Prop} (hc : PotC n c) (hn : n ≤ 800000) (hm : 0 < m) (hm2 : m ≤ 1000) (hsz : sz.length ≤ 2) (hsh : SeqAt.shaped (.tuple sz) = true) (h : ∀ w c', PotC (n + 8) c' → PlainOk m sz.length w → Q (.dat (encR w), c' :: st)) : Ev (callF f__law_plain_row [.han 0, .dat (.int m), .dat (.tuple sz)] (c :: st)) Q :=
  call_one ((m_plain hc hn hm hm2 hsz hsh).mono fun r ⟨w, c', e, h1, h2⟩ => ⟨_, _, e, h w c' h1 h2⟩)
theorem around_same : f__law_around = f_around_by := rfl
theorem c_law_around (st : Sto) {L : List (Int × Int)} (r : Int) (hl : L.length ≤ 1000) : callF f__law_around [.dat (.list (L.map encII)), .dat (.int r)] st = some (.dat (.list ((arn L r).map .int)), st) := by
  rw [around_same]; exact c_around_by st L r hl
/-! ### the ends -/
def endOf (L : List (Int × Int)) (x : Int) : Option Int := (L.find? fun p => decide (p.2 = x)).map (·.1)
def endsD (L : List (Int × Int)) : List (L2.Key × PyData) := mergeP [] (L.map fun p => (.inl p.2, .int p.1))
theorem endsD_get {size : Int} {L : List (Int × Int)} (h : LoopsOk size L) (x : Int) : valP (endsD L) (.inl x) = (endOf L x).map .int := by
  have hl := h.len
  match L, h, hl with
  | [], _, _ => rfl
  | [p], _, _ =>
    by_cases e : p.2 = x <;> simp [endsD, mergeP, putP, valP, endOf, e]
  | [p, q], h, _ =>
    have hp := h.rng p (by simp)
    have hq := h.rng q (by simp)
    have ha := (List.pairwise_cons.mp h.ap).1 q (by simp)
    have hne : ¬ p.2 = q.2 := by unfold apart at ha; omega
    by_cases e : p.2 = x
    · have e2 : ¬ q.2 = x := by omega
      simp [endsD, mergeP, putP, valP, endOf, e, hne]
      have : ¬ x = q.2 := by omega
      simp [this, e2]
    · by_cases e2 : q.2 = x <;> simp [endsD, mergeP, putP, valP, endOf, e, e2, hne]
/-! ### where a jump may lead -/
def aheadL (L : List (Int × Int)) (a size : Int) : List Int := ((List.range (size - (a + 1)).toNat).map fun (k : Nat) => a + 1 + (k : Int)).filter fun r => (arn L r).all fun f => decide (f ∈ arn L a)
theorem ahead_mem {L : List (Int × Int)} {a size r : Int} (h : r ∈ aheadL L a size) : a < r ∧ r < size ∧ ∀ f ∈ arn L r, f ∈ arn L a := by
  unfold aheadL at h
  obtain ⟨h1, h2⟩ := List.mem_filter.mp h
  obtain ⟨k, hk, rfl⟩ := List.mem_map.mp h1
  rw [List.mem_range] at hk
  refine ⟨by omega, by omega, ?_⟩
  simpa using h2
theorem ahead_some {L : List (Int × Int)} {a size : Int} (h : LoopsOk size L) (h2 : a < size - 1) : 0 < (aheadL L a size).length := by
  have : size - 1 ∈ aheadL L a size := by
    unfold aheadL
    refine List.mem_filter.mpr ⟨List.mem_map.mpr ⟨(size - 1 - (a + 1)).toNat, by rw [List.mem_range]; omega, by omega⟩, ?_⟩
    have e : arn L (size - 1) = [] := by
      unfold arn
      rw [List.filter_eq_nil_iff.mpr]
      · rfl
      · intro p hp
        have := h.rng p hp
        simp [inR]; omega
    simp [e]
  exact List.length_pos_of_mem this
theorem ahead_len {L : List (Int × Int)} {a size : Int} (h : 0 ≤ a) (h2 : size ≤ 1000) : (aheadL L a size).length ≤ 1000 := by
  unfold aheadL
  refine Nat.le_trans (List.length_filter_le _ _) ?_
  simp; omega
theorem comp_in {L : List (Int × Int)} {r : Int} {H : List Int} {S : List AV} (st : Sto) (hS : S[12]? = some (.dat (.list (H.map .int)))) (hl : S.length = 19) : lcL [] (gName 18) (tOf (dInA true (dVar 18) (dVar 12))) (dVar 18) S ((arn L r).map .int) st = some ((((arn L r).filter fun f => !decide (f ∈ H)).map .int), st) := by
  refine lcL_pureT PyData.int _ _ rfl _ fun f hf => ⟨S.set 18 (.dat (.int f)), rfl, ?_, fun _ => ?_⟩
  · have h1 : (S.set 18 (.dat (.int f)))[18]? = some (.dat (.int f)) := by simp [hl]
    have h2 : (S.set 18 (.dat (.int f)))[12]? = some (.dat (.list (H.map .int))) := by simp [hS]
    simp only [tOf_ap, dInA_ap, dVar_ap, h1, h2]
    simp [intsOf_ints]
  · have h1 : (S.set 18 (.dat (.int f)))[18]? = some (.dat (.int f)) := by simp [hl]
    simp only [dVar_ap, h1]
theorem comp_ahead {L : List (Int × Int)} {a size : Int} {x0 x1 x2 x3 x4 x5 x6 x7 x9 x10 x13 x14 x15 x16 : AV} (st : Sto) (hL : L.length ≤ 1000) :
    lcL [] (gName 17) (tOf (dBin (lift2 (gEq false)) (dLc (dSeqI (dCall f__law_around (aCons (dVar 8) (aCons (dVar 17) aNil)))) [18] (gName 18) (tOf (dInA true (dVar 18) (dVar 12))) (dVar 18)) (dLst aNil))) (dVar 17) [x0, x1, x2, x3, x4, x5, x6, x7, .dat (.list (L.map encII)), x9, x10, .int a, .dat (.list ((arn L a).map .int)), x13, x14, x15, x16, .un, .un] ((List.range (size - (a + 1)).toNat).map fun (k : Nat) => .int (a + 1 + (k : Int))) st = some ((aheadL L a size).map .int, st) := by
  have e : ((List.range (size - (a + 1)).toNat).map fun (k : Nat) => PyData.int (a + 1 + (k : Int))) = (((List.range (size - (a + 1)).toNat).map fun (k : Nat) => a + 1 + (k : Int))).map .int := by rw [List.map_map]; rfl
  rw [e]
  unfold aheadL
  refine lcL_pureT PyData.int _ _ rfl _ fun r hr => ⟨_, by simp; rfl, ?_, fun _ => by simp⟩
  have hc := fun S hS hl => comp_in (L := L) (r := r) (H := arn L a) (S := S) st hS hl
  have g := gEq_nil false ((arn L r).filter fun f => !decide (f ∈ arn L a))
  have hz : (arn L r).length ≤ 1000000 := by have := arn_len (x := r) hL; omega
  obtain ⟨X, hX⟩ : ∃ X, X = ((arn L r).filter fun f => !decide (f ∈ arn L a)) := ⟨_, rfl⟩
  have hXn : X = [] ↔ (arn L r).all (fun f => decide (f ∈ arn L a)) = true := by
    rw [hX, List.filter_eq_nil_iff]; simp
  rw [← hX] at hc g
  have hc2 := hc [x0, x1, x2, x3, x4, x5, x6, x7, .dat (.list (L.map encII)), x9, x10, .int a, .dat (.list ((arn L a).map .int)), x13, x14, x15, x16, .dat (.int r), .un] rfl rfl
  have hb : decide (X = []) = (arn L r).all (fun f => decide (f ∈ arn L a)) := by
    rw [Bool.eq_iff_iff, decide_eq_true_eq]; exact hXn
  rw [← hb]
  simp [c_law_around _ _ hL, hz, hc2, g]
end LW
set_option Elab.async false
set_option linter.all false
set_option maxRecDepth 100000
set_option maxHeartbeats 4000000
namespace LW
open PySem DL LM
structure RowAt (m na size : Int) (L : List (Int × Int)) (j : Nat) (r : TR) : Prop where
  row : isRow m na size (encR r) = true
  kind : rk r = if (j : Int) ∈ L.map (·.1) then .cnt else match endOf L j with
    | some f => .agn (f + 1)
    | none => .oth
  jump : isJ r = true → (j : Int) < jTo r ∧ jTo r < size ∧ ∀ f ∈ arn L (jTo r), f ∈ arn L j
  ne : ¬ r.1 = "end"
abbrev cSl (x0 x1 : AV) (size m : Int) (x4 x5 x6 : AV) (sz : List PyData) (L : List (Int × Int)) (x11 x12 x13 x14 : AV) : List AV := [x0, x1, .int size, .int m, x4, x5, x6, .dat (.tuple sz), .dat (.list (L.map encII)), .han 2, .han 3, x11, x12, x13, x14, .un, .un, .un, .un]
def CPost (n : Nat) (x1 : AV) (size m : Int) (x4 x5 x6 : AV) (sz : List PyData) (L : List (Int × Int)) (a : Nat) (as : Option MO) (Rs : List TR) (q : Fl × List AV × Sto) : Prop := q.1 = .nx ∧ ∃ y1 y2 y3 c' r, q.2.1 = cSl (.han 0) x1 size m x4 x5 x6 sz L (.int (a : Int)) y1 y2 y3 ∧ q.2.2 = [c', as, some (.dK (endsD L)), some (.lst ((Rs ++ [r]).map encR))] ∧ PotC (n + 10) c' ∧ RowAt m sz.length size L a r
theorem firsts_in (L : List (Int × Int)) (x : Int) : gIn false (.int x) (.list (L.map fun p => .int p.1)) = some (.bool (decide (x ∈ L.map (·.1)))) := by
  have := intsOf_map (fun p : Int × Int => p.1) L
  simp [this]
theorem pl_test {m na nr a b : Int} (a0 : 0 ≤ a) (a1 : a < m) (b0 : 0 ≤ b) (b1 : b < nr) : isRow m na nr (encR ("test", [a, b])) = true :=
  isRow_of (ks := [.str "register", .str "row"]) rfl rfl (by simp [zipD, okR a0 a1, okN b0 b1])
theorem pl_go {m na nr b : Int} (b0 : 0 ≤ b) (b1 : b < nr) : isRow m na nr (encR ("go", [b])) = true :=
  isRow_of (ks := [.str "row"]) rfl rfl (by simp [zipD, okN b0 b1])
theorem pl_count {m na nr b : Int} (b0 : 1 ≤ b) (b1 : b < 7) : isRow m na nr (encR ("count", [b])) = true :=
  isRow_of (ks := [.str "rounds"]) rfl rfl (by simp [zipD, okM b0 b1])
theorem pl_again {m na nr b : Int} (b0 : 0 ≤ b) (b1 : b < nr) : isRow m na nr (encR ("again", [b])) = true :=
  isRow_of (ks := [.str "row"]) rfl rfl (by simp [zipD, okN b0 b1])
theorem atI_some {α : Type} (xs : List α) {i : Int} (h : 0 ≤ i) (h2 : i < xs.length) : ∃ x, L2.atI xs i = some x ∧ x ∈ xs := by
  rw [atI_pos _ h]
  have : i.toNat < xs.length := by omega
  exact ⟨xs[i.toNat], List.getElem?_eq_getElem this, List.getElem_mem this⟩
theorem endOf_some {L : List (Int × Int)} {x f : Int} (h : endOf L x = some f) : (f, x) ∈ L := by
  unfold endOf at h
  obtain ⟨p, h1, rfl⟩ := Option.map_eq_some_iff.mp h
  have h2 := List.find?_some h1
  have h3 : p.2 = x := by simpa using h2
  have h4 := List.mem_of_find?_eq_some h1
  rw [← h3]; exact h4
theorem body_code {n : Nat} {x1 x4 x5 x6 y1 y2 y3 : AV} {size m : Int} {c as : Option MO} {sz : List PyData} {L : List (Int × Int)} {a : Nat} {Rs : List TR} (hc : PotC n c) (hn : n ≤ 700000) (hL : LoopsOk size L) (hm : 0 < m) (hm2 : m ≤ 1000) (hs2 : size ≤ 1000) (ha : (a : Int) < size - 1) (hsz : sz.length ≤ 2) (hsh : SeqAt.shaped (.tuple sz) = true) (hR : Rs.length ≤ 1000) :
    Ev (b__law_code_2 (cSl (.han 0) x1 size m x4 x5 x6 sz L (.int (a : Int)) y1 y2 y3) [c, as, some (.dK (endsD L)), some (.lst (Rs.map encR))]) (CPost n x1 size m x4 x5 x6 sz L a as Rs) := by
  have hl : L.length ≤ 1000 := by have := hL.len; omega
  have hl2 : L.length ≤ 1000000 := by omega
  have hR2 : Rs.length < 1000000 := by omega
  have hr2 := rng2_int (st := [c, as, some (.dK (endsD L)), some (.lst (Rs.map encR))]) (show -1000000 ≤ (a : Int) + 1 by omega) (show (a : Int) + 1 ≤ 1000000 by omega) (show -1000000 ≤ size by omega) (show size ≤ 1000000 by omega)
  have hca := comp_ahead (L := L) (a := (a : Int)) (size := size) (x0 := .han 0) (x1 := x1) (x2 := .int size) (x3 := .int m) (x4 := x4) (x5 := x5) (x6 := x6) (x7 := .dat (.tuple sz)) (x9 := .han 2) (x10 := .han 3) (x13 := y2) (x14 := y3) (x15 := .un) (x16 := .un) [c, as, some (.dK (endsD L)), some (.lst (Rs.map encR))] hl
  have hz : (size - ((a : Int) + 1)).toNat ≤ 1000000 := by omega
  have hAm : ∀ r, r ∈ aheadL L a size → (a : Int) < r ∧ r < size ∧ ∀ f ∈ arn L r, f ∈ arn L a := fun r h => ahead_mem h
  have hA0 := ahead_some hL ha
  have hAl := ahead_len (L := L) (a := (a : Int)) (size := size) (by omega) hs2
  obtain ⟨A, hA⟩ : ∃ A, A = aheadL L a size := ⟨_, rfl⟩
  rw [← hA] at hca hAm hA0 hAl
  obtain ⟨D, hD⟩ : ∃ D, D = ((List.range (size - ((a : Int) + 1)).toNat).map fun (k : Nat) => PyData.int ((a : Int) + 1 + (k : Int))) := ⟨_, rfl⟩
  have hDl : D.length ≤ 1000000 := by rw [hD]; simp; omega
  rw [← hD] at hr2 hca
  have hcf : ∀ (h a' : AV) (st : Sto), lcL [] (gTup 2 (DL.gCons (gName 15) (DL.gCons (gName 16) gNil))) tYes (dVar 15) [.han 0, x1, .int size, .int m, x4, x5, x6, .dat (.tuple sz), .dat (.list (L.map encII)), .han 2, .han 3, .int (a : Int), h, a', y3, .un, .un, .un, .un] (L.map encII) st = some (L.map (fun p => .int p.1), st) := fun h a' st =>
    lcL_mapT encII _ rfl _ fun q hq => ⟨_, by simp [encII]; rfl, by simp⟩
  have hfi := firsts_in L a
  obtain ⟨F, hF⟩ : ∃ F, F = (L.map fun p => PyData.int p.1) := ⟨_, rfl⟩
  rw [← hF] at hfi hcf
  have hep := endsD_get hL a
  by_cases h1 : (a : Int) ∈ L.map (·.1)
  · simp only [h1, decide_true] at hfi
    simp [b__law_code_2, c_law_around _ _ hl, hr2, hca, hDl, hl2, hcf, hfi, -gIn_i]
    refine c_take hc (by omega) (by omega) (by omega) fun x c1 x0 x1' hc1 => ?_
    simp [hR2]
    exact ⟨rfl, _, _, _, c1, ("count", [1 + x]), rfl, by simp [encR], hc1.mono (by omega), pl_count (by omega) (by omega), by rw [if_pos h1]; rfl, fun h => absurd h (by simp [isJ]; decide), fun h => absurd (show ("count" : Str) = "end" from h) (by decide)⟩
  · simp only [h1, decide_false] at hfi
    cases he : endOf L a with
    | some f =>
      rw [he] at hep
      have hm1 := endOf_some he
      have hrng := hL.rng _ hm1
      simp only at hrng
      simp [b__law_code_2, c_law_around _ _ hl, hr2, hca, hDl, hl2, hcf, hfi, -gIn_i, hep, hR2]
      refine ⟨rfl, _, _, _, c, ("again", [f + 1]), rfl, by simp [encR], hc.mono (by omega), pl_again (by omega) (by omega), ?_, fun h => absurd h (by simp [isJ]; decide), fun h => absurd (show ("again" : Str) = "end" from h) (by decide)⟩
      rw [if_neg h1, he]
      rfl
    | none =>
      rw [he] at hep
      simp [b__law_code_2, c_law_around _ _ hl, hr2, hca, hDl, hl2, hcf, hfi, -gIn_i, hep]
      refine c_take hc (by omega) (by omega) (by omega) fun x c1 x0 x1' hc1 => ?_
      by_cases hx : x = 0
      · simp [hx]
        refine c_take hc1 (by omega) (by omega) (by omega) fun y c2 y0 y1' hc2 => ?_
        simp
        have hmin : (if (A.length : Int) < 3 then (A.length : Int) else 3) ≤ A.length := by split <;> omega
        refine c_take hc2 (by omega) (by split <;> omega) (by split <;> omega) fun z c3 z0 z1 hc3 => ?_
        simp
        refine c_take hc3 (by omega) (by omega) (by omega) fun u c4 u0 u1 hc4 => ?_
        have hpick : ∃ v, L2.atI [PyData.int y, PyData.int z] u = some (.int v) ∧ 0 ≤ v ∧ v < A.length := by
          have : u = 0 ∨ u = 1 := by omega
          rcases this with rfl | rfl
          · exact ⟨y, by simp, y0, y1'⟩
          · exact ⟨z, by simp, z0, by omega⟩
        obtain ⟨v, hv, v0, v1⟩ := hpick
        obtain ⟨to, hto, htm⟩ := atI_some (A.map PyData.int) v0 (by simpa using v1)
        obtain ⟨t, htA, rfl⟩ := List.mem_map.mp htm
        obtain ⟨t1, t2, t3⟩ := hAm t htA
        simp [hv, hto]
        refine c_take hc4 (by omega) (by omega) (by omega) fun s c5 s0 s1 hc5 => ?_
        simp
        refine c_take hc5 (by omega) (by omega) (by omega) fun w c6 w0 w1 hc6 => ?_
        have hd : L2.CDivW w 3 := ⟨by decide, by decide⟩
        have hkind : (RK.oth) = if (a : Int) ∈ L.map (·.1) then .cnt else match endOf L a with
          | some f => .agn (f + 1)
          | none => .oth := by rw [if_neg h1, he]
        have : w / 3 = 0 ∨ w / 3 = 1 := by omega
        rcases this with e | e
        · simp [hd, e, hR2]
          exact ⟨rfl, _, _, _, c6, ("test", [s, t]), rfl, by simp [encR], hc6.mono (by omega), pl_test s0 s1 (by omega) t2, hkind, fun _ => ⟨t1, t2, t3⟩, fun h => absurd (show ("test" : Str) = "end" from h) (by decide)⟩
        · simp [hd, e, hR2]
          exact ⟨rfl, _, _, _, c6, ("go", [t]), rfl, by simp [encR], hc6.mono (by omega), pl_go (by omega) t2, hkind, fun _ => ⟨t1, t2, t3⟩, fun h => absurd (show ("go" : Str) = "end" from h) (by decide)⟩
      · simp [hx]
        refine c_plain hc1 (by omega) hm hm2 hsz hsh fun w c2 hc2 hw => ?_
        simp [hR2]
        refine ⟨rfl, _, _, _, c2, w, rfl, by simp, hc2.mono (by omega), hw.row _, ?_, fun h => absurd h (by rw [hw.nj]; simp), hw.ne⟩
        rw [if_neg h1, he]
        exact hw.oth
end LW
set_option Elab.async false
set_option linter.all false
set_option maxRecDepth 100000
set_option maxHeartbeats 4000000
namespace LW
open PySem DL LM
abbrev endR : TR := ("end", [])
theorem agains_mem : ∀ (ks : List RK) (a : Int) (p : Int × Int), p ∈ agains a ks ↔ ∃ (i : Nat) (n : Int), ks[i]? = some (.agn n) ∧ p = (n - 1, a + i)
  | [], a, p => by simp [agains]
  | k :: r, a, p => by
    have ih := agains_mem r (a + 1) p
    have step : (∃ (i : Nat) (n : Int), (k :: r)[i]? = some (.agn n) ∧ p = (n - 1, a + i)) ↔ (∃ n, k = .agn n ∧ p = (n - 1, a)) ∨ ∃ (i : Nat) (n : Int), r[i]? = some (.agn n) ∧ p = (n - 1, a + 1 + i) := by
      constructor
      · rintro ⟨i, n, h1, h2⟩
        cases i with
        | zero => simp at h1; exact .inl ⟨n, h1, by simpa using h2⟩
        | succ i => exact .inr ⟨i, n, by simpa using h1, by rw [h2]; congr 1; push_cast; omega⟩
      · rintro (⟨n, h1, h2⟩ | ⟨i, n, h1, h2⟩)
        · exact ⟨0, n, by simp [h1], by simpa using h2⟩
        · exact ⟨i + 1, n, by simpa using h1, by rw [h2]; congr 1; push_cast; omega⟩
    rw [step, ← ih]
    cases k with
    | cnt => simp [agains]
    | oth => simp [agains]
    | agn n => simp [agains]
theorem counts_mem : ∀ (ks : List RK) (a : Int) (x : Int), x ∈ counts a ks ↔ ∃ (i : Nat), ks[i]? = some .cnt ∧ x = a + i
  | [], a, p => by simp [counts]
  | k :: r, a, p => by
    have ih := counts_mem r (a + 1) p
    have step : (∃ (i : Nat), (k :: r)[i]? = some .cnt ∧ p = a + i) ↔ (k = .cnt ∧ p = a) ∨ ∃ (i : Nat), r[i]? = some .cnt ∧ p = a + 1 + i := by
      constructor
      · rintro ⟨i, h1, h2⟩
        cases i with
        | zero => simp at h1; exact .inl ⟨h1, by simpa using h2⟩
        | succ i => exact .inr ⟨i, by simpa using h1, by push_cast at h2; omega⟩
      · rintro (⟨h1, h2⟩ | ⟨i, h1, h2⟩)
        · exact ⟨0, by simp [h1], by simpa using h2⟩
        · exact ⟨i + 1, by simpa using h1, by push_cast; omega⟩
    rw [step, ← ih]
    cases k with
    | cnt => simp [counts]
    | oth => simp [counts]
    | agn n => simp [counts]
theorem agains_nodup : ∀ (ks : List RK) (a : Int), (agains a ks).Nodup
  | [], _ => by simp [agains]
  | .cnt :: r, a => by simpa [agains] using agains_nodup r (a + 1)
  | .oth :: r, a => by simpa [agains] using agains_nodup r (a + 1)
  | .agn n :: r, a => by
    simp only [agains]
    refine List.nodup_cons.mpr ⟨fun h => ?_, agains_nodup r (a + 1)⟩
    have := (agains_ge r (a + 1) _ h).1
    simp only at this; omega
theorem counts_nodup (ks : List RK) (a : Int) : (counts a ks).Nodup := (counts_sorted ks a).imp fun h => by omega
structure Drawn (m na size : Int) (L : List (Int × Int)) (Rs : List TR) : Prop where
  len : (Rs.length : Int) = size - 1
  at_ : ∀ j r, Rs[j]? = some r → RowAt m na size L j r
theorem endOf_is {size : Int} {L : List (Int × Int)} (h : LoopsOk size L) {p : Int × Int} (hp : p ∈ L) : endOf L p.2 = some p.1 := by
  have hs : (L.find? fun q => decide (q.2 = p.2)).isSome = true := List.find?_isSome.mpr ⟨p, hp, by simp⟩
  obtain ⟨q, hq⟩ := Option.isSome_iff_exists.mp hs
  have h1 := List.find?_some hq
  have h2 : q.2 = p.2 := by simpa using h1
  have h3 := List.mem_of_find?_eq_some hq
  unfold endOf
  rw [hq]
  by_cases e : q = p
  · rw [e]; rfl
  · exfalso
    have hpw := h.ap
    have ha : apart q p := by
      have hmem := List.mem_iff_getElem.mp h3
      have hmem2 := List.mem_iff_getElem.mp hp
      obtain ⟨i, hi, ei⟩ := hmem
      obtain ⟨j, hj, ej⟩ := hmem2
      have hij : i ≠ j := by intro z; subst z; exact e (by rw [← ei, ← ej])
      have hg := List.pairwise_iff_getElem.mp hpw
      rcases Nat.lt_or_gt_of_ne hij with hlt | hlt
      · have := hg i j hi hj hlt; rwa [ei, ej] at this
      · have := hg j i hj hi hlt; rw [ei, ej] at this; exact apart_symm this
    have r1 := h.rng q h3
    have r2 := h.rng p hp
    unfold apart at ha; omega
theorem not_first {size : Int} {L : List (Int × Int)} (h : LoopsOk size L) {p : Int × Int} (hp : p ∈ L) : ¬ p.2 ∈ L.map (·.1) := by
  intro hm
  obtain ⟨q, hq, e⟩ := List.mem_map.mp hm
  have r1 := h.rng q hq
  have r2 := h.rng p hp
  by_cases z : q = p
  · subst z; omega
  · have ha : apart q p := by
      obtain ⟨i, hi, ei⟩ := List.mem_iff_getElem.mp hq
      obtain ⟨j, hj, ej⟩ := List.mem_iff_getElem.mp hp
      have hij : i ≠ j := by intro z'; subst z'; exact z (by rw [← ei, ← ej])
      have hg := List.pairwise_iff_getElem.mp h.ap
      rcases Nat.lt_or_gt_of_ne hij with hlt | hlt
      · have := hg i j hi hj hlt; rwa [ei, ej] at this
      · have := hg j i hj hi hlt; rw [ei, ej] at this; exact apart_symm this
    unfold apart at ha; omega
theorem L_nodup {size : Int} {L : List (Int × Int)} (h : LoopsOk size L) : L.Nodup := h.ap.imp_of_mem fun {a b} ha hb hab => by
  intro e; subst e
  have := h.rng a ha
  unfold apart at hab; omega
theorem fst_nodup {size : Int} {L : List (Int × Int)} (h : LoopsOk size L) : (L.map (·.1)).Nodup := by
  rw [List.Nodup, List.pairwise_map]
  exact h.ap.imp_of_mem fun {a b} ha hb hab => by
    have r1 := h.rng a ha
    have r2 := h.rng b hb
    unfold apart at hab; omega
theorem rows_kind {m na size : Int} {L : List (Int × Int)} {Rs : List TR} (h : Drawn m na size L Rs) (i : Nat) (k : RK) (hk : k ≠ .oth) : (kinds (Rs ++ [endR]))[i]? = some k ↔ i < Rs.length ∧ k = if (i : Int) ∈ L.map (·.1) then .cnt else match endOf L i with
    | some f => .agn (f + 1)
    | none => .oth := by
  simp only [kinds, List.map_append, List.map_cons, List.map_nil]
  by_cases hi : i < Rs.length
  · rw [List.getElem?_append_left (by simpa using hi), List.getElem?_map, List.getElem?_eq_getElem hi]
    have := (h.at_ i _ (List.getElem?_eq_getElem hi)).kind
    simp only [Option.map_some, this, Option.some.injEq, hi, true_and]
    exact eq_comm
  · rw [List.getElem?_append_right (by simpa using hi)]
    simp only [hi, false_and, iff_false]
    intro e
    have : i - (Rs.map rk).length = 0 := by
      have := (List.getElem?_eq_some_iff.mp e).1
      simp at this; simp; omega
    rw [this] at e
    simp at e
    exact hk (by rw [← e]; rfl)
theorem drawn_ags {m na size : Int} {L : List (Int × Int)} {Rs : List TR} (hL : LoopsOk size L) (h : Drawn m na size L Rs) : (agains 0 (kinds (Rs ++ [endR]))).Perm L := by
  refine (List.perm_ext_iff_of_nodup (agains_nodup _ _) (L_nodup hL)).mpr fun p => ?_
  rw [agains_mem]
  constructor
  · rintro ⟨i, n, h1, rfl⟩
    obtain ⟨hi, h2⟩ := (rows_kind h i _ (by simp)).mp h1
    split at h2
    · cases h2
    · cases he : endOf L i with
      | none => rw [he] at h2; cases h2
      | some f =>
        rw [he] at h2
        cases h2
        have := endOf_some he
        simpa using this
  · intro hp
    have r := hL.rng p hp
    have e := endOf_is hL hp
    have hl := h.len
    refine ⟨p.2.toNat, p.1 + 1, (rows_kind h _ _ (by simp)).mpr ⟨by omega, ?_⟩, ?_⟩
    · have e2 : ((p.2.toNat : Nat) : Int) = p.2 := by omega
      rw [e2, if_neg (not_first hL hp), e]
    · have e2 : ((p.2.toNat : Nat) : Int) = p.2 := by omega
      rw [e2, Int.zero_add, Int.add_sub_cancel]
theorem drawn_cnt {m na size : Int} {L : List (Int × Int)} {Rs : List TR} (hL : LoopsOk size L) (h : Drawn m na size L Rs) : (counts 0 (kinds (Rs ++ [endR]))).Perm (L.map (·.1)) := by
  refine (List.perm_ext_iff_of_nodup (counts_nodup _ _) (fst_nodup hL)).mpr fun x => ?_
  rw [counts_mem]
  constructor
  · rintro ⟨i, h1, rfl⟩
    obtain ⟨hi, h2⟩ := (rows_kind h i _ (by simp)).mp h1
    split at h2
    · rename_i hx
      rwa [Int.zero_add]
    · cases he : endOf L i with
      | none => rw [he] at h2; cases h2
      | some f => rw [he] at h2; cases h2
  · intro hx
    obtain ⟨p, hp, rfl⟩ := List.mem_map.mp hx
    have r := hL.rng p hp
    have hl := h.len
    have e2 : ((p.1.toNat : Nat) : Int) = p.1 := by omega
    refine ⟨p.1.toNat, (rows_kind h _ _ (by simp)).mpr ⟨by omega, ?_⟩, by omega⟩
    rw [e2, if_pos hx]
theorem endsAt_app : ∀ (Rs : List TR) (k : Nat), (∀ r ∈ Rs, ¬ r.1 = "end") → endsAt k (Rs ++ [endR]) = [((k + Rs.length : Nat) : Int)]
  | [], k, _ => by simp [endsAt, isEndR]
  | r :: Rs, k, h => by
    have h1 : isEndR r = false := by simp [isEndR, h r (by simp)]
    simp only [List.cons_append, endsAt, h1]
    have := endsAt_app Rs (k + 1) fun r hr => h r (by simp [hr])
    rw [if_neg (by simp), this, List.length_cons]
    congr 2
    omega
theorem drawn_good {m na size : Int} {L : List (Int × Int)} {Rs : List TR} (hL : LoopsOk size L) (h : Drawn m na size L Rs) : goodRows (Rs ++ [endR]) = true := by
  have hl := h.len
  have P := drawn_ags hL h
  have P2 := drawn_cnt hL h
  unfold goodRows
  simp only [Bool.and_eq_true, decide_eq_true_eq]
  refine ⟨⟨?_, (loops_iff _).mpr ⟨?_, ?_, ?_, ?_⟩⟩, ?_⟩
  · rw [endsAt_app Rs 0 (fun r hr => by
      obtain ⟨i, hi, e⟩ := List.mem_iff_getElem.mp hr
      exact (h.at_ i r (by rw [List.getElem?_eq_getElem hi, e])).ne)]
    simp
  · rw [List.nil_append]
    exact (P.map (·.1)).trans P2.symm
  · intro p hp
    exact (hL.rng p (P.subset hp)).2.1
  · exact (P.pairwise_iff (fun h => apart_symm h)).mpr hL.ap
  · intro x _ _
    rw [(P.filter (inR x)).length_eq]
    exact Nat.le_trans (List.length_filter_le _ _) hL.len
  · unfold areJumpsB
    rw [allFrom_iff]
    intro i r hi
    rw [Nat.zero_add]
    have key : ∀ x f, f ∈ arn (isort leII (agains 0 (kinds (Rs ++ [endR])))) x ↔ f ∈ arn L x := fun x f => by
      unfold arn
      exact (((((isort_perm (le := leII) _).trans P).filter (inR x)).map (·.1)).mem_iff)
    unfold jumpOk
    cases hj : isJ r with
    | false => rfl
    | true =>
      have hlt : i < Rs.length := by
        by_cases hlt : i < Rs.length
        · exact hlt
        · exfalso
          rw [List.getElem?_append_right (by omega)] at hi
          have : i - Rs.length = 0 := by
            have := (List.getElem?_eq_some_iff.mp hi).1
            simp at this; omega
          rw [this] at hi
          simp at hi
          rw [← hi] at hj
          exact absurd hj (by decide)
      rw [List.getElem?_append_left hlt] at hi
      obtain ⟨h1, h2, h3⟩ := (h.at_ i r hi).jump hj
      simp only [Bool.not_true, Bool.false_or, Bool.and_eq_true, decide_eq_true_eq, List.all_eq_true]
      exact ⟨h1, fun f hf => (key _ _).mpr (h3 f ((key _ _).mp hf))⟩
theorem drawn_rows {m na size : Int} {L : List (Int × Int)} {Rs : List TR} (hL : LoopsOk size L) (h : Drawn m na size L Rs) (h1 : 1 ≤ size) (h2 : size ≤ 60) : areRows m na ((Rs ++ [endR]).map encR) = true := by
  have hl := h.len
  have hlen : ((Rs ++ [endR]).map encR).length = Rs.length + 1 := by simp
  unfold areRows
  rw [typed_map, drawn_good hL h, hlen]
  have e : ((Rs.length + 1 : Nat) : Int) = size := by push_cast; omega
  simp only [Bool.and_eq_true, decide_eq_true_eq, and_true, List.all_eq_true]
  refine ⟨⟨by omega, by omega⟩, fun d hd => ?_⟩
  rw [e]
  obtain ⟨r, hr, rfl⟩ := List.mem_map.mp hd
  rcases List.mem_append.mp hr with hr | hr
  · obtain ⟨i, hi, e⟩ := List.mem_iff_getElem.mp hr
    exact (h.at_ i r (by rw [List.getElem?_eq_getElem hi, e])).row
  · simp at hr
    subst hr
    exact isRow_of (ks := []) rfl rfl (by simp [zipD])
end LW
set_option Elab.async false
set_option linter.all false
set_option maxRecDepth 100000
set_option maxHeartbeats 4000000
namespace LW
open PySem DL LM
/-! ### how long what is shown gets -/
theorem tup_len (ts : List Str) : (tupleText ts).length ≤ piled ts + 3 := by
  unfold tupleText
  rw [strLen_append, strLen_append]
  have e1 : ((("(" : String) : Str)).length = 1 := rfl
  have e3 : (((if ts.length == 1 then ",)" else ")" : String) : Str)).length ≤ 2 := by split <;> decide
  rw [e1]
  by_cases h : ts = []
  · subst h
    have : (Str.join ", " []).length = 0 := rfl
    omega
  · have := join_length_add ts h
    omega
theorem lst_len : ∀ ts : List Str, (listText ts).length ≤ piled ts + 3
  | [] => by rw [show (listText []) = ("[]" : Str) from listText_nil]; decide
  | t :: r => by
    have h := textFrom_length_pos r 1 (("[" : Str) ++ (if (0 : Nat) > 0 then ", " else "" : String) ++ t) (Nat.succ_pos 0)
    have e : ((("[" : Str) ++ (if (0 : Nat) > 0 then ", " else "" : String) ++ t)).length = 1 + t.length := by
      rw [strLen_append, strLen_append]; rfl
    have hX : (listText (t :: r)).length = (textFrom 0 "[" (t :: r)).length + 1 := by
      show (textFrom 0 "[" (t :: r) ++ "]").length = _
      rw [strLen_append]; rfl
    have hY : (textFrom 0 "[" (t :: r)).length = (textFrom 1 (("[" : Str) ++ (if (0 : Nat) > 0 then ", " else "" : String) ++ t) r).length := rfl
    rw [hX, hY, h, e, piled_cons]; omega
mutual
def gd (b : Nat) : PyData → Bool
  | .none => true
  | .bool _ => true
  | .int i => decide (i.natAbs ≤ b)
  | .str x => decide ((reprText x).length ≤ 1000)
  | .list xs => gdAll b xs
  | .tuple xs => gdAll b xs
  | .dict kvs => kvs.isEmpty
def gdAll (b : Nat) : List PyData → Bool
  | [] => true
  | x :: xs => gd b x && gdAll b xs
end
mutual
def wt : PyData → Nat
  | .list xs => 3 + wtAll xs
  | .tuple xs => 3 + wtAll xs
  | .none => 2000
  | .bool _ => 2000
  | .int _ => 2000
  | .str _ => 2000
  | .dict _ => 2000
def wtAll : List PyData → Nat
  | [] => 0
  | x :: xs => wt x + 2 + wtAll xs
end
theorem log_le {i : Int} {b : Nat} (h : i.natAbs ≤ b) (hb : b ≤ 10 ^ 50) : i.natAbs.log2 < 1920 := by
  have h2 : i.natAbs < 2 ^ 200 := by omega
  have := log_small h2 (by omega)
  omega
mutual
theorem gd_shown {b : Nat} (hb : b ≤ 10 ^ 50) : ∀ d : PyData, gd b d = true → d.showable = true ∧ d.shown.length ≤ wt d
  | .none, _ => by simp only [PyData.showable, PyData.shown, wt]; exact ⟨trivial, by decide⟩
  | .bool k, _ => by
    simp only [PyData.showable, PyData.shown, wt]
    cases k <;> exact ⟨trivial, by decide⟩
  | .int i, h => by
    simp only [gd, decide_eq_true_eq] at h
    have h2 := log_le h hb
    simp only [PyData.showable, PyData.shown, wt]
    refine ⟨by simpa using h2, ?_⟩
    have := PyProof.Rows.int_text_len_1921 h2
    exact Nat.le_trans this (by omega)
  | .str x, h => by
    simp only [gd, decide_eq_true_eq] at h
    simp only [PyData.showable, PyData.shown, wt]
    exact ⟨trivial, by omega⟩
  | .list xs, h => by
    simp only [gd] at h
    have := gd_shownAll hb xs h
    have h2 := lst_len (PyData.shownAll xs)
    simp only [PyData.showable, PyData.shown, wt]
    exact ⟨this.1, by omega⟩
  | .tuple xs, h => by
    simp only [gd] at h
    have := gd_shownAll hb xs h
    have h2 := tup_len (PyData.shownAll xs)
    simp only [PyData.showable, PyData.shown, wt]
    exact ⟨this.1, by omega⟩
  | .dict [], h => by
    simp only [PyData.showable, PyData.showableKv, PyData.shown, PyData.shownKv, wt]
    exact ⟨trivial, by decide⟩
  | .dict (_ :: _), h => by simp [gd] at h
theorem gd_shownAll {b : Nat} (hb : b ≤ 10 ^ 50) : ∀ xs : List PyData, gdAll b xs = true → PyData.showableAll xs = true ∧ piled (PyData.shownAll xs) ≤ wtAll xs
  | [], _ => by simp only [PyData.showableAll, PyData.shownAll, wtAll]; exact ⟨trivial, by decide⟩
  | x :: xs, h => by
    simp only [gdAll, Bool.and_eq_true] at h
    have h1 := gd_shown hb x h.1
    have h2 := gd_shownAll hb xs h.2
    simp only [PyData.showableAll, PyData.shownAll, wtAll, piled_cons, Bool.and_eq_true]
    exact ⟨⟨h1.1, h2.1⟩, by omega⟩
end
theorem gdAll_iff {b : Nat} : ∀ {xs : List PyData}, gdAll b xs = true ↔ ∀ x ∈ xs, gd b x = true
  | [] => by simp [gdAll]
  | x :: xs => by simp [gdAll, gdAll_iff (xs := xs)]
theorem wtAll_app : ∀ (xs ys : List PyData), wtAll (xs ++ ys) = wtAll xs + wtAll ys
  | [], ys => by simp [wtAll]
  | x :: xs, ys => by simp [wtAll, wtAll_app xs ys]; omega
theorem wtAll_len : ∀ (xs : List PyData), 2 * xs.length ≤ wtAll xs
  | [] => by simp [wtAll]
  | x :: xs => by have := wtAll_len xs; simp [wtAll]; omega
theorem wtAll_le {k : Nat} : ∀ {xs : List PyData}, (∀ x ∈ xs, wt x ≤ k) → wtAll xs ≤ xs.length * (k + 2)
  | [], _ => by simp [wtAll]
  | x :: xs, h => by
    have h1 := wtAll_le (xs := xs) fun y hy => h y (by simp [hy])
    have h2 := h x (by simp)
    simp only [wtAll, List.length_cons, Nat.succ_mul]
    omega
theorem depthAll_iff {k : Nat} : ∀ {xs : List PyData}, PyData.depthAll xs ≤ k ↔ ∀ x ∈ xs, x.depth ≤ k
  | [] => by simp [PyData.depthAll]
  | x :: xs => by
    simp only [PyData.depthAll, List.forall_mem_cons, ← depthAll_iff (xs := xs)]
    omega
theorem wt_mem {x : PyData} : ∀ {xs : List PyData}, x ∈ xs → wt x + 2 ≤ wtAll xs
  | y :: ys, h => by
    simp only [wtAll]
    rcases List.mem_cons.mp h with rfl | h
    · omega
    · have := wt_mem h; omega
structure Sm (b w k : Nat) (d : PyData) : Prop where
  g : gd b d = true
  w : wt d ≤ w
  d : d.depth ≤ k
theorem Sm.can {b w k : Nat} {d : PyData} (h : Sm b w k d) (hb : b ≤ 10 ^ 50) (hw : w ≤ 10000000) (hk : k ≤ 60) : canShow d = true := by
  have := gd_shown hb d h.g
  have h1 := h.w
  have h2 := h.d
  simp only [canShow, Bool.and_eq_true, decide_eq_true_eq]
  exact ⟨⟨this.1, by omega⟩, by omega⟩
mutual
theorem gd_mono {b c : Nat} (h : b ≤ c) : ∀ d : PyData, gd b d = true → gd c d = true
  | .none, _ => by simp only [gd]
  | .bool _, _ => by simp only [gd]
  | .int i, q => by simp only [gd, decide_eq_true_eq] at q ⊢; omega
  | .str x, q => by simp only [gd] at q ⊢; exact q
  | .list xs, q => by simp only [gd] at q ⊢; exact gdAll_mono h xs q
  | .tuple xs, q => by simp only [gd] at q ⊢; exact gdAll_mono h xs q
  | .dict kvs, q => by simp only [gd] at q ⊢; exact q
theorem gdAll_mono {b c : Nat} (h : b ≤ c) : ∀ xs : List PyData, gdAll b xs = true → gdAll c xs = true
  | [], _ => by simp only [gdAll]
  | x :: xs, q => by
    simp only [gdAll, Bool.and_eq_true] at q ⊢
    exact ⟨gd_mono h x q.1, gdAll_mono h xs q.2⟩
end
theorem Sm.mono {b w k b' w' k' : Nat} {d : PyData} (h : Sm b w k d) (h1 : b ≤ b') (h2 : w ≤ w') (h3 : k ≤ k') : Sm b' w' k' d :=
  ⟨gd_mono h1 d h.g, Nat.le_trans h.w h2, Nat.le_trans h.d h3⟩
theorem Sm.tup {b k : Nat} {xs : List PyData} (h : ∀ x ∈ xs, gd b x = true ∧ x.depth ≤ k) : Sm b (3 + wtAll xs) (k + 1) (.tuple xs) :=
  ⟨by simp only [gd]; exact gdAll_iff.mpr fun x hx => (h x hx).1, by simp only [wt]; exact Nat.le_refl _, by
    simp only [PyData.depth]
    have := (depthAll_iff (xs := xs) (k := k)).mpr fun x hx => (h x hx).2
    omega⟩
theorem Sm.lst {b k : Nat} {xs : List PyData} (h : ∀ x ∈ xs, gd b x = true ∧ x.depth ≤ k) : Sm b (3 + wtAll xs) (k + 1) (.list xs) :=
  ⟨by simp only [gd]; exact gdAll_iff.mpr fun x hx => (h x hx).1, by simp only [wt]; exact Nat.le_refl _, by
    simp only [PyData.depth]
    have := (depthAll_iff (xs := xs) (k := k)).mpr fun x hx => (h x hx).2
    omega⟩
theorem Sm.part {b w k : Nat} {xs : List PyData} (h : Sm b w k (.tuple xs)) : ∀ x ∈ xs, gd b x = true ∧ x.depth ≤ k - 1 ∧ wt x + 2 ≤ wtAll xs := fun x hx => by
  have h1 := h.g
  simp only [gd] at h1
  have h2 := h.d
  simp only [PyData.depth] at h2
  exact ⟨gdAll_iff.mp h1 x hx, (depthAll_iff (xs := xs) (k := k - 1)).mp (by omega) x hx, wt_mem hx⟩
end LW
set_option Elab.async false
set_option linter.all false
set_option maxRecDepth 100000
set_option maxHeartbeats 4000000
namespace LW
open PySem DL LM
theorem part_small {m na nr : Int} (hm : m ≤ 1000) (hna : na ≤ 1000) (hnr : nr ≤ 1000) {k d : PyData} (h : isPart m na nr k d = true) : gd 1000 d = true ∧ wt d = 2000 ∧ d.depth = 0 := by
  unfold isPart at h
  split at h
  · split at h
    · rename_i s _ a b hv
      have hv := valP_mem hv
      obtain ⟨i, rfl, h1, h2⟩ := isBetween_iff.mp h
      have : 0 ≤ a ∧ b ≤ 1000 := by
        simp only [lims, List.mem_cons, List.not_mem_nil, or_false, Prod.mk.injEq, PyData.tuple.injEq, List.cons.injEq, PyData.int.injEq, and_true] at hv
        rcases hv with ⟨-, rfl, rfl⟩ | ⟨-, rfl, rfl⟩ | ⟨-, rfl, rfl⟩ | ⟨-, rfl, rfl⟩ | ⟨-, rfl, rfl⟩ <;> omega
      exact ⟨by simp only [gd, decide_eq_true_eq]; omega, by simp only [wt], by simp only [PyData.depth]⟩
    · cases h
  · cases h
theorem word_small {w : Str} {y : PyData} (h : tabGet tab_FORMS w = some y) : gd 1000 (.str w) = true := by
  have h := tabGet_mem h
  simp only [tab_FORMS, List.mem_cons, List.not_mem_nil, or_false, Prod.mk.injEq] at h
  simp only [gd]
  rcases h with h | h | h | h | h | h | h | h | h | h | h | h | h | h | h <;> obtain ⟨rfl, -⟩ := h <;> decide +kernel
theorem zipD_part : ∀ {ps ks : List PyData} {f : PyData → PyData → Bool}, ps.length = ks.length → ((zipD ps ks).all fun z => match z with
    | .tuple [p, k] => f k p
    | _ => false) = true → ∀ p ∈ ps, ∃ k, f k p = true
  | [], _, _, _, _, p, hp => by cases hp
  | x :: ps, [], _, hl, _, p, hp => by simp at hl
  | x :: ps, k :: ks, f, hl, h, p, hp => by
    simp only [zipD, List.all_cons, Bool.and_eq_true] at h
    rcases List.mem_cons.mp hp with rfl | hp
    · exact ⟨k, h.1⟩
    · exact zipD_part (by simpa using hl) h.2 p hp
theorem row_small {m na nr : Int} (hm : m ≤ 1000) (hna : na ≤ 1000) (hnr : nr ≤ 1000) {d : PyData} (h : isRow m na nr d = true) : gd 1000 d = true ∧ wt d ≤ 8100 ∧ d.depth ≤ 1 := by
  unfold isRow at h
  split at h
  · rename_i w ps
    split at h
    · rename_i ks hw
      obtain ⟨hl, hz⟩ := Bool.and_eq_true_iff.mp h
      have hl := of_decide_eq_true hl
      obtain ⟨ks', e, hk3, _⟩ := forms_ok (m := m) (na := na) (nr := nr) hw
      cases e
      have hp : ∀ p ∈ ps, gd 1000 p = true ∧ wt p = 2000 ∧ p.depth = 0 := fun p hp => by
        obtain ⟨k, hk⟩ := zipD_part (f := isPart m na nr) hl hz p hp
        exact part_small hm hna hnr hk
      have hwt := wtAll_le (k := 2000) (xs := ps) fun p h => by rw [(hp p h).2.1]; omega
      have hd := (depthAll_iff (xs := ps) (k := 0)).mpr fun p h => by rw [(hp p h).2.2]; omega
      refine ⟨?_, ?_, ?_⟩
      · simp only [gd, gdAll, Bool.and_eq_true]
        exact ⟨by have := word_small hw; simp only [gd] at this; exact this, gdAll_iff.mpr fun p h => (hp p h).1⟩
      · simp only [wt, wtAll]
        have : ps.length * (2000 + 2) ≤ 3 * 2002 := by omega
        omega
      · simp only [PyData.depth, PyData.depthAll]; omega
    · cases h
  · cases h
theorem sp_small (p : Int × Int) (h : 0 ≤ p.1 ∧ p.1 ≤ p.2 ∧ p.2 ≤ 255) : gd 1000 (encII p) = true ∧ wt (encII p) = 4007 ∧ (encII p).depth = 1 := by
  refine ⟨?_, ?_, ?_⟩
  · simp only [encII, gd, gdAll, Bool.and_true, Bool.and_eq_true, decide_eq_true_eq]; omega
  · simp only [encII, wt, wtAll]
  · simp [encII, PyData.depth, PyData.depthAll]
def aBody (n : Nat) (x0 x1 x2 x3 t : AV) (as : List (Int × Int)) (q : Fl × List AV × Sto) : Prop := q.1 = .nx ∧ ∃ y c' p, q.2.1 = [x0, x1, x2, x3, .han 1, t, y, .un, .un, .un, .un, .un, .un, .un, .un, .un, .un, .un, .un] ∧ q.2.2 = [c', some (.lst ((as ++ [p]).map encII))] ∧ PotC (n + 4) c' ∧ 0 ≤ p.1 ∧ p.1 ≤ p.2 ∧ p.2 ≤ 255
theorem body_asks {n : Nat} {x1 x2 x3 t y : AV} {c : Option MO} {as : List (Int × Int)} (hc : PotC n c) (hn : n ≤ 700000) (ha : as.length ≤ 100) :
    Ev (b__law_code_1 [.han 0, x1, x2, x3, .han 1, t, y, .un, .un, .un, .un, .un, .un, .un, .un, .un, .un, .un, .un] [c, some (.lst (as.map encII))]) (aBody n (.han 0) x1 x2 x3 t as) := by
  have hal : as.length < 1000000 := by omega
  simp [b__law_code_1]
  refine c_take hc (by omega) (by omega) (by omega) fun x c1 x0 x1' hc1 => ?_
  simp
  refine c_take hc1 (by omega) (by omega) (by omega) fun u c2 u0 u1 hc2 => ?_
  have hpick : ∃ lo, L2.atI [PyData.int 0, .int 1, .int 254, .int x] u = some (.int lo) ∧ 0 ≤ lo ∧ lo ≤ 254 := by
    have : u = 0 ∨ u = 1 ∨ u = 2 ∨ u = 3 := by omega
    rcases this with rfl | rfl | rfl | rfl
    · exact ⟨0, by simp, by omega, by omega⟩
    · exact ⟨1, by simp, by omega, by omega⟩
    · exact ⟨254, by simp, by omega, by omega⟩
    · exact ⟨x, by simp, by omega, by omega⟩
  obtain ⟨lo, hlo, l0, l1⟩ := hpick
  simp [hlo]
  refine c_take hc2 (by omega) (by split <;> omega) (by split <;> omega) fun d c3 d0 d1 hc3 => ?_
  simp [hal]
  have d2 : d < 256 - lo := by split at d1 <;> omega
  exact ⟨rfl, _, c3, (lo, lo + d), rfl, by simp [encII], hc3.mono (by omega), l0, by simp; omega, by simp; omega⟩
theorem kvsOf_map (L : List (Int × Int)) : kvsOf (L.map fun p => .tuple [.int p.2, .int p.1]) = some (L.map fun p => (.inl p.2, .int p.1)) := by
  induction L with
  | nil => rfl
  | cons p r ih =>
    simp only [List.map_cons, kvsOf, keyOf, Option.bind_some, ih, Option.map_some]
def CodeOk (d : PyData) : Prop := isCode d = true ∧ Sm 1000 520000 3 d ∧ ∃ a b c e f, d = .tuple [a, b, c, e, f] ∧ ∃ rs, f = .tuple rs
def CodeRes (n : Nat) (r : AV × Sto) : Prop := ∃ d c', r = (.dat d, [c']) ∧ PotC (n + 1000) c' ∧ CodeOk d
end LW
set_option Elab.async false
set_option linter.all false
set_option maxRecDepth 100000
set_option maxHeartbeats 4000000
namespace LW
open PySem DL LM
theorem dDictP_ap {S : List AV} {st : Sto} {ds : DAs} : dDictP ds S st = bd (ds S st) fun p => match p.1 with
  | [v] => bd (rd p.2 v) fun d => match d with
    | .list xs => mp (fun kvs => (.han p.2.length, p.2 ++ [some (.dK (mergeP [] kvs))])) (kvsOf xs)
    | _ => none
  | _ => none := nr rfl
def restC : DSt := sSeq d__law_code_5 (sSeq d__law_code_6 (sSeq d__law_code_7 (sSeq d__law_code_8 d__law_code_9)))
theorem code_split : d__law_code = sSeq d__law_code_0 (sSeq d__law_code_1 (sSeq d__law_code_2 (sSeq d__law_code_3 (sSeq d__law_code_4 restC)))) := rfl
def RInv (n : Nat) (x1 : AV) (size m : Int) (x4 x5 x6 : AV) (sz : List PyData) (L : List (Int × Int)) (as : Option MO) (i : Nat) (S : List AV) (st : Sto) : Prop := ∃ (y0 y1 y2 y3 : AV) (c' : Option MO) (Rs : List TR), S = cSl (.han 0) x1 size m x4 x5 x6 sz L y0 y1 y2 y3 ∧ st = [c', as, some (.dK (endsD L)), some (.lst (Rs.map encR))] ∧ PotC (n + 10 * i) c' ∧ Rs.length = i ∧ (i : Int) ≤ size - 1 ∧ ∀ j r, Rs[j]? = some r → RowAt m sz.length size L j r
def Asks (as : List (Int × Int)) : Prop := ∀ p ∈ as, 0 ≤ p.1 ∧ p.1 ≤ p.2 ∧ p.2 ≤ 255
def Sizes (sz : List Int) : Prop := sz.length ≤ 2 ∧ ∀ x ∈ sz, 1 ≤ x ∧ x ≤ 6
theorem code_fin {m size s : Int} {as : List (Int × Int)} {sz : List Int} {L : List (Int × Int)} {Rs : List TR} (hL : LoopsOk size L) (hD : Drawn m sz.length size L Rs) (hA : Asks as) (hal : as.length ≤ 3) (ham : (as.length : Int) ≤ m) (hS : Sizes sz) (m1 : 1 ≤ m) (m2 : m ≤ 16) (s0 : 0 ≤ s) (s1 : s ≤ m) (z1 : 1 ≤ size) (z2 : size ≤ 60) :
    CodeOk (.tuple [.tuple (as.map encII), .int m, .int s, .tuple (sz.map .int), .tuple ((Rs ++ [endR]).map encR)]) := by
  have hr := drawn_rows (na := sz.length) hL hD z1 z2
  refine ⟨?_, ?_, _, _, _, _, _, rfl, _, rfl⟩
  · have h1 : (as.map encII).all isSpan = true := by
      rw [List.all_eq_true]
      intro d hd
      obtain ⟨p, hp, rfl⟩ := List.mem_map.mp hd
      have := hA p hp
      simp [encII, isSpan, isBetween]; omega
    have h2 : mxl (as.map encII) ≤ m := by unfold mxl; simp; split <;> omega
    have h3 : ((sz.map PyData.int).all fun d => isBetween d 1 6) = true := by
      rw [List.all_eq_true]
      intro d hd
      obtain ⟨x, hx, rfl⟩ := List.mem_map.mp hd
      have := hS.2 x hx
      simp [isBetween]; omega
    have h4 : (sz.map PyData.int).length ≤ 2 := by simpa using hS.1
    have h5 : (as.map encII).length ≤ 3 := by simpa using hal
    have h6 : areRows m ((sz.map PyData.int).length : Nat) ((Rs ++ [endR]).map encR) = true := by simpa using hr
    unfold isCode
    have h7 : isBetween (.int s) 0 m = true := by simp [isBetween, s0, s1]
    simp only [isCode5, codeIn, h1, h2, h3, h4, h5, h6, h7, m2, decide_true, Bool.true_and, Bool.and_true]
  · have hrow : ∀ d ∈ (Rs ++ [endR]).map encR, gd 1000 d = true ∧ wt d ≤ 8100 ∧ d.depth ≤ 1 := fun d hd => by
      have ha : ((Rs ++ [endR]).map encR).all (isRow m sz.length ((Rs ++ [endR]).map encR).length) = true := by
        unfold areRows at hr
        simp only [Bool.and_eq_true] at hr
        exact hr.1.2
      have hlen := hD.len
      exact row_small (by omega) (by have := hS.1; omega) (by simp; omega) (List.all_eq_true.mp ha d hd)
    have hrl : ((Rs ++ [endR]).map encR).length ≤ 60 := by have := hD.len; simp; omega
    have hrw := wtAll_le (k := 8100) fun d hd => (hrow d hd).2.1
    have hask : ∀ d ∈ as.map encII, gd 1000 d = true ∧ wt d = 4007 ∧ d.depth = 1 := fun d hd => by
      obtain ⟨p, hp, rfl⟩ := List.mem_map.mp hd
      exact sp_small p (hA p hp)
    have haw := wtAll_le (k := 4007) (xs := as.map encII) fun d hd => by rw [(hask d hd).2.1]; omega
    have hal' : (as.map encII).length ≤ 3 := by simpa using hal
    have hsz : ∀ d ∈ sz.map PyData.int, gd 1000 d = true ∧ wt d = 2000 ∧ d.depth = 0 := fun d hd => by
      obtain ⟨x, hx, rfl⟩ := List.mem_map.mp hd
      have := hS.2 x hx
      exact ⟨by simp only [gd, decide_eq_true_eq]; omega, by simp only [wt], by simp only [PyData.depth]⟩
    have hsw := wtAll_le (k := 2000) (xs := sz.map PyData.int) fun d hd => by rw [(hsz d hd).2.1]; omega
    have hsl' : (sz.map PyData.int).length ≤ 2 := by simpa using hS.1
    have d1 := (depthAll_iff (k := 1) (xs := (Rs ++ [endR]).map encR)).mpr fun d hd => (hrow d hd).2.2
    have d2 := (depthAll_iff (k := 1) (xs := as.map encII)).mpr fun d hd => by rw [(hask d hd).2.2]; omega
    have d3 := (depthAll_iff (k := 0) (xs := sz.map PyData.int)).mpr fun d hd => by rw [(hsz d hd).2.2]; omega
    refine ⟨?_, ?_, ?_⟩
    · simp only [gd, gdAll, Bool.and_true, Bool.and_eq_true, decide_eq_true_eq]
      exact ⟨gdAll_iff.mpr fun d hd => (hask d hd).1, by omega, by omega, gdAll_iff.mpr fun d hd => (hsz d hd).1, gdAll_iff.mpr fun d hd => (hrow d hd).1⟩
    · simp only [wt, wtAll]
      have : ((Rs ++ [endR]).map encR).length * (8100 + 2) ≤ 60 * 8102 := Nat.mul_le_mul_right _ hrl
      have : (as.map encII).length * (4007 + 2) ≤ 3 * 4009 := Nat.mul_le_mul_right _ hal'
      have : (sz.map PyData.int).length * (2000 + 2) ≤ 2 * 2002 := Nat.mul_le_mul_right _ hsl'
      omega
    · simp only [PyData.depth, PyData.depthAll]
      omega
end LW
set_option Elab.async false
set_option linter.all false
set_option maxRecDepth 100000
set_option maxHeartbeats 4000000
namespace LW
open PySem DL LM
def FRes (n : Nat) (q : Fl × List AV × Sto) : Prop := ∃ d S c' st, q = (.rt (.dat d), S, c' :: st) ∧ PotC (n + 900) c' ∧ CodeOk d
theorem shaped_tup (xs : List Int) : SeqAt.shaped (.tuple (xs.map .int)) = true := by
  simp [SeqAt.shaped, PyData.canLay0, canLay_ints, PyData.depth, depth_ints]
theorem m_restC {n : Nat} {x1 x5 x6 : AV} {size m : Int} {c : Option MO} {as : List (Int × Int)} {sz : List Int} (hc : PotC n c) (hn : n ≤ 500000) (z1 : 3 ≤ size) (z2 : size ≤ 60) (m1 : 1 ≤ m) (m2 : m ≤ 16) (hA : Asks as) (hal : as.length ≤ 3) (ham : (as.length : Int) ≤ m) (hS : Sizes sz) :
    Ev (restC [.han 0, x1, .int size, .int m, .han 1, x5, x6, .dat (.tuple (sz.map .int)), .un, .un, .un, .un, .un, .un, .un, .un, .un, .un, .un] [c, some (.lst (as.map encII))]) (FRes n) := by
  simp [restC, d__law_code_5]
  refine c_loops hc (by omega) (by omega) (by omega) fun L c1 hc1 hL => ?_
  have hl2 : L.length ≤ 1000000 := by have := hL.len; omega
  have hcf : ∀ (st : Sto), lcL [] (gTup 2 (DL.gCons (gName 15) (DL.gCons (gName 16) gNil))) tYes (dTup (aCons (dVar 16) (aCons (dVar 15) aNil))) [.han 0, x1, .int size, .int m, .han 1, x5, x6, .dat (.tuple (sz.map .int)), .dat (.list (L.map encII)), .un, .un, .un, .un, .un, .un, .un, .un, .un, .un] (L.map encII) st = some (L.map (fun p => .tuple [.int p.2, .int p.1]), st) := fun st =>
    lcL_mapT encII _ rfl _ fun q hq => ⟨_, by simp [encII]; rfl, by simp⟩
  have hrg := rng1_int (st := [c1, some (.lst (as.map encII)), some (.dK (endsD L)), some (.lst [])]) (show -1000000 ≤ size - 1 by omega) (show size - 1 ≤ 1000000 by omega)
  have hend : mergeP [] (L.map fun p => ((Sum.inl p.2 : L2.Key), PyData.int p.1)) = endsD L := rfl
  simp [d__law_code_6, d__law_code_7, dDictP_ap, hl2, hcf, kvsOf_map, hend, d__law_code_8, hrg]
  refine forL_ev (RInv (n + 10) x1 size m (.han 1) x5 x6 (sz.map .int) L (some (.lst (as.map encII)))) _ 0 _ _ ⟨.un, .un, .un, .un, c1, [], rfl, rfl, hc1, rfl, by omega, by simp⟩ (fun _ _ _ _ => rfl) ?_ ?_
  · rintro i d S st hd ⟨y0, y1, y2, y3, c', Rs, rfl, rfl, hc', hRl, hi, hR⟩
    obtain ⟨hlt, hde⟩ := List.getElem?_eq_some_iff.mp hd
    simp at hlt hde
    subst hde
    simp
    refine (body_code hc' (by omega) hL (by omega) (by omega) (by omega) (by omega) (by simpa using hS.1) (shaped_tup sz) (by omega)).mono ?_
    rintro ⟨fl, S, st⟩ ⟨h1, w1, w2, w3, c'', r, h2, h3, h4, h5⟩
    simp only at h1 h2 h3
    subst h1 h2 h3
    refine ⟨_, _, _, _, c'', Rs ++ [r], rfl, rfl, h4.mono (by omega), by simp [hRl], by omega, fun j r' hj => ?_⟩
    by_cases hlt2 : j < Rs.length
    · rw [List.getElem?_append_left hlt2] at hj
      exact hR j r' hj
    · rw [List.getElem?_append_right (by omega)] at hj
      have e0 : j - Rs.length = 0 := by
        have := (List.getElem?_eq_some_iff.mp hj).1
        simp at this; omega
      rw [e0] at hj
      simp at hj
      subst hj
      have : j = i := by omega
      subst this
      exact h5
  · rintro S st ⟨y0, y1, y2, y3, c', Rs, rfl, rfl, hc', hRl, hi, hR⟩
    simp at hRl
    have hRl' : Rs.length ≤ 60 := by omega
    have hr1 : Rs.length + 1 ≤ 1000000 := by omega
    have hc3 : PotC (n + 610) c' := hc'.mono (by simp; omega)
    simp [d__law_code_9]
    refine c_take hc3 (by omega) (by omega) (by omega) fun s c2 s0 s1 hc2 => ?_
    simp [hr1]
    have hD : Drawn m ((sz.map PyData.int).length : Nat) size L Rs := ⟨by omega, hR⟩
    have e : (Rs.map encR ++ [PyData.tuple [PyData.str "end"]]) = (Rs ++ [endR]).map encR := by simp [encR, endR]
    rw [e]
    exact ⟨_, _, c2, _, rfl, hc2.mono (by omega), code_fin hL (by simpa using hD) hA hal ham hS m1 m2 s0 (by omega) (by omega) z2⟩
def AInv (n : Nat) (x1 size m : AV) (i : Nat) (S : List AV) (st : Sto) : Prop := ∃ t y c' as, S = [.han 0, x1, size, m, .han 1, t, y, .un, .un, .un, .un, .un, .un, .un, .un, .un, .un, .un, .un] ∧ st = [c', some (.lst (as.map encII))] ∧ PotC (n + 4 * i) c' ∧ as.length = i ∧ i ≤ 3 ∧ Asks as
theorem m_code {n : Nat} {most : Int} {c : Option MO} (hc : PotC n c) (hn : n ≤ 100000) (h1 : 3 ≤ most) (h2 : most ≤ 60) : Ev (f__law_code [.han 0, .int most] [c]) (CodeRes n) := by
  simp [f__law_code, fnOf_ap, code_split, d__law_code_0]
  refine c_take hc (by omega) (by omega) (by omega) fun x c1 x0 x1 hc1 => ?_
  simp [d__law_code_1]
  refine c_take hc1 (by omega) (by omega) (by omega) fun y c2 y0 y1 hc2 => ?_
  simp [d__law_code_2, d__law_code_3]
  have hmin : 0 < (if 1 + y + 1 < 3 then 1 + y + 1 else 3) ∧ (if 1 + y + 1 < 3 then 1 + y + 1 else 3) ≤ 3 ∧ (if 1 + y + 1 < 3 then 1 + y + 1 else 3) ≤ 1 + y + 1 := by split <;> omega
  obtain ⟨mn, hmn⟩ : ∃ mn, mn = (if 1 + y + 1 < 3 then 1 + y + 1 else 3) := ⟨_, rfl⟩
  rw [← hmn] at hmin ⊢
  refine c_take hc2 (by omega) (by omega) (by omega) fun z c3 z0 z1 hc3 => ?_
  have hrg := rng1_int (st := [c3, some (.lst [])]) (show -1000000 ≤ z by omega) (show z ≤ 1000000 by omega)
  simp [hrg]
  refine forL_ev (AInv (n + 3) (.int most) (.int (3 + x)) (.int (1 + y))) _ 0 _ _ ⟨.un, .un, c3, [], rfl, rfl, hc3, rfl, by omega, fun p hp => by cases hp⟩ (fun _ _ _ _ => rfl) ?_ ?_
  · rintro i d S st hd ⟨t, w, c', as, rfl, rfl, hc', hal, hi, hA⟩
    obtain ⟨hlt, hde⟩ := List.getElem?_eq_some_iff.mp hd
    simp at hlt
    simp
    refine (body_asks hc' (by omega) (by omega)).mono ?_
    rintro ⟨fl, S, st⟩ ⟨h1, w1, c'', p, h2, h3, h4, h5⟩
    simp only at h1 h2 h3
    subst h1 h2 h3
    refine ⟨_, _, c'', as ++ [p], rfl, rfl, h4.mono (by omega), by simp [hal], by omega, fun q hq => ?_⟩
    rcases List.mem_append.mp hq with hq | hq
    · exact hA q hq
    · simp at hq; subst hq; exact h5
  · rintro S st ⟨t, w, c', as, rfl, rfl, hc', hal, hi, hA⟩
    simp at hal
    have hb : 0 + ((List.range z.toNat).map fun (i : Nat) => PyData.int (i : Int)).length ≤ 3 := by simp; omega
    simp [d__law_code_4]
    refine c_take (hc'.mono (Nat.add_le_add_left (Nat.mul_le_mul_left 4 hb) _)) (by omega) (by omega) (by omega) fun u c4 u0 u1 hc4 => ?_
    have hrg2 := rng1_int (st := [c4, some (.lst (as.map encII))]) (show -1000000 ≤ u by omega) (show u ≤ 1000000 by omega)
    have hul : u.toNat ≤ 1000000 := by omega
    simp [hrg2, hul]
    refine (lcL_ev (fun i acc st => ∃ c' sz, st = [c', some (.lst (as.map encII))] ∧ acc = sz.map PyData.int ∧ PotC (n + 3 + 12 + 1 + i) c' ∧ sz.length ≤ i ∧ i ≤ 2 ∧ ∀ x ∈ sz, 1 ≤ x ∧ x ≤ 6) _ 0 [] _ ⟨c4, [], rfl, rfl, hc4.mono (by omega), by simp, by omega, by simp⟩ (fun _ _ _ _ => rfl) ?_).mono ?_
    · rintro i d acc st hd ⟨c', sz, rfl, rfl, hc', hsl, hi2, hsz⟩
      obtain ⟨hlt, hde⟩ := List.getElem?_eq_some_iff.mp hd
      simp at hlt
      simp
      refine c_take hc' (by omega) (by omega) (by omega) fun v c5 v0 v1 hc5 => ?_
      simp
      refine ⟨sz ++ [1 + v], by simp, hc5.mono (by omega), by simp; omega, by omega, fun q hq => ?_⟩
      rcases List.mem_append.mp hq with hq | hq
      · exact hsz q hq
      · simp at hq; subst hq; omega
    · rintro ⟨zs, st⟩ ⟨c5, sz, rfl, hz, hc5, hsl, hi2, hsz⟩
      simp only [List.nil_append] at hz
      subst hz
      simp
      have hb2 : 0 + ((List.range u.toNat).map fun (i : Nat) => PyData.int (i : Int)).length ≤ 2 := by simp; omega
      have hlen : sz.length ≤ 2 := Nat.le_trans hsl hi2
      refine (m_restC (hc5.mono (Nat.add_le_add_left hb2 _)) (by omega) (by omega) (by omega) (by omega) (by omega) hA (by omega) (by omega) ⟨hlen, hsz⟩).mono ?_
      rintro _ ⟨d, S, c6, st, rfl, h6, h7⟩
      simp
      exact ⟨d, c6, by simp, h6.mono (by omega), h7⟩
theorem c_code {n : Nat} {most : Int} {c : Option MO} {st : Sto} {Q : AV × Sto → Prop} (hc : PotC n c) (hn : n ≤ 100000) (h1 : 3 ≤ most) (h2 : most ≤ 60) (h : ∀ d c', PotC (n + 1000) c' → CodeOk d → Q (.dat d, c' :: st)) : Ev (callF f__law_code [.han 0, .dat (.int most)] (c :: st)) Q :=
  call_one ((m_code hc hn h1 h2).mono fun r ⟨d, c', e, h1, h2⟩ => ⟨_, _, e, h d c' h1 h2⟩)
end LW
set_option Elab.async false
set_option linter.all false
set_option maxRecDepth 100000
set_option maxHeartbeats 4000000
namespace LW
open PySem DL LM
def odd1 : List PyData := [.none, .bool true, .bool false, .str "", .str "end", .int 0, .int (-1), .int 1, .int 59, .int 60, .int 255, .int 256, .int 1000000000000000000000000000000000000000, .tuple [], .list [], .dict [], .tuple [.str "rest"], .tuple [.str "end"]]
def odd2 : List PyData := [.tuple [.str "again", .int 1], .tuple [.str "count", .int 1], .tuple [.str "count", .int 7], .tuple [.str "go", .int 1], .tuple [.int 0, .int 255], .tuple [.int 255, .int 0], .tuple [.str "test", .int 0, .int 2]]
abbrev B40 : Nat := 10 ^ 40
theorem odd_small : ∀ d ∈ odd1 ++ odd2, Sm B40 8100 1 d := by
  have h : ∀ d ∈ odd1 ++ odd2, (gd B40 d && decide (wt d ≤ 8100) && decide (d.depth ≤ 1)) = true := by decide +kernel
  intro d hd
  have := h d hd
  simp only [Bool.and_eq_true, decide_eq_true_eq] at this
  exact ⟨this.1.1, this.1.2, this.2⟩
theorem c_odd {n : Nat} {c : Option MO} {st : Sto} {Q : AV × Sto → Prop} (hc : PotC n c) (hn : n ≤ 500000) (h : ∀ d c', PotC (n + 1) c' → Sm B40 8100 1 d → Q (.dat d, c' :: st)) : Ev (callF f__law_odd [.han 0] (c :: st)) Q := by
  refine call_one (vs := []) ?_
  have hp : CPowW 10 39 := by decide +kernel
  have hlen : (odd1 ++ odd2).length = 25 := by decide
  have e0 : d__law_odd_0 [.han 0, .un] [c] = some (.nx, [.han 0, .dat (.list odd1)], [c]) := by
    simp [d__law_odd_0, hp, odd1]
  have e1 : d__law_odd_1 [.han 0, .dat (.list odd1)] [c] = some (.nx, [.han 0, .dat (.list (odd1 ++ odd2))], [c]) := by
    have h7 : odd1.length ≤ 999993 := by decide
    simp [d__law_odd_1, h7, odd2]
  obtain ⟨X, hX⟩ : ∃ X, X = odd1 ++ odd2 := ⟨_, rfl⟩
  rw [← hX] at e1 hlen
  simp [f__law_odd, fnOf_ap, d__law_odd, e0, e1, d__law_odd_2]
  refine c_take hc (by omega) (by omega) (by omega) fun x c1 x0 x1 hc1 => ?_
  obtain ⟨d, hd, hm⟩ := atI_some X x0 (by omega)
  simp [hd]
  exact ⟨d, c1, ⟨rfl, rfl⟩, h d c1 hc1 (odd_small d (hX ▸ hm))⟩
def SRes (n b w k : Nat) (r : AV × Sto) : Prop := ∃ d c', r = (.dat d, [c']) ∧ PotC n c' ∧ Sm (b + 2) (2 * w + 8110) (k + 1) d
theorem cutD_one {xs : List PyData} {k : Nat} : cutD xs (some (k : Int)) (some ((k : Int) + 1)) = (xs.drop k).take 1 := by
  unfold cutD
  rw [show ((k : Int) + 1) = ((k + 1 : Nat) : Int) by push_cast; rfl, HT.sIx_nat, HT.sIx_nat]
  by_cases h : k < xs.length
  · rw [Nat.min_eq_left (by omega), Nat.min_eq_left (by omega), Nat.add_sub_cancel_left]
  · rw [List.drop_of_length_le (by omega), List.drop_of_length_le (by omega)]
    simp
theorem split_at (xs : List PyData) (k : Nat) (h : k < xs.length) : ∃ x, xs[k]? = some x ∧ xs = xs.take k ++ x :: xs.drop (k + 1) ∧ xs.drop k = x :: xs.drop (k + 1) ∧ x ∈ xs := by
  refine ⟨xs[k], List.getElem?_eq_getElem h, ?_, List.drop_eq_getElem_cons h, List.getElem_mem h⟩
  conv => lhs; rw [← List.take_append_drop k xs, List.drop_eq_getElem_cons h]
def restS (self : DF) : DSt := sSeq (d__law_spoilt_2 self) (sSeq (d__law_spoilt_3 self) (sSeq (d__law_spoilt_4 self) (d__law_spoilt_5 self)))
theorem spoilt_split (self : DF) : d__law_spoilt self = sSeq (d__law_spoilt_0 self) (sSeq (d__law_spoilt_1 self) (restS self)) := rfl
def ZRes (n b w k : Nat) (q : Fl × List AV × Sto) : Prop := ∃ d S c', q = (.rt (.dat d), S, [c']) ∧ PotC n c' ∧ Sm (b + 2) (2 * w + 8110) (k + 1) d
theorem m_restS {self : DF} {n : Nat} {c : Option MO} {xs : List PyData} {o : PyData} {way dp : Int} {b w k : Nat} {N : Nat} (hc : PotC n c) (hn : n ≤ 300000) (w0 : 0 ≤ way) (w1 : way < 8) (hx : xs ≠ []) (h : Sm b w k (.tuple xs)) (hw : w ≤ 1900000) (hb : B40 ≤ b)
    (ih : ∀ x ∈ xs, ∀ c', PotC (n + 1) c' → Ev (self [.han 0, .dat x, .dat (.int (dp - 1))] [c']) (SRes (n + 1 + N) b (wt x) x.depth)) :
    Ev (restS self [.han 0, .dat (.tuple xs), .int dp, .int way, .dat o, .un, .un, .un] [c]) (ZRes (n + 1 + N) b w k) := by
  have hl := wtAll_len xs
  have hw' : 3 + wtAll xs ≤ w := by have := h.w; simpa only [wt] using this
  have hpos : 0 < xs.length := List.length_pos_iff.mpr hx
  have hpart := h.part
  simp [restS, d__law_spoilt_2, d__law_spoilt_3]
  refine c_take hc (by omega) (by omega) (by omega) fun a c1 a0 a1 hc1 => ?_
  obtain ⟨j, rfl⟩ : ∃ j : Nat, a = (j : Int) := ⟨a.toNat, by omega⟩
  obtain ⟨x, hx1, hx2, hx3, hx4⟩ := split_at xs j (by omega)
  obtain ⟨A, hA⟩ : ∃ A, A = xs.take j := ⟨_, rfl⟩
  obtain ⟨C, hC⟩ : ∃ C, C = xs.drop (j + 1) := ⟨_, rfl⟩
  rw [← hA, ← hC] at hx2
  rw [← hC] at hx3
  have cut1 : cutD xs none (some (j : Int)) = A := by rw [hA]; exact cutD_till
  have cut2 : cutD xs (some ((j : Int) + 1)) none = C := by rw [hC, show ((j : Int) + 1) = ((j + 1 : Nat) : Int) by push_cast; rfl]; exact cutD_from
  have cut3 : cutD xs (some (j : Int)) (some ((j : Int) + 1)) = [x] := by rw [cutD_one, hx3]; rfl
  have cut4 : cutD xs (some (j : Int)) none = x :: C := by rw [cutD_from, hx3]
  have hat : L2.atI xs (j : Int) = some x := by rw [atI_nat]; exact hx1
  have hwt : wtAll xs = wtAll A + (wt x + 2 + wtAll C) := by rw [hx2, wtAll_app]; rfl
  have hAl := wtAll_len A
  have hCl := wtAll_len C
  have hAm : ∀ y ∈ A, y ∈ xs := fun y hy => by rw [hx2]; simp [hy]
  have hCm : ∀ y ∈ C, y ∈ xs := fun y hy => by rw [hx2]; simp [hy]
  have hg2 : ∀ y ∈ xs, gd (b + 2) y = true ∧ y.depth ≤ k := fun y hy => by
    have := hpart y hy
    exact ⟨gd_mono (by omega) y this.1, by omega⟩
  by_cases h5 : way < 5
  · have l1 : A.length + 1 + C.length ≤ 1000000 := by omega
    have l2 : A.length + 1 ≤ 1000000 := by omega
    simp [cut1, cut2, d__law_spoilt_4, h5, hat]
    refine call_one ((ih x hx4 c1 hc1).mono ?_)
    rintro _ ⟨d, c2, rfl, h1, h2⟩
    refine ⟨d, c2, rfl, ?_⟩
    have l3 : A.length ≤ 999999 := by omega
    have l4 : A.length + (C.length + 1) ≤ 1000000 := by omega
    simp [l3, l4, l1]
    refine ⟨_, _, c2, rfl, h1, ?_⟩
    have hd1 := (hpart x hx4).2.1
    refine (Sm.tup (b := b + 2) (k := k) (xs := A ++ d :: C) fun y hy => ?_).mono (Nat.le_refl _) ?_ (Nat.le_refl _)
    · rcases List.mem_append.mp hy with hy | hy
      · exact hg2 y (hAm y hy)
      · rcases List.mem_cons.mp hy with rfl | hy
        · refine ⟨h2.g, ?_⟩
          have q1 := h2.d
          have q2 := h.d
          simp only [PyData.depth] at q2
          have : 1 ≤ k := by omega
          omega
        · exact hg2 y (hCm y hy)
    · rw [wtAll_app]
      simp only [wtAll]
      have := h2.w
      omega
  · have h6 : way - 5 = 0 ∨ way - 5 = 1 ∨ way - 5 = 2 := by omega
    have l1 : A.length + C.length ≤ 1000000 := by omega
    have l2 : A.length ≤ 999999 := by omega
    have l3 : A.length + 1 + (C.length + 1) ≤ 1000000 := by omega
    simp [cut1, cut2, cut3, cut4, d__law_spoilt_4, h5, d__law_spoilt_5, l1, l2, l3]
    have s1 := Sm.tup (b := b + 2) (k := k) (xs := A ++ C) fun y hy => by
      rcases List.mem_append.mp hy with hy | hy
      · exact hg2 y (hAm y hy)
      · exact hg2 y (hCm y hy)
    have s2 := Sm.tup (b := b + 2) (k := k) (xs := A ++ x :: x :: C) fun y hy => by
      rcases List.mem_append.mp hy with hy | hy
      · exact hg2 y (hAm y hy)
      · rcases List.mem_cons.mp hy with rfl | hy
        · exact hg2 _ hx4
        · rcases List.mem_cons.mp hy with rfl | hy
          · exact hg2 _ hx4
          · exact hg2 y (hCm y hy)
    have s3 := Sm.lst (b := b + 2) (k := k) (xs := xs) fun y hy => hg2 y hy
    have hc2 : PotC (n + 1 + N) c1 := hc1.mono (by omega)
    rcases h6 with e | e | e
    · simp [e]
      exact ⟨_, _, c1, rfl, hc2, s1.mono (Nat.le_refl _) (by rw [wtAll_app]; omega) (Nat.le_refl _)⟩
    · simp [e]
      exact ⟨_, _, c1, rfl, hc2, s2.mono (Nat.le_refl _) (by rw [wtAll_app]; simp only [wtAll]; omega) (Nat.le_refl _)⟩
    · simp [e]
      exact ⟨_, _, c1, rfl, hc2, s3.mono (Nat.le_refl _) (by omega) (Nat.le_refl _)⟩
end LW
set_option Elab.async false
set_option linter.all false
set_option maxRecDepth 100000
set_option maxHeartbeats 4000000
namespace LW
open PySem DL LM
theorem m_spoilt : ∀ (fuel deep n : Nat) (c : Option MO) (d : PyData) (b w k : Nat) (dp : Int), dp = (deep : Int) → deep < fuel → PotC n c → n + 3 * deep ≤ 200000 → Sm b w k d → w ≤ 1900000 → B40 ≤ b → Ev (f__law_spoilt fuel [.han 0, .dat d, .dat (.int dp)] [c]) (SRes (n + 3 * (deep + 1)) b w k)
  | 0, _, _, _, _, _, _, _, _, _, h, _, _, _, _, _ => absurd h (by omega)
  | fuel + 1, deep, n, c, d, b, w, k, dp, hdp, hf, hc, hn, h, hw, hb => by
    have e0 : f__law_spoilt (fuel + 1) = fnOf 3 8 (d__law_spoilt (f__law_spoilt fuel)) := rfl
    rw [e0]
    simp [fnOf_ap, spoilt_split, d__law_spoilt_0]
    refine c_take hc (by omega) (by omega) (by omega) fun way c1 w0 w1 hc1 => ?_
    simp
    refine c_odd hc1 (by omega) fun o c2 hc2 ho => ?_
    have hodd : SRes (n + 3 * (deep + 1)) b w k (.dat o, [c2]) := ⟨o, c2, rfl, hc2.mono (by omega), ho.mono (by omega) (by omega) (by omega)⟩
    cases d with
    | tuple xs =>
      by_cases hx : xs = []
      · subst hx
        simp [d__law_spoilt_1, c_whole, isWhole]
        exact hodd
      · by_cases hd : deep = 0
        · have hdp0 : dp = 0 := by omega
          subst hdp0
          simp [d__law_spoilt_1, c_whole, isWhole, hx]
          exact hodd
        · obtain ⟨m, hm⟩ : ∃ m, deep = m + 1 := ⟨deep - 1, by omega⟩
          have hdi : ¬ dp = 0 := by omega
          have hm := m_restS (self := f__law_spoilt fuel) (n := n + 2) (c := c2) (xs := xs) (o := o) (way := way) (dp := dp) (b := b) (w := w) (k := k) (N := 3 * deep) hc2 (by omega) w0 w1 hx h hw hb (fun x hxm c' hc' => by
            have hp := h.part x hxm
            have hw2 := h.w
            simp only [wt] at hw2
            have := m_spoilt fuel m (n + 2 + 1) c' x b (wt x) x.depth (dp - 1) (by omega) (by omega) hc' (by omega) ⟨hp.1, Nat.le_refl _, Nat.le_refl _⟩ (by omega) hb
            rw [hm]
            exact this)
          simp [d__law_spoilt_1, hx, hdi]
          refine hm.mono ?_
          rintro _ ⟨d, S, c', rfl, h1, h2⟩
          simp
          exact ⟨d, c', by simp, h1.mono (by omega), h2⟩
    | int i =>
      have hint : ∀ j : Int, (j = 1 ∨ j = -1 ∨ j = 2 ∨ j = -2) → SRes (n + 3 * (deep + 1)) b w k (.dat (.int (i + j)), [c2]) := fun j hj => by
        refine ⟨_, c2, rfl, hc2.mono (by omega), ?_, ?_, ?_⟩
        · have := h.g
          simp only [gd, decide_eq_true_eq] at this ⊢
          omega
        · have := h.w
          simp only [wt] at this ⊢
          omega
        · simp only [PyData.depth]; omega
      by_cases h6 : way < 6
      · have : way = 0 ∨ way = 1 ∨ way = 2 ∨ way = 3 ∨ way = 4 ∨ way = 5 := by omega
        have g5 : ∀ x : PyData, L2.atI [PyData.int 1, .int (-1), .int 2, .int (-2), .int 1, x] 5 = some x := fun x => rfl
        rcases this with rfl | rfl | rfl | rfl | rfl | rfl <;> simp [d__law_spoilt_1, c_whole, isWhole, g5]
        · exact hint 1 (by simp)
        · exact hint (-1) (by simp)
        · exact hint 2 (by simp)
        · exact hint (-2) (by simp)
        · exact hint 1 (by simp)
        · exact hint (-1) (by simp)
      · simp [d__law_spoilt_1, c_whole, isWhole, h6]
        exact hodd
    | _ =>
      simp [d__law_spoilt_1, c_whole, isWhole]
      exact hodd
theorem c_spoilt {n : Nat} {c : Option MO} {d : PyData} {b w k : Nat} {dp : Int} {st : Sto} {Q : AV × Sto → Prop} (h0 : 0 ≤ dp) (h3 : dp ≤ 3) (hc : PotC n c) (hn : n ≤ 100000) (h : Sm b w k d) (hw : w ≤ 1900000) (hb : B40 ≤ b) (q : ∀ d' c', PotC (n + 12) c' → Sm (b + 2) (2 * w + 8110) (k + 1) d' → Q (.dat d', c' :: st)) : Ev (callF (f__law_spoilt 5) [.han 0, .dat d, .dat (.int dp)] (c :: st)) Q :=
  call_one ((m_spoilt 5 dp.toNat n c d b w k dp (by omega) (by omega) hc (by omega) h hw hb).mono fun r ⟨d', c', e, h1, h2⟩ => ⟨_, _, e, q d' c' (h1.mono (by omega)) h2⟩)
theorem c_bent {n : Nat} {c : Option MO} {d : PyData} {st : Sto} {Q : AV × Sto → Prop} (hc : PotC n c) (hn : n ≤ 50000) (h : CodeOk d) (q : ∀ d' c', PotC (n + 20) c' → Sm (B40 + 2) 1050000 4 d' → Q (.dat d', c' :: st)) : Ev (callF f__law_bent [.han 0, .dat d] (c :: st)) Q := by
  refine call_one ?_
  obtain ⟨_, hs, a, b, c0, e, f, rfl, rs, rfl⟩ := h
  have hs' : Sm B40 520000 3 (.tuple [a, b, c0, e, .tuple rs]) := hs.mono (by decide) (Nat.le_refl _) (Nat.le_refl _)
  simp [f__law_bent, fnOf_ap, d__law_bent, d__law_bent_0]
  refine c_take hc (by omega) (by omega) (by omega) fun x c1 x0 x1 hc1 => ?_
  by_cases hx : x = 0
  · simp [hx]
    refine c_spoilt (by omega) (by omega) hc1 (by omega) hs' (by omega) (Nat.le_refl _) fun d' c' h1 h2 => ?_
    simp
    exact ⟨d', c', ⟨rfl, rfl⟩, q d' c' (h1.mono (by omega)) (h2.mono (Nat.le_refl _) (by omega) (Nat.le_refl _))⟩
  · have hcut : cutD [a, b, c0, e, PyData.tuple rs] none (some 4) = [a, b, c0, e] := cutD_till (k := 4)
    have hp := hs'.part (.tuple rs) (by simp)
    simp [hx, d__law_bent_1, hcut]
    have hwt := hs'.w
    simp only [wt, wtAll] at hwt
    refine c_spoilt (w := wt (.tuple rs)) (k := 2) (by omega) (by omega) hc1 (by omega) ⟨hp.1, Nat.le_refl _, hp.2.1⟩ (by simp only [wt]; omega) (Nat.le_refl _) fun d' c' h1 h2 => ?_
    simp
    refine ⟨_, c', ⟨rfl, rfl⟩, q _ c' (h1.mono (by omega)) ?_⟩
    refine (Sm.tup (b := B40 + 2) (k := 3) fun y hy => ?_).mono (Nat.le_refl _) ?_ (Nat.le_refl _)
    · simp at hy
      have hp2 : ∀ z ∈ [a, b, c0, e], gd (B40 + 2) z = true ∧ z.depth ≤ 3 := fun z hz => by
        have := hs'.part z (by simp at hz ⊢; rcases hz with rfl | rfl | rfl | rfl <;> simp)
        exact ⟨gd_mono (by omega) z this.1, by omega⟩
      rcases hy with rfl | rfl | rfl | rfl | rfl
      · exact hp2 _ (by simp)
      · exact hp2 _ (by simp)
      · exact hp2 _ (by simp)
      · exact hp2 _ (by simp)
      · exact ⟨h2.g, h2.d⟩
    · have := h2.w
      simp only [wt] at this
      simp only [wtAll]
      omega
end LW
set_option Elab.async false
set_option linter.all false
set_option maxRecDepth 100000
set_option maxHeartbeats 4000000
namespace LW
open PySem DL LM
def chkRow (x : PyData) : Bool := match x with
  | .tuple [rows, .bool due] => isCode (.tuple [.tuple [], .int 1, .int 0, .tuple [], rows]) == due
  | _ => false
def chkW (o : Option (AV × Sto)) : Bool := match o with
  | some (.dat (.list t), []) => t.all chkRow && decide (t.length ≤ 1000)
  | _ => false
def chkCode (x : PyData) : Bool := match x with
  | .tuple [code, .bool due] => isCode code == due
  | _ => false
def chkB (o : Option (AV × Sto)) : Bool := match o with
  | some (.han 0, [some (.lst t)]) => t.all chkCode && decide (t.length ≤ 1000)
  | _ => false
theorem t_laps : chkW (f__law_laps [] []) = true := by decide +kernel
theorem t_bounds : chkB (f__law_bounds [] []) = true := by decide +kernel
theorem t_written : chkW (f__law_written [] []) = true := by decide +kernel
end LW
set_option Elab.async false
set_option linter.all false
set_option maxRecDepth 100000
set_option maxHeartbeats 4000000
set_option exponentiation.threshold 3000
namespace LW
open PySem DL LM
/-! ### a pot -/
def bigM : Int := (10 ^ 60) ^ 10
theorem bigM_pos : 0 < bigM := by unfold bigM; decide +kernel
theorem bigM_le : bigM ≤ 2 ^ 2000 := by unfold bigM; decide +kernel
theorem e_big {S : List AV} {st : Sto} : dBin (lift2 gPow) (dBin (lift2 gPow) (dK (.int 10)) (dK (.int 60))) (dK (.int 10)) S st = some (.dat (.int bigM), st) := by
  have q1 : CPowW 10 60 := by decide +kernel
  have q2 : CPowW (10 ^ 60) 10 := by decide +kernel
  have e1 : gPow (.int 10) (.int 60) = some (.int (10 ^ 60)) := by
    show (if CPowW 10 60 then some (PyData.int (10 ^ (60 : Int).toNat)) else none) = _
    rw [if_pos q1]; rfl
  have e2 : gPow (.int (10 ^ 60)) (.int 10) = some (.int bigM) := by
    show (if CPowW (10 ^ 60) 10 then some (PyData.int ((10 ^ 60) ^ (10 : Int).toNat)) else none) = _
    rw [if_pos q2]; rfl
  simp only [dBin_ap, dK_ap, lift2_ap, rd_dat, bd_some, e1, e2, mp_some]
theorem pot_tail {S0 : AV} {k : Int} {cell : Int} {x : AV} (h0 : 0 ≤ cell) (h1 : cell < 2 ^ 2000) (hk : 0 ≤ k) (hk2 : k < 1000) : ∃ a b : Int, 0 ≤ a ∧ 0 ≤ b ∧ b < 2305843009213693952 ∧ (sSeq d__law_pot_2 d__law_pot_3) [S0, .int k, .int cell, x] [] = some (.rt (.han 0), [S0, .int k, .int cell, .int b], [some (.lst [.int a, .int b, .int 0])]) := by
  have q3 : CPowW 10 18 := by decide +kernel
  have q4 : L2.CMulW 6007 k := mul_ok (small_of (by omega) (by omega)) (small_of (by omega) (by omega))
  have q5 : CPowW (cell % 2147483587 + 6007 * k + 1) 5 := by
    have h1 := Int.emod_nonneg cell (show (2147483587 : Int) ≠ 0 by decide)
    have h2 := Int.emod_lt_of_pos cell (show (0 : Int) < 2147483587 by decide)
    exact pow_ok (k := 5) (small_of (by omega) (by omega)) (by omega)
  have hlog : cell.natAbs.log2 < 2000 := log_small (by omega) (by omega)
  have q6 : ∀ b : Bool, L2.CMulW cell (if b = true then 1 else 0) := fun b => by
    cases b
    · show cell.natAbs.log2 + Nat.log2 0 < 1000000
      have : Nat.log2 0 = 0 := by decide
      omega
    · show cell.natAbs.log2 + Nat.log2 1 < 1000000
      have : Nat.log2 1 = 0 := by decide
      omega
  have hm : 0 < cell % 2147483587 + 6007 * k + 1 := by
    have h1 := Int.emod_nonneg cell (show (2147483587 : Int) ≠ 0 by decide)
    omega
  refine ⟨cell * (if decide (1000000000000000000 ≤ cell) = true then 1 else 0), (cell % 2147483587 + 6007 * k + 1) ^ 5 % 2305843009213693951, ?_, Int.emod_nonneg _ (by decide), Int.lt_trans (Int.emod_lt_of_pos _ (by decide)) (by decide), ?_⟩
  · split
    · omega
    · omega
  · have := q6 (decide (1000000000000000000 ≤ cell))
    simp [d__law_pot_2, d__law_pot_3, q3, q4, q5]
    simp at this
    simp [this]
theorem m_pot (ns : List Int) (k : Nat) (hk : k < 1000) : ∃ c, f__law_pot [.dat (.list (ns.map .int)), .dat (.int (k : Int))] [] = some (.han 0, [c]) ∧ PotC 0 c := by
  have split : d__law_pot = sSeq d__law_pot_0 (sSeq d__law_pot_1 (sSeq d__law_pot_2 d__law_pot_3)) := rfl
  have key : ∀ cell : Int, 0 ≤ cell → cell < 2 ^ 2000 → (sSeq d__law_pot_1 (sSeq d__law_pot_2 d__law_pot_3)) [.dat (.list (ns.map .int)), .dat (.int (k : Int)), .int 0, .un] [] = (sSeq d__law_pot_2 d__law_pot_3) [.dat (.list (ns.map .int)), .dat (.int (k : Int)), .int cell, .un] [] → ∃ c, f__law_pot [.dat (.list (ns.map .int)), .dat (.int (k : Int))] [] = some (.han 0, [c]) ∧ PotC 0 c := fun cell c0 c1 e => by
    obtain ⟨a, b, h1, h2, h3, h4⟩ := pot_tail (S0 := .dat (.list (ns.map .int))) (k := (k : Int)) (x := .un) c0 c1 (by omega) (by omega)
    refine ⟨_, ?_, a, b, 0, rfl, h1, h2, h3, by omega, by omega⟩
    rw [h4] at e
    have e0 : d__law_pot_0 [.dat (.list (ns.map .int)), .dat (.int (k : Int)), .un, .un] [] = some (.nx, [.dat (.list (ns.map .int)), .dat (.int (k : Int)), .int 0, .un], []) := by simp [d__law_pot_0]
    have ef : f__law_pot = fnOf 2 4 d__law_pot := rfl
    rw [ef, fnOf_ap (by rfl), split, sSeq_ap]
    show bd (bd (d__law_pot_0 [.dat (.list (ns.map .int)), .dat (.int (k : Int)), .un, .un] []) _) _ = _
    rw [e0, bd_some, seqK_nx, e, bd_some, outK_rt]
    rfl
  by_cases h : k < ns.length
  · have hi : ((k : Int) < (ns.length : Int)) := by omega
    have hat : L2.atI (ns.map PyData.int) (k : Int) = some (.int ns[k]) := by
      rw [atI_nat, List.getElem?_map, List.getElem?_eq_getElem h]; rfl
    have e1 : d__law_pot_1 [.dat (.list (ns.map .int)), .dat (.int (k : Int)), .int 0, .un] [] = some (.nx, [.dat (.list (ns.map .int)), .dat (.int (k : Int)), .int ((if ns[k] < 0 then -ns[k] else ns[k]) % bigM), .un], []) := by
      have hb := @e_big [.dat (.list (ns.map .int)), .dat (.int (k : Int)), .int 0, .un] []
      have hp := bigM_pos
      generalize hg : dBin (lift2 gPow) (dBin (lift2 gPow) (dK (.int 10)) (dK (.int 60))) (dK (.int 10)) = G at hb
      simp [d__law_pot_1, hg, hi, hat, hb, hp]
    refine key ((if ns[k] < 0 then -ns[k] else ns[k]) % bigM) (Int.emod_nonneg _ (by have := bigM_pos; omega)) (Int.lt_of_lt_of_le (Int.emod_lt_of_pos _ bigM_pos) bigM_le) ?_
    rw [sSeq_ap, e1, bd_some, seqK_nx]
  · have hi : ¬ ((k : Int) < (ns.length : Int)) := by omega
    have e1 : d__law_pot_1 [.dat (.list (ns.map .int)), .dat (.int (k : Int)), .int 0, .un] [] = some (.nx, [.dat (.list (ns.map .int)), .dat (.int (k : Int)), .int 0, .un], []) := by
      simp [d__law_pot_1, hi]
    refine key 0 (by omega) (by decide +kernel) ?_
    rw [sSeq_ap, e1, bd_some, seqK_nx]
end LW
set_option Elab.async false
set_option linter.all false
set_option maxRecDepth 100000
set_option maxHeartbeats 4000000
namespace LW
open PySem DL LM
/-! ### a call that is handed the last object -/
theorem call_end {fd : DF} {vs : List AV} {c : Option MO} {pre : Sto} {k : Nat} {P : PyData → Option MO → Prop} {Q : AV × Sto → Prop} (hk : k = pre.length)
    (h : ∀ Q' : AV × Sto → Prop, (∀ d c', P d c' → Q' (.dat d, [c'])) → Ev (callF fd (.han 0 :: vs) [c]) Q') (q : ∀ d c', P d c' → Q (.dat d, pre ++ [c'])) (hv : hansA vs = [] := by rfl) (hr : renA 1 vs = vs := by rfl) : Ev (callF fd (.han k :: vs) (pre ++ [c])) Q := by
  subst hk
  have h := h (fun r => ∃ d c', r = (.dat d, [c']) ∧ P d c') fun d c' hp => ⟨d, c', rfl, hp⟩
  unfold callF at h ⊢
  simp only [hansA, hv, renA, hr, cells, inAll, fresh1] at h ⊢
  have hg : (pre ++ [c])[pre.length]? = some c := by simp
  simp only [hg, Option.getD_some]
  simp at h ⊢
  obtain ⟨r, e, h⟩ := h
  refine ⟨r, e, ?_⟩
  obtain ⟨o, e2, h⟩ := h
  refine ⟨o, e2, ?_⟩
  obtain ⟨v, st'⟩ := o
  have fin : ∀ (v : AV), Ev (some (v, wb [c] [0] st' ++ List.tail st')) (fun r => ∃ d c', r = (.dat d, [c']) ∧ P d c') → Ev (some (v, wb (pre ++ [c]) [pre.length] st' ++ List.tail st')) Q := fun v hv => by
    obtain ⟨a, ea, d, c', ea2, hp⟩ := hv
    cases ea
    simp only [Prod.mk.injEq] at ea2
    obtain ⟨rfl, e3⟩ := ea2
    rw [Ev_some]
    match st', e3 with
    | [], e3 =>
      have e3 : c = c' := by simpa [wb] using e3
      subst e3
      simpa [wb] using q d c hp
    | [x], e3 =>
      have e3 : x = c' := by simpa [wb] using e3
      subst e3
      simpa [wb] using q d x hp
    | x :: y :: r, e3 => simp [wb] at e3
  cases v with
  | un => exact fin _ h
  | dat d => exact fin _ h
  | kv d => exact fin _ h
  | han j =>
    exfalso
    obtain ⟨a, ea, d, c', ea2, _⟩ := h
    cases ea
    simp only [Prod.mk.injEq] at ea2
    have := ea2.1
    split at this <;> cases this
theorem m_law2 {s0 s1 s2 s3 s4 s5 s6 s7 s8 s10 s11 : AV} {st : Sto} {d : PyData} (h : canShow d = true) : b_law_2 [s0, s1, s2, s3, s4, s5, s6, s7, s8, .dat d, s10, s11] st = some (.nx, [s0, s1, s2, s3, .bl (isCode d), s5, s6, s7, s8, .dat d, .dat (.str d.shown), s11], st) := by
  have e : gRepr [.d d] = some (.str d.shown) := by simp [gRepr, h]
  simp [b_law_2, e, c_is_code, c_law_is_code]
theorem Sm.list {b w k : Nat} {xs : List PyData} (h : Sm b w k (.tuple xs)) : Sm b w k (.list xs) :=
  ⟨by have := h.g; simp only [gd] at this ⊢; exact this, by have := h.w; simp only [wt] at this ⊢; exact this, by have := h.d; simp only [PyData.depth] at this ⊢; exact this⟩
def BPost (s0 s1 : AV) (q : Fl × List AV × Sto) : Prop := q.1 = .nx ∧ ∃ x2 x3 x4 x5 x6 x7 x8 x9 x10 x11, q.2.1 = [s0, s1, x2, x3, x4, x5, x6, x7, x8, x9, x10, x11]
theorem m_law3 (ns : List Int) (k : Nat) (hk : k < 1000) {s1 s2 s3 s4 s6 s7 s8 s9 s10 s11 : AV} {st : Sto} : Ev (b_law_3 [.dat (.list (ns.map .int)), s1, s2, s3, s4, .dat (.int (k : Int)), s6, s7, s8, s9, s10, s11] st) (BPost (.dat (.list (ns.map .int))) s1) := by
  obtain ⟨c, ec, hc⟩ := m_pot ns k hk
  have e1 : callF f__law_pot [.dat (.list (ns.map .int)), .dat (.int (k : Int))] st = some (.han st.length, st ++ [c]) := by
    unfold callF
    simp [hansA, renA, cells, inAll, fresh1, ec, wb, outF]
  simp [b_law_3, e1]
  refine call_end rfl (P := fun d c' => PotC (0 + 1000) c' ∧ CodeOk d) (fun Q' hq => c_code hc (by omega) (by omega) (by omega) fun d c' h1 h2 => hq d c' ⟨h1, h2⟩) ?_
  rintro code c1 ⟨hc1, hcode⟩
  have hcs : isCode code = true := hcode.1
  simp [c_is_code, c_law_is_code, hcs, gIs]
  refine call_end rfl (P := fun d c' => PotC (0 + 1000 + 20) c' ∧ Sm (B40 + 2) 1050000 4 d) (fun Q' hq => c_bent hc1 (by omega) hcode fun d c' h1 h2 => hq d c' ⟨h1, h2⟩) ?_
  rintro once c2 ⟨hc2, honce⟩
  simp
  refine call_end rfl (P := fun d c' => PotC (0 + 1000 + 20 + 20) c' ∧ Sm (B40 + 2) 1050000 4 d) (fun Q' hq => c_bent hc2 (by omega) hcode fun d c' h1 h2 => hq d c' ⟨h1, h2⟩) ?_
  rintro other c3 ⟨hc3, hother⟩
  simp
  refine call_end rfl (P := fun d c' => PotC (0 + 1000 + 20 + 20 + 12) c' ∧ Sm (B40 + 2 + 2) (2 * 1050000 + 8110) 5 d) (fun Q' hq => c_spoilt (by omega) (by omega) hc3 (by omega) hother (by omega) (by omega) fun d c' h1 h2 => hq d c' ⟨h1, h2⟩) ?_
  rintro sp c4 ⟨hc4, hsp⟩
  simp
  refine call_end (vs := []) rfl (P := fun d c' => PotC (0 + 1000 + 20 + 20 + 12 + 1) c' ∧ Sm B40 8100 1 d) (fun Q' hq => c_odd hc4 (by omega) fun d c' h1 h2 => hq d c' ⟨h1, h2⟩) ?_
  rintro od c5 ⟨hc5, hod⟩
  obtain ⟨_, hs, a, b, c0, e, f, rfl, rs, rfl⟩ := hcode
  simp
  have s1' : canShow once = true := honce.can (by decide) (by omega) (by omega)
  have s2' : canShow other = true := hother.can (by decide) (by omega) (by omega)
  have s3' : canShow sp = true := hsp.can (by decide) (by omega) (by omega)
  have s4' : canShow od = true := hod.can (by decide) (by omega) (by omega)
  have s5' : canShow (.list [a, b, c0, e, .tuple rs]) = true := hs.list.can (by decide) (by omega) (by omega)
  have hloop := forL_each (g := []) (tg := gName 9) (body := b_law_2) (st := st ++ [c5]) id (fun _ => true) (fun S => ∃ x4 x9 x10, S = [.dat (.list (ns.map .int)), s1, .dat (.tuple [a, b, c0, e, .tuple rs]), s3, x4, .dat (.int (k : Int)), .han st.length, .dat once, .dat other, x9, x10, s11]) rfl [once, other, sp, od, .list [a, b, c0, e, .tuple rs]] [.dat (.list (ns.map .int)), s1, .dat (.tuple [a, b, c0, e, .tuple rs]), s3, s4, .dat (.int (k : Int)), .han st.length, .dat once, .dat other, s9, s10, s11] ⟨_, _, _, rfl⟩ (by
    rintro d S hd ⟨x4, x9, x10, rfl⟩
    have hd' : canShow d = true := by
      simp at hd
      rcases hd with rfl | rfl | rfl | rfl | rfl <;> assumption
    refine Ev.of_eq rfl ?_
    refine Ev.of_eq (m_law2 (d := id d) hd') ?_
    exact ⟨rfl, rfl, _, _, _, rfl⟩)
  rw [List.map_id] at hloop
  refine hloop.mono ?_
  rintro ⟨fl, S, st'⟩ ⟨h1, h2⟩
  rw [if_pos (by simp)] at h2
  obtain ⟨h2, x4, x9, x10, h3⟩ := h2
  simp only at h1 h2 h3
  subst h1 h2 h3
  exact ⟨rfl, _, _, _, _, _, _, _, _, _, _, rfl⟩
/-! ### the tables -/
theorem tab_rows {o : Option (AV × Sto)} (h : chkW o = true) : ∃ t, o = some (.dat (.list t), []) ∧ t.all chkRow = true ∧ t.length ≤ 1000 := by
  unfold chkW at h
  split at h
  · rename_i t
    simp only [Bool.and_eq_true, decide_eq_true_eq] at h
    exact ⟨t, rfl, h.1, h.2⟩
  · cases h
theorem tab_codes {o : Option (AV × Sto)} (h : chkB o = true) : ∃ t, o = some (.han 0, [some (.lst t)]) ∧ t.all chkCode = true ∧ t.length ≤ 1000 := by
  unfold chkB at h
  split at h
  · rename_i t
    simp only [Bool.and_eq_true, decide_eq_true_eq] at h
    exact ⟨t, rfl, h.1, h.2⟩
  · cases h
theorem row_is {x : PyData} (h : chkRow x = true) : ∃ rows due, x = .tuple [rows, .bool due] ∧ isCode (.tuple [.tuple [], .int 1, .int 0, .tuple [], rows]) = due := by
  unfold chkRow at h
  split at h
  · exact ⟨_, _, rfl, by simpa using h⟩
  · cases h
theorem code_is {x : PyData} (h : chkCode x = true) : ∃ code due, x = .tuple [code, .bool due] ∧ isCode code = due := by
  unfold chkCode at h
  split at h
  · exact ⟨_, _, rfl, by simpa using h⟩
  · cases h
def wrap (x : PyData) : PyData := match x with
  | .tuple [rows, due] => .tuple [.tuple [.tuple [], .int 1, .int 0, .tuple [], rows], due]
  | _ => .none
theorem law_true (ns : List Int) (hns : ns.length ≤ 63) : ∃ st, f_law [.dat (.list (ns.map .int))] [] = some (.bl true, st) := by
  obtain ⟨tw, ew, hw, hwl⟩ := tab_rows t_written
  obtain ⟨tl, el, hl, hll⟩ := tab_rows t_laps
  obtain ⟨tb, eb, hb, hbl⟩ := tab_codes t_bounds
  have c1 : ∀ st, callF f__law_written [] st = some (.dat (.list tw), st) := fun st => call_pure ew
  have c2 : ∀ st, callF f__law_laps [] st = some (.dat (.list tl), st) := fun st => call_pure el
  have c3 : callF f__law_bounds [] [] = some (.han 0, [some (.lst tb)]) := by
    unfold callF
    simp [hansA, renA, cells, inAll, fresh1, eb, wb, outF]
  have hlen : tw.length + tl.length ≤ 1000000 := by omega
  have hall : (tw ++ tl).all chkRow = true := by rw [List.all_append, hw, hl]; rfl
  obtain ⟨T, hT⟩ : ∃ T, T = tw ++ tl := ⟨_, rfl⟩
  have hTl : T.length ≤ 2000 := by rw [hT]; simp; omega
  have hTl2 : T.length ≤ 1000000 := by omega
  rw [← hT] at hall
  have hlc : lcL [] (gTup 2 (DL.gCons (gName 11) (DL.gCons (gName 3) gNil))) tYes (dTup (aCons (dTup (aCons (dTup aNil) (aCons (dK (.int 1)) (aCons (dK (.int 0)) (aCons (dTup aNil) (aCons (dVar 11) aNil)))))) (aCons (dVar 3) aNil))) [.dat (.list (ns.map .int)), .un, .un, .un, .un, .un, .un, .un, .un, .un, .un, .un] T [] = some (T.map wrap, []) := by
    refine lcL_map wrap rfl T fun d hd => ?_
    obtain ⟨rows, due, rfl, _⟩ := row_is (List.all_eq_true.mp hall d hd)
    exact ⟨_, by simp; rfl, by simp [wrap]⟩
  have hlen3 : T.length + tb.length ≤ 1000000 := by omega
  have hcode : ((T.map wrap) ++ tb).all chkCode = true := by
    rw [List.all_append, hb, Bool.and_true, List.all_eq_true]
    intro x hx
    obtain ⟨d, hd, rfl⟩ := List.mem_map.mp hx
    obtain ⟨rows, due, rfl, h⟩ := row_is (List.all_eq_true.mp hall d hd)
    simp [wrap, chkCode, h]
  have ev : Ev (f_law [.dat (.list (ns.map .int))] []) fun r => r.1 = .bl true := by
    simp [f_law, fnOf_ap, d_law, d_law_0, c1, c2, hlen, ← hT, hTl2, hlc, d_law_1, c3, hlen3]
    have hloop := forL_each (g := []) (tg := gTup 2 (DL.gCons (gName 2) (DL.gCons (gName 3) gNil))) (body := b_law_1) (st := [some (.lst tb)]) id (fun _ => true) (fun S => ∃ x2 x3 x4, S = [.dat (.list (ns.map .int)), .dat (.list (T.map wrap)), x2, x3, x4, .un, .un, .un, .un, .un, .un, .un]) rfl (T.map wrap ++ tb) [.dat (.list (ns.map .int)), .dat (.list (T.map wrap)), .un, .un, .un, .un, .un, .un, .un, .un, .un, .un] ⟨_, _, _, rfl⟩ (by
      rintro d S hd ⟨x2, x3, x4, rfl⟩
      obtain ⟨code, due, rfl, h⟩ := code_is (List.all_eq_true.mp hcode d hd)
      simp [b_law_1, c_is_code, h])
    rw [List.map_id] at hloop
    refine hloop.mono ?_
    rintro ⟨fl, S, st⟩ ⟨h1, h2⟩
    rw [if_pos (by simp)] at h2
    obtain ⟨h2, x2, x3, x4, h3⟩ := h2
    simp only at h1 h2 h3
    subst h1 h2 h3
    have hk : ∃ m : Nat, m ≤ 63 ∧ (if (if (ns.length : Int) < 10 then (ns.length : Int) else 10) > 1 then (if (ns.length : Int) < 10 then (ns.length : Int) else 10) else 1) = (m : Int) := by
      refine ⟨(if (if (ns.length : Int) < 10 then (ns.length : Int) else 10) > 1 then (if (ns.length : Int) < 10 then (ns.length : Int) else 10) else 1).toNat, ?_, ?_⟩ <;> split <;> split <;> omega
    obtain ⟨m, hm, hmk⟩ := hk
    have hrg := rng1_nat (n := m) (st := [some (.lst tb)]) (by omega)
    rw [← hmk] at hrg
    simp at hrg
    simp [d_law_2, hrg]
    refine forL_ev (fun i S st => ∃ x1 x2 x3 x4 x5 x6 x7 x8 x9 x10 x11, S = [.dat (.list (ns.map .int)), x1, x2, x3, x4, x5, x6, x7, x8, x9, x10, x11]) _ 0 _ _ ⟨_, _, _, _, _, _, _, _, _, _, _, rfl⟩ (fun _ _ _ _ => rfl) ?_ ?_
    · rintro i d S st hd ⟨x1, x2, x3, x4, x5, x6, x7, x8, x9, x10, x11, rfl⟩
      obtain ⟨hlt, hde⟩ := List.getElem?_eq_some_iff.mp hd
      simp at hlt hde
      subst hde
      refine Ev.of_eq rfl ?_
      refine (m_law3 ns i (by omega)).mono ?_
      rintro ⟨fl, S, st⟩ ⟨h1, y2, y3, y4, y5, y6, y7, y8, y9, y10, y11, h2⟩
      simp only at h1 h2
      subst h1 h2
      exact ⟨_, _, _, _, _, _, _, _, _, _, _, rfl⟩
    · rintro S st ⟨x1, x2, x3, x4, x5, x6, x7, x8, x9, x10, x11, rfl⟩
      simp [d_law_3]
  obtain ⟨⟨v, st⟩, e, h⟩ := ev
  simp only at h
  subst h
  exact ⟨st, e⟩
end LW
set_option Elab.async false
set_option linter.all false
set_option maxRecDepth 100000
set_option maxHeartbeats 0
namespace LW
open PySem PySem.Spec PyProof.Rows L2 DL
/-! ### the head -/
def D_is_whole : He.DefD := ⟨("is_whole", none), "is_whole", "is_whole", defArgs s_is_whole, defBody s_is_whole, defScope s_is_whole, [], []⟩
def D_is_between : He.DefD := ⟨("is_between", none), "is_between", "is_between", defArgs s_is_between, defBody s_is_between, defScope s_is_between, [], []⟩
def D_is_span : He.DefD := ⟨("is_span", none), "is_span", "is_span", defArgs s_is_span, defBody s_is_span, defScope s_is_span, [], []⟩
def D_limits_of : He.DefD := ⟨("limits_of", none), "limits_of", "limits_of", defArgs s_limits_of, defBody s_limits_of, defScope s_limits_of, [], []⟩
def D_is_part : He.DefD := ⟨("is_part", none), "is_part", "is_part", defArgs s_is_part, defBody s_is_part, defScope s_is_part, [], []⟩
def D_is_row_within : He.DefD := ⟨("is_row_within", none), "is_row_within", "is_row_within", defArgs s_is_row_within, defBody s_is_row_within, defScope s_is_row_within, [], []⟩
def D_loops_by : He.DefD := ⟨("loops_by", none), "loops_by", "loops_by", defArgs s_loops_by, defBody s_loops_by, defScope s_loops_by, [], []⟩
def D_around_by : He.DefD := ⟨("around_by", none), "around_by", "around_by", defArgs s_around_by, defBody s_around_by, defScope s_around_by, [], []⟩
def D_is_apart : He.DefD := ⟨("is_apart", none), "is_apart", "is_apart", defArgs s_is_apart, defBody s_is_apart, defScope s_is_apart, [], []⟩
def D_are_loops : He.DefD := ⟨("are_loops", none), "are_loops", "are_loops", defArgs s_are_loops, defBody s_are_loops, defScope s_are_loops, [], []⟩
def D_are_jumps : He.DefD := ⟨("are_jumps", none), "are_jumps", "are_jumps", defArgs s_are_jumps, defBody s_are_jumps, defScope s_are_jumps, [], []⟩
def D_are_rows : He.DefD := ⟨("are_rows", none), "are_rows", "are_rows", defArgs s_are_rows, defBody s_are_rows, defScope s_are_rows, [], []⟩
def D_is_code : He.DefD := ⟨("is_code", none), "is_code", "is_code", defArgs s_is_code, defBody s_is_code, defScope s_is_code, [], []⟩
def D__law_pot : He.DefD := ⟨("_law_pot", none), "_law_pot", "_law_pot", defArgs s__law_pot, defBody s__law_pot, defScope s__law_pot, [], []⟩
def D__law_take : He.DefD := ⟨("_law_take", none), "_law_take", "_law_take", defArgs s__law_take, defBody s__law_take, defScope s__law_take, [], []⟩
def D__law_loops : He.DefD := ⟨("_law_loops", none), "_law_loops", "_law_loops", defArgs s__law_loops, defBody s__law_loops, defScope s__law_loops, [], []⟩
def D__law_around : He.DefD := ⟨("_law_around", none), "_law_around", "_law_around", defArgs s__law_around, defBody s__law_around, defScope s__law_around, [], []⟩
def D__law_plain_row : He.DefD := ⟨("_law_plain_row", none), "_law_plain_row", "_law_plain_row", defArgs s__law_plain_row, defBody s__law_plain_row, defScope s__law_plain_row, [], []⟩
def D__law_code : He.DefD := ⟨("_law_code", none), "_law_code", "_law_code", defArgs s__law_code, defBody s__law_code, defScope s__law_code, [], []⟩
def D__law_nested : He.DefD := ⟨("_law_nested", none), "_law_nested", "_law_nested", defArgs s__law_nested, defBody s__law_nested, defScope s__law_nested, [], []⟩
def D__law_whole : He.DefD := ⟨("_law_whole", none), "_law_whole", "_law_whole", defArgs s__law_whole, defBody s__law_whole, defScope s__law_whole, [], []⟩
def D__law_is_row : He.DefD := ⟨("_law_is_row", none), "_law_is_row", "_law_is_row", defArgs s__law_is_row, defBody s__law_is_row, defScope s__law_is_row, [], []⟩
def D__law_are_jumps : He.DefD := ⟨("_law_are_jumps", none), "_law_are_jumps", "_law_are_jumps", defArgs s__law_are_jumps, defBody s__law_are_jumps, defScope s__law_are_jumps, [], []⟩
def D__law_is_code : He.DefD := ⟨("_law_is_code", none), "_law_is_code", "_law_is_code", defArgs s__law_is_code, defBody s__law_is_code, defScope s__law_is_code, [], []⟩
def D__law_odd : He.DefD := ⟨("_law_odd", none), "_law_odd", "_law_odd", defArgs s__law_odd, defBody s__law_odd, defScope s__law_odd, [], []⟩
def D__law_spoilt : He.DefD := ⟨("_law_spoilt", none), "_law_spoilt", "_law_spoilt", defArgs s__law_spoilt, defBody s__law_spoilt, defScope s__law_spoilt, [], []⟩
def D__law_bent : He.DefD := ⟨("_law_bent", none), "_law_bent", "_law_bent", defArgs s__law_bent, defBody s__law_bent, defScope s__law_bent, [], []⟩
def D__law_written : He.DefD := ⟨("_law_written", none), "_law_written", "_law_written", defArgs s__law_written, defBody s__law_written, defScope s__law_written, [], []⟩
def D__law_bounds : He.DefD := ⟨("_law_bounds", none), "_law_bounds", "_law_bounds", defArgs s__law_bounds, defBody s__law_bounds, defScope s__law_bounds, [], []⟩
def D__law_laps : He.DefD := ⟨("_law_laps", none), "_law_laps", "_law_laps", defArgs s__law_laps, defBody s__law_laps, defScope s__law_laps, [], []⟩
def D_law : He.DefD := ⟨("law", none), "law", "law", defArgs s_law, defBody s_law, defScope s_law, [], []⟩
def fnL : List He.DefD := [D_is_whole, D_is_between, D_is_span, D_limits_of, D_is_part, D_is_row_within, D_loops_by, D_around_by, D_is_apart, D_are_loops, D_are_jumps, D_are_rows, D_is_code, D__law_pot, D__law_take, D__law_loops, D__law_around, D__law_plain_row, D__law_code, D__law_nested, D__law_whole, D__law_is_row, D__law_are_jumps, D__law_is_code, D__law_odd, D__law_spoilt, D__law_bent, D__law_written, D__law_bounds, D__law_laps, D_law]
def faG : List He.Fa := [.glo "is_whole", .glo "is_between", .glo "is_span", .glo "limits_of", .glo "is_part", .glo "is_row_within", .glo "loops_by", .glo "around_by", .glo "is_apart", .glo "are_loops", .glo "are_jumps", .glo "are_rows", .glo "is_code", .glo "_law_pot", .glo "_law_take", .glo "_law_loops", .glo "_law_around", .glo "_law_plain_row", .glo "_law_code", .glo "_law_nested", .glo "_law_whole", .glo "_law_is_row", .glo "_law_are_jumps", .glo "_law_is_code", .glo "_law_odd", .glo "_law_spoilt", .glo "_law_bent", .glo "_law_written", .glo "_law_bounds", .glo "_law_laps", .glo "law"]
def faF : List He.Fa := [.free "abs", .free "all", .free "bool", .free "dict", .free "enumerate", .free "int", .free "isinstance", .free "len", .free "list", .free "max", .free "min", .free "range", .free "repr", .free "sorted", .free "str", .free "tuple", .free "zip"]
def faL : List He.Fa := faG ++ faF
def csL : Cons := [("ARRAY", (.str "array")), ("DEEPEST", (.int 2)), ("JUMPS", (.tuple [(.str "test"), (.str "go")])), ("MOST_ASKS", (.int 3)), ("MOST_MANY", (.int 16)), ("MOST_ROUNDS", (.int 6)), ("MOST_ROWS", (.int 60)), ("MOST_SIZE", (.int 6)), ("MOST_WORTH", (.int 255)), ("REGISTER", (.str "register")), ("ROUNDS", (.str "rounds")), ("ROW", (.str "row")), ("WORTH", (.str "worth"))]
def tsL : Tabs := [("FORMS", tab_FORMS)]
def nm0 : List Str := ["MOST_ASKS", "MOST_MANY", "MOST_SIZE", "MOST_ROWS", "MOST_ROUNDS", "MOST_WORTH", "DEEPEST", "REGISTER", "WORTH", "ARRAY", "ROW", "ROUNDS", "THREE", "FORMS", "JUMPS", "is_whole", "is_between", "is_span", "limits_of", "is_part", "is_row_within", "loops_by", "around_by", "is_apart", "are_loops", "are_jumps", "are_rows", "is_code", "_law_pot", "_law_take"]
def nm1 : List Str := ["_law_loops", "_law_around", "_law_plain_row", "_law_code", "_law_nested", "_law_is_row", "_law_are_jumps", "_law_is_code", "_law_whole", "_law_odd", "_law_spoilt", "_law_bent", "_law_written", "_law_bounds", "_law_laps"]
def nmL : List Str := nm0 ++ nm1
abbrev RL : PySem.W.OpenRow := PySem.W.OpenLaw.row PySem.Challenge.rw_pacewide_k10_codes_known
abbrev hkL : PySem.W.Hook := hookM 4 faL fnL csL tsL
def obL (s : PySem.W.SharedT) : AlM := obsM 4 faL fnL csL tsL (HandSHeadRun.getT s)
theorem obL_eq (s : PySem.W.SharedT) : obL s = hkL.obs s.abs := obsM_eq (HandSHeadRun.getT_eq s)
theorem runL (w : World) : HandSHeadRun.RunEq RL (PySem.W.view RL.prog [47]) hkL obL 4000 nmL w :=
  PySem.W.byRow2 "special-get-raises" (P := fun w => HandSHeadRun.RunEq RL (PySem.W.view RL.prog [47]) hkL obL 4000 nmL w) (fun w os => by kernel_rfl) (fun w os => by kernel_rfl) w
theorem txtL {w : World} {K : Frag} {mg : Str → Option Value} (T : HeadOk faL fnL csL tsL w K mg) : Txt K w mg where
  c_ARRAY := T.con _ _ (List.mem_of_getElem? (show (csL : List (Str × PyData))[0]? = some (("ARRAY", (.str "array")) : Str × PyData) from rfl))
  c_DEEPEST := T.con _ _ (List.mem_of_getElem? (show (csL : List (Str × PyData))[1]? = some (("DEEPEST", (.int 2)) : Str × PyData) from rfl))
  c_JUMPS := T.con _ _ (List.mem_of_getElem? (show (csL : List (Str × PyData))[2]? = some (("JUMPS", (.tuple [(.str "test"), (.str "go")])) : Str × PyData) from rfl))
  c_MOST_ASKS := T.con _ _ (List.mem_of_getElem? (show (csL : List (Str × PyData))[3]? = some (("MOST_ASKS", (.int 3)) : Str × PyData) from rfl))
  c_MOST_MANY := T.con _ _ (List.mem_of_getElem? (show (csL : List (Str × PyData))[4]? = some (("MOST_MANY", (.int 16)) : Str × PyData) from rfl))
  c_MOST_ROUNDS := T.con _ _ (List.mem_of_getElem? (show (csL : List (Str × PyData))[5]? = some (("MOST_ROUNDS", (.int 6)) : Str × PyData) from rfl))
  c_MOST_ROWS := T.con _ _ (List.mem_of_getElem? (show (csL : List (Str × PyData))[6]? = some (("MOST_ROWS", (.int 60)) : Str × PyData) from rfl))
  c_MOST_SIZE := T.con _ _ (List.mem_of_getElem? (show (csL : List (Str × PyData))[7]? = some (("MOST_SIZE", (.int 6)) : Str × PyData) from rfl))
  c_MOST_WORTH := T.con _ _ (List.mem_of_getElem? (show (csL : List (Str × PyData))[8]? = some (("MOST_WORTH", (.int 255)) : Str × PyData) from rfl))
  c_REGISTER := T.con _ _ (List.mem_of_getElem? (show (csL : List (Str × PyData))[9]? = some (("REGISTER", (.str "register")) : Str × PyData) from rfl))
  c_ROUNDS := T.con _ _ (List.mem_of_getElem? (show (csL : List (Str × PyData))[10]? = some (("ROUNDS", (.str "rounds")) : Str × PyData) from rfl))
  c_ROW := T.con _ _ (List.mem_of_getElem? (show (csL : List (Str × PyData))[11]? = some (("ROW", (.str "row")) : Str × PyData) from rfl))
  c_WORTH := T.con _ _ (List.mem_of_getElem? (show (csL : List (Str × PyData))[12]? = some (("WORTH", (.str "worth")) : Str × PyData) from rfl))
  k_FORMS := T.tab _ _ (List.mem_of_getElem? (show (tsL : List (Str × List (Str × PyData)))[0]? = some (("FORMS", tab_FORMS) : Str × List (Str × PyData)) from rfl))
  n_abs := T.free _ (List.mem_of_getElem? (show faL[31]? = some (.free "abs") from rfl))
  n_all := T.free _ (List.mem_of_getElem? (show faL[32]? = some (.free "all") from rfl))
  n_bool := T.free _ (List.mem_of_getElem? (show faL[33]? = some (.free "bool") from rfl))
  n_dict := T.free _ (List.mem_of_getElem? (show faL[34]? = some (.free "dict") from rfl))
  n_enumerate := T.free _ (List.mem_of_getElem? (show faL[35]? = some (.free "enumerate") from rfl))
  n_int := T.free _ (List.mem_of_getElem? (show faL[36]? = some (.free "int") from rfl))
  n_isinstance := T.free _ (List.mem_of_getElem? (show faL[37]? = some (.free "isinstance") from rfl))
  n_len := T.free _ (List.mem_of_getElem? (show faL[38]? = some (.free "len") from rfl))
  n_list := T.free _ (List.mem_of_getElem? (show faL[39]? = some (.free "list") from rfl))
  n_max := T.free _ (List.mem_of_getElem? (show faL[40]? = some (.free "max") from rfl))
  n_min := T.free _ (List.mem_of_getElem? (show faL[41]? = some (.free "min") from rfl))
  n_range := T.free _ (List.mem_of_getElem? (show faL[42]? = some (.free "range") from rfl))
  n_repr := T.free _ (List.mem_of_getElem? (show faL[43]? = some (.free "repr") from rfl))
  n_sorted := T.free _ (List.mem_of_getElem? (show faL[44]? = some (.free "sorted") from rfl))
  n_str := T.free _ (List.mem_of_getElem? (show faL[45]? = some (.free "str") from rfl))
  n_tuple := T.free _ (List.mem_of_getElem? (show faL[46]? = some (.free "tuple") from rfl))
  n_zip := T.free _ (List.mem_of_getElem? (show faL[47]? = some (.free "zip") from rfl))
theorem callL {w : World} {K : Frag} {mg : Str → Option Value} {fa : Addr} (T : HeadOk faL fnL csL tsL w K mg) (hmg : mg "law" = some (.ref fa)) (L : ∀ ns : List Int, ns.length ≤ 63 → ∃ st, f_law [.dat (.list (ns.map .int))] [] = some (.bl true, st)) :
    ∃ fd : FuncData, (∀ (s : Shared) (u : Value), BindsTo s fd ⟨[u], []⟩ [("script", u)]) ∧ ∀ base : Heap, CallAt (PySem.Challenge.rw_pacewide_k10_codes_known).prog w K mg base callerA fa fd ["script"] (spTop K 63) := by
  have X := txtL T
  obtain ⟨a_is_whole, fd_is_whole, g_is_whole, F_is_whole⟩ := T.def_ D_is_whole (List.mem_of_getElem? (show fnL[0]? = some D_is_whole from rfl)) rfl (List.mem_of_getElem? (show faL[0]? = some (.glo "is_whole") from rfl))
  obtain ⟨a_is_between, fd_is_between, g_is_between, F_is_between⟩ := T.def_ D_is_between (List.mem_of_getElem? (show fnL[1]? = some D_is_between from rfl)) rfl (List.mem_of_getElem? (show faL[1]? = some (.glo "is_between") from rfl))
  obtain ⟨a_is_span, fd_is_span, g_is_span, F_is_span⟩ := T.def_ D_is_span (List.mem_of_getElem? (show fnL[2]? = some D_is_span from rfl)) rfl (List.mem_of_getElem? (show faL[2]? = some (.glo "is_span") from rfl))
  obtain ⟨a_limits_of, fd_limits_of, g_limits_of, F_limits_of⟩ := T.def_ D_limits_of (List.mem_of_getElem? (show fnL[3]? = some D_limits_of from rfl)) rfl (List.mem_of_getElem? (show faL[3]? = some (.glo "limits_of") from rfl))
  obtain ⟨a_is_part, fd_is_part, g_is_part, F_is_part⟩ := T.def_ D_is_part (List.mem_of_getElem? (show fnL[4]? = some D_is_part from rfl)) rfl (List.mem_of_getElem? (show faL[4]? = some (.glo "is_part") from rfl))
  obtain ⟨a_is_row_within, fd_is_row_within, g_is_row_within, F_is_row_within⟩ := T.def_ D_is_row_within (List.mem_of_getElem? (show fnL[5]? = some D_is_row_within from rfl)) rfl (List.mem_of_getElem? (show faL[5]? = some (.glo "is_row_within") from rfl))
  obtain ⟨a_loops_by, fd_loops_by, g_loops_by, F_loops_by⟩ := T.def_ D_loops_by (List.mem_of_getElem? (show fnL[6]? = some D_loops_by from rfl)) rfl (List.mem_of_getElem? (show faL[6]? = some (.glo "loops_by") from rfl))
  obtain ⟨a_around_by, fd_around_by, g_around_by, F_around_by⟩ := T.def_ D_around_by (List.mem_of_getElem? (show fnL[7]? = some D_around_by from rfl)) rfl (List.mem_of_getElem? (show faL[7]? = some (.glo "around_by") from rfl))
  obtain ⟨a_is_apart, fd_is_apart, g_is_apart, F_is_apart⟩ := T.def_ D_is_apart (List.mem_of_getElem? (show fnL[8]? = some D_is_apart from rfl)) rfl (List.mem_of_getElem? (show faL[8]? = some (.glo "is_apart") from rfl))
  obtain ⟨a_are_loops, fd_are_loops, g_are_loops, F_are_loops⟩ := T.def_ D_are_loops (List.mem_of_getElem? (show fnL[9]? = some D_are_loops from rfl)) rfl (List.mem_of_getElem? (show faL[9]? = some (.glo "are_loops") from rfl))
  obtain ⟨a_are_jumps, fd_are_jumps, g_are_jumps, F_are_jumps⟩ := T.def_ D_are_jumps (List.mem_of_getElem? (show fnL[10]? = some D_are_jumps from rfl)) rfl (List.mem_of_getElem? (show faL[10]? = some (.glo "are_jumps") from rfl))
  obtain ⟨a_are_rows, fd_are_rows, g_are_rows, F_are_rows⟩ := T.def_ D_are_rows (List.mem_of_getElem? (show fnL[11]? = some D_are_rows from rfl)) rfl (List.mem_of_getElem? (show faL[11]? = some (.glo "are_rows") from rfl))
  obtain ⟨a_is_code, fd_is_code, g_is_code, F_is_code⟩ := T.def_ D_is_code (List.mem_of_getElem? (show fnL[12]? = some D_is_code from rfl)) rfl (List.mem_of_getElem? (show faL[12]? = some (.glo "is_code") from rfl))
  obtain ⟨a__law_pot, fd__law_pot, g__law_pot, F__law_pot⟩ := T.def_ D__law_pot (List.mem_of_getElem? (show fnL[13]? = some D__law_pot from rfl)) rfl (List.mem_of_getElem? (show faL[13]? = some (.glo "_law_pot") from rfl))
  obtain ⟨a__law_take, fd__law_take, g__law_take, F__law_take⟩ := T.def_ D__law_take (List.mem_of_getElem? (show fnL[14]? = some D__law_take from rfl)) rfl (List.mem_of_getElem? (show faL[14]? = some (.glo "_law_take") from rfl))
  obtain ⟨a__law_loops, fd__law_loops, g__law_loops, F__law_loops⟩ := T.def_ D__law_loops (List.mem_of_getElem? (show fnL[15]? = some D__law_loops from rfl)) rfl (List.mem_of_getElem? (show faL[15]? = some (.glo "_law_loops") from rfl))
  obtain ⟨a__law_around, fd__law_around, g__law_around, F__law_around⟩ := T.def_ D__law_around (List.mem_of_getElem? (show fnL[16]? = some D__law_around from rfl)) rfl (List.mem_of_getElem? (show faL[16]? = some (.glo "_law_around") from rfl))
  obtain ⟨a__law_plain_row, fd__law_plain_row, g__law_plain_row, F__law_plain_row⟩ := T.def_ D__law_plain_row (List.mem_of_getElem? (show fnL[17]? = some D__law_plain_row from rfl)) rfl (List.mem_of_getElem? (show faL[17]? = some (.glo "_law_plain_row") from rfl))
  obtain ⟨a__law_code, fd__law_code, g__law_code, F__law_code⟩ := T.def_ D__law_code (List.mem_of_getElem? (show fnL[18]? = some D__law_code from rfl)) rfl (List.mem_of_getElem? (show faL[18]? = some (.glo "_law_code") from rfl))
  obtain ⟨a__law_nested, fd__law_nested, g__law_nested, F__law_nested⟩ := T.def_ D__law_nested (List.mem_of_getElem? (show fnL[19]? = some D__law_nested from rfl)) rfl (List.mem_of_getElem? (show faL[19]? = some (.glo "_law_nested") from rfl))
  obtain ⟨a__law_whole, fd__law_whole, g__law_whole, F__law_whole⟩ := T.def_ D__law_whole (List.mem_of_getElem? (show fnL[20]? = some D__law_whole from rfl)) rfl (List.mem_of_getElem? (show faL[20]? = some (.glo "_law_whole") from rfl))
  obtain ⟨a__law_is_row, fd__law_is_row, g__law_is_row, F__law_is_row⟩ := T.def_ D__law_is_row (List.mem_of_getElem? (show fnL[21]? = some D__law_is_row from rfl)) rfl (List.mem_of_getElem? (show faL[21]? = some (.glo "_law_is_row") from rfl))
  obtain ⟨a__law_are_jumps, fd__law_are_jumps, g__law_are_jumps, F__law_are_jumps⟩ := T.def_ D__law_are_jumps (List.mem_of_getElem? (show fnL[22]? = some D__law_are_jumps from rfl)) rfl (List.mem_of_getElem? (show faL[22]? = some (.glo "_law_are_jumps") from rfl))
  obtain ⟨a__law_is_code, fd__law_is_code, g__law_is_code, F__law_is_code⟩ := T.def_ D__law_is_code (List.mem_of_getElem? (show fnL[23]? = some D__law_is_code from rfl)) rfl (List.mem_of_getElem? (show faL[23]? = some (.glo "_law_is_code") from rfl))
  obtain ⟨a__law_odd, fd__law_odd, g__law_odd, F__law_odd⟩ := T.def_ D__law_odd (List.mem_of_getElem? (show fnL[24]? = some D__law_odd from rfl)) rfl (List.mem_of_getElem? (show faL[24]? = some (.glo "_law_odd") from rfl))
  obtain ⟨a__law_spoilt, fd__law_spoilt, g__law_spoilt, F__law_spoilt⟩ := T.def_ D__law_spoilt (List.mem_of_getElem? (show fnL[25]? = some D__law_spoilt from rfl)) rfl (List.mem_of_getElem? (show faL[25]? = some (.glo "_law_spoilt") from rfl))
  obtain ⟨a__law_bent, fd__law_bent, g__law_bent, F__law_bent⟩ := T.def_ D__law_bent (List.mem_of_getElem? (show fnL[26]? = some D__law_bent from rfl)) rfl (List.mem_of_getElem? (show faL[26]? = some (.glo "_law_bent") from rfl))
  obtain ⟨a__law_written, fd__law_written, g__law_written, F__law_written⟩ := T.def_ D__law_written (List.mem_of_getElem? (show fnL[27]? = some D__law_written from rfl)) rfl (List.mem_of_getElem? (show faL[27]? = some (.glo "_law_written") from rfl))
  obtain ⟨a__law_bounds, fd__law_bounds, g__law_bounds, F__law_bounds⟩ := T.def_ D__law_bounds (List.mem_of_getElem? (show fnL[28]? = some D__law_bounds from rfl)) rfl (List.mem_of_getElem? (show faL[28]? = some (.glo "_law_bounds") from rfl))
  obtain ⟨a__law_laps, fd__law_laps, g__law_laps, F__law_laps⟩ := T.def_ D__law_laps (List.mem_of_getElem? (show fnL[29]? = some D__law_laps from rfl)) rfl (List.mem_of_getElem? (show faL[29]? = some (.glo "_law_laps") from rfl))
  obtain ⟨a_law, fd_law, g_law, F_law⟩ := T.def_ D_law (List.mem_of_getElem? (show fnL[30]? = some D_law from rfl)) rfl (List.mem_of_getElem? (show faL[30]? = some (.glo "law") from rfl))
  have e := hmg.symm.trans g_law
  cases e
  have b := FunD.bindsA (ps := ["script"]) F_law fun _ _ _ _ _ _ us hl => match us, hl with | [_], _ => rfl
  refine ⟨fd_law, fun s u => b s [u] rfl, fun base => ?_⟩
  have o_is_whole := o_is_whole (P := (PySem.Challenge.rw_pacewide_k10_codes_known).prog) (base := base) X T.sys F_is_whole g_is_whole 
  have o_is_between := o_is_between (P := (PySem.Challenge.rw_pacewide_k10_codes_known).prog) (base := base) X T.sys F_is_between g_is_between o_is_whole
  have o_is_span := o_is_span (P := (PySem.Challenge.rw_pacewide_k10_codes_known).prog) (base := base) X T.sys F_is_span g_is_span o_is_between
  have o_limits_of := o_limits_of (P := (PySem.Challenge.rw_pacewide_k10_codes_known).prog) (base := base) X T.sys F_limits_of g_limits_of 
  have o_is_part := o_is_part (P := (PySem.Challenge.rw_pacewide_k10_codes_known).prog) (base := base) X T.sys F_is_part g_is_part o_is_between
  have o_is_row_within := o_is_row_within (P := (PySem.Challenge.rw_pacewide_k10_codes_known).prog) (base := base) X T.sys F_is_row_within g_is_row_within o_is_part
  have o_loops_by := o_loops_by (P := (PySem.Challenge.rw_pacewide_k10_codes_known).prog) (base := base) X T.sys F_loops_by g_loops_by 
  have o_around_by := o_around_by (P := (PySem.Challenge.rw_pacewide_k10_codes_known).prog) (base := base) X T.sys F_around_by g_around_by 
  have o_is_apart := o_is_apart (P := (PySem.Challenge.rw_pacewide_k10_codes_known).prog) (base := base) X T.sys F_is_apart g_is_apart 
  have o_are_loops := o_are_loops (P := (PySem.Challenge.rw_pacewide_k10_codes_known).prog) (base := base) X T.sys F_are_loops g_are_loops o_is_apart o_around_by
  have o_are_jumps := o_are_jumps (P := (PySem.Challenge.rw_pacewide_k10_codes_known).prog) (base := base) X T.sys F_are_jumps g_are_jumps o_around_by
  have o_are_rows := o_are_rows (P := (PySem.Challenge.rw_pacewide_k10_codes_known).prog) (base := base) X T.sys F_are_rows g_are_rows o_is_row_within o_loops_by o_are_loops o_are_jumps
  have o_is_code := o_is_code (P := (PySem.Challenge.rw_pacewide_k10_codes_known).prog) (base := base) X T.sys F_is_code g_is_code o_is_span o_is_between o_limits_of o_are_rows
  have o__law_pot := o__law_pot (P := (PySem.Challenge.rw_pacewide_k10_codes_known).prog) (base := base) X T.sys F__law_pot g__law_pot 
  have o__law_take := o__law_take (P := (PySem.Challenge.rw_pacewide_k10_codes_known).prog) (base := base) X T.sys F__law_take g__law_take 
  have o__law_loops := o__law_loops (P := (PySem.Challenge.rw_pacewide_k10_codes_known).prog) (base := base) X T.sys F__law_loops g__law_loops o__law_take
  have o__law_around := o__law_around (P := (PySem.Challenge.rw_pacewide_k10_codes_known).prog) (base := base) X T.sys F__law_around g__law_around 
  have o__law_plain_row := o__law_plain_row (P := (PySem.Challenge.rw_pacewide_k10_codes_known).prog) (base := base) X T.sys F__law_plain_row g__law_plain_row o__law_take
  have o__law_code := o__law_code (P := (PySem.Challenge.rw_pacewide_k10_codes_known).prog) (base := base) X T.sys F__law_code g__law_code o__law_take o__law_loops o__law_around o__law_plain_row
  have o__law_nested := o__law_nested (P := (PySem.Challenge.rw_pacewide_k10_codes_known).prog) (base := base) X T.sys F__law_nested g__law_nested 
  have o__law_whole := o__law_whole (P := (PySem.Challenge.rw_pacewide_k10_codes_known).prog) (base := base) X T.sys F__law_whole g__law_whole 
  have o__law_is_row := o__law_is_row (P := (PySem.Challenge.rw_pacewide_k10_codes_known).prog) (base := base) X T.sys F__law_is_row g__law_is_row o__law_whole
  have o__law_are_jumps := o__law_are_jumps (P := (PySem.Challenge.rw_pacewide_k10_codes_known).prog) (base := base) X T.sys F__law_are_jumps g__law_are_jumps 
  have o__law_is_code := o__law_is_code (P := (PySem.Challenge.rw_pacewide_k10_codes_known).prog) (base := base) X T.sys F__law_is_code g__law_is_code o__law_whole o__law_is_row o__law_nested o__law_are_jumps
  have o__law_odd := o__law_odd (P := (PySem.Challenge.rw_pacewide_k10_codes_known).prog) (base := base) X T.sys F__law_odd g__law_odd o__law_take
  have o__law_spoilt := o__law_spoilt (P := (PySem.Challenge.rw_pacewide_k10_codes_known).prog) (base := base) X T.sys F__law_spoilt g__law_spoilt o__law_odd o__law_take o__law_whole
  have o__law_bent := o__law_bent (P := (PySem.Challenge.rw_pacewide_k10_codes_known).prog) (base := base) X T.sys F__law_bent g__law_bent o__law_take o__law_spoilt
  have o__law_written := o__law_written (P := (PySem.Challenge.rw_pacewide_k10_codes_known).prog) (base := base) X T.sys F__law_written g__law_written 
  have o__law_bounds := o__law_bounds (P := (PySem.Challenge.rw_pacewide_k10_codes_known).prog) (base := base) X T.sys F__law_bounds g__law_bounds 
  have o__law_laps := o__law_laps (P := (PySem.Challenge.rw_pacewide_k10_codes_known).prog) (base := base) X T.sys F__law_laps g__law_laps 
  exact c_law X T.sys F_law g_law o__law_written o__law_laps o__law_bounds o_is_code o__law_pot o__law_code o__law_is_code o__law_bent o__law_odd o__law_spoilt ⟨rfl, by decide, by decide⟩ L
end LW
open PySem PySem.W PySem.Calls PyProof.Rows
theorem LW.holds (L : ∀ ns : List Int, ns.length ≤ 63 → ∃ st, LW.f_law [.dat (.list (ns.map .int))] [] = some (DL.AV.bl true, st)) : PySem.Challenge.rw_pacewide_k10_codes_known.Holds := by
  w_on; o_law
  refine HandSHeadRun.head_any (r := OpenLaw.row PySem.Challenge.rw_pacewide_k10_codes_known) (q := view (OpenLaw.row PySem.Challenge.rw_pacewide_k10_codes_known).prog [47]) (H := LW.hkL) (ob := LW.obL) (M := 4000) (loose := LW.nmL) (d := HandSHeadRun.topDef (OpenLaw.row PySem.Challenge.rw_pacewide_k10_codes_known).prog 47) (kwd := []) LW.obL_eq
    (by kernel_rfl) (fun s => by kernel_rfl) LW.runL (by kernel_rfl) (by kernel_rfl) (by kernel_rfl) (by rfl) (by first | assumption | decide +kernel) (by decide +kernel) ⟨rfl, rfl, rfl, rfl, rfl, by decide +kernel⟩ ?hw ?hc
  case hw => w_witness2
  case hc =>
    refine DL.walk_top (l := PySem.Challenge.rw_pacewide_k10_codes_known) (n := 63) (x := "script") rfl (by decide) (by kernel_rfl) ?F
    intro w mg fa h Y G hmg0
    obtain ⟨K, KX, c, e⟩ := Y
    have hmg : mg ("law" : PySem.Str) = some (.ref fa) := by
      have e : (HandSHeadRun.topDef (OpenLaw.row PySem.Challenge.rw_pacewide_k10_codes_known).prog 47).name = ("law" : PySem.Str) := by kernel_rfl
      rw [← e]
      exact hmg0
    obtain ⟨fd, hb, hF⟩ := LW.callL (DL.headOk KX G c e) hmg L
    exact ⟨K, fd, DL.spTop K 63, KX, hb, fun H a ns hl hS => ⟨a, ns, rfl, hl, hS, fun _ => rfl⟩, fun base _ _ => hF base⟩
theorem PySem.Challenge.cw_pacewide_k10_codes_known_holds : PySem.Challenge.rw_pacewide_k10_codes_known.Holds :=
  LW.holds LW.law_true
#print axioms PySem.Challenge.cw_pacewide_k10_codes_known_holds
