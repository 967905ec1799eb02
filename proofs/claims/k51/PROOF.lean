import PyProof.Rows.All
import Wide.All
import OpenK.AllK
import Wide.FinOn
import HandS.ForMost
import HandS.Walk
import HandS.Ends
import HandS.Star
import HandS.IsInst
import HandS.TupAny
import HandS.TupMul
import HandS.TupLe
import HandS.Wide
import HandS.SortInts
import HandS.Deep
import HandS.Conv
import HandS.Small
import HandS.Zip
import HandS.WideBits
import HandS.FStr
import HandS.RaiseMore
import KE.GoesEnum
import KE.GoesMore
import PyProof.ReprRoads
import PyProof.TupleOfSeq
import PySem.Challenge.RW_trunkrooms_k51_whole_rows_behind_sorters
set_option Elab.async false
set_option linter.all false
set_option maxRecDepth 100000
set_option maxHeartbeats 4000000
namespace L2.G
open PySem PySem.Spec PyProof.Rows

/-! ## data in slots -/
abbrev D := PyData
/-- a slot: a frozen datum; a list of one's own; a dict of one's own; a caller's dict; the law's script -/
inductive Sl where
  | val (d : D)
  | own (ds : List D)
  | dct (kvs : List (Key × D))
  | arg (kvs : List (Key × D))
  | scr (ns : List Int)
abbrev En := List (Option Sl)
inductive R (α : Type) where
  | ok (a : α) (ρ : En)
  | err (c : Str) (d : D)
  | no
@[reducible] def R.bind {α β : Type} (r : R α) (f : α → En → R β) : R β := match r with
  | .ok a ρ => f a ρ
  | .err c d => .err c d
  | .no => .no

mutual
/-- a value that bears a datum, by what is frozen: its lists and tuples never change again -/
inductive Dv (K : PySem.W.Frag) (F : Hp) : V → D → Prop
  | non : Dv K F .non .none
  | bl (b : Bool) : Dv K F (.bl b) (.bool b)
  | int (i : Int) : Dv K F (.int i) (.int i)
  | str (x : Str) : Dv K F (.str x) (.str x)
  | lst {a : Addr} {xs : List V} {ds : List D} : F a = some (.lst xs) → DvA K F xs ds → Dv K F (.ref a) (.list ds)
  | tup {a : Addr} {xs : List V} {ds : List D} : SqT K F a xs → DvA K F xs ds → Dv K F (.ref a) (.tuple ds)
inductive DvA (K : PySem.W.Frag) (F : Hp) : List V → List D → Prop
  | nil : DvA K F [] []
  | cons {v : V} {vs : List V} {d : D} {ds : List D} : Dv K F v d → DvA K F vs ds → DvA K F (v :: vs) (d :: ds)
end
theorem same_tup {K : PySem.W.Frag} {F F' : Hp} (s : Same F F') {a : Addr} {xs : List V} (h : SqT K F a xs) : SqT K F' a xs := by
  rcases h with (h | ⟨o, h⟩) | h
  · exact .inl (.inl (s _ _ h))
  · exact .inl (.inr ⟨o, s _ _ h⟩)
  · exact .inr h
mutual
theorem dp_mono {K : PySem.W.Frag} {F F' : Hp} (s : Same F F') : ∀ {v : V} {d : D}, Dv K F v d → Dv K F' v d
  | _, _, .non => .non
  | _, _, .bl b => .bl b
  | _, _, .int i => .int i
  | _, _, .str x => .str x
  | _, _, .lst h t => .lst (s _ _ h) (dpa_mono s t)
  | _, _, .tup h t => .tup (same_tup s h) (dpa_mono s t)
theorem dpa_mono {K : PySem.W.Frag} {F F' : Hp} (s : Same F F') : ∀ {vs : List V} {ds : List D}, DvA K F vs ds → DvA K F' vs ds
  | _, _, .nil => .nil
  | _, _, .cons h t => .cons (dp_mono s h) (dpa_mono s t)
end
mutual
theorem dv_dp {K : PySem.W.Frag} {F H : Hp} (s : Same F H) : ∀ {v : V} {d : D}, Dv K F v d → Dp K H v d
  | _, _, .non => .non
  | _, _, .bl b => .bl b
  | _, _, .int i => .int i
  | _, _, .str x => .str x
  | _, _, .lst h t => .lst (.of (s _ _ h)) (dva_dpa s t)
  | _, _, .tup h t => .tup (same_tup s h) (dva_dpa s t)
theorem dva_dpa {K : PySem.W.Frag} {F H : Hp} (s : Same F H) : ∀ {vs : List V} {ds : List D}, DvA K F vs ds → DpAll K H vs ds
  | _, _, .nil => .nil
  | _, _, .cons h t => .cons (dv_dp s h) (dva_dpa s t)
end
theorem dpa_len {K : PySem.W.Frag} {F : Hp} : ∀ {vs : List V} {ds : List D}, DvA K F vs ds → vs.length = ds.length
  | _, _, .nil => rfl
  | _, _, .cons _ t => by rw [List.length_cons, List.length_cons, dpa_len t]
theorem dpa_get {K : PySem.W.Frag} {F : Hp} : ∀ {vs : List V} {ds : List D} {i : Nat} {v : V}, DvA K F vs ds → vs[i]? = some v → ∃ d, ds[i]? = some d ∧ Dv K F v d
  | _, _, _, _, .nil, e => by simp at e
  | _, _, 0, _, .cons h _, e => by simp at e; subst e; exact ⟨_, rfl, h⟩
  | _, _, i + 1, v, .cons _ t, e => by
    obtain ⟨d, h1, h2⟩ := dpa_get (i := i) (v := v) t (by simpa using e)
    exact ⟨d, by simpa using h1, h2⟩
theorem dpa_get' {K : PySem.W.Frag} {F : Hp} : ∀ {vs : List V} {ds : List D} {i : Nat} {d : D}, DvA K F vs ds → ds[i]? = some d → ∃ v, vs[i]? = some v ∧ Dv K F v d
  | _, _, _, _, .nil, e => by simp at e
  | _, _, 0, _, .cons h _, e => by simp at e; subst e; exact ⟨_, rfl, h⟩
  | _, _, i + 1, v, .cons _ t, e => by
    obtain ⟨d, h1, h2⟩ := dpa_get' (i := i) (d := v) t (by simpa using e)
    exact ⟨d, by simpa using h1, h2⟩
theorem dpa_app {K : PySem.W.Frag} {F : Hp} : ∀ {vs ws : List V} {ds es : List D}, DvA K F vs ds → DvA K F ws es → DvA K F (vs ++ ws) (ds ++ es)
  | _, _, _, _, .nil, q => q
  | _, _, _, _, .cons h t, q => .cons h (dpa_app t q)
theorem dpa_take {K : PySem.W.Frag} {F : Hp} : ∀ {vs : List V} {ds : List D} (n : Nat), DvA K F vs ds → DvA K F (vs.take n) (ds.take n)
  | _, _, 0, _ => .nil
  | _, _, _ + 1, .nil => .nil
  | _, _, n + 1, .cons h t => .cons h (dpa_take n t)
theorem dpa_drop {K : PySem.W.Frag} {F : Hp} : ∀ {vs : List V} {ds : List D} (n : Nat), DvA K F vs ds → DvA K F (vs.drop n) (ds.drop n)
  | _, _, 0, q => q
  | _, _, _ + 1, .nil => .nil
  | _, _, n + 1, .cons _ t => dpa_drop n t
theorem dpa_set {K : PySem.W.Frag} {F : Hp} {v : V} {d : D} (h : Dv K F v d) : ∀ {vs : List V} {ds : List D} (n : Nat), DvA K F vs ds → DvA K F (vs.set n v) (ds.set n d)
  | _, _, _, .nil => .nil
  | _, _, 0, .cons _ t => .cons h t
  | _, _, n + 1, .cons q t => .cons q (dpa_set h n t)
theorem dpa_rev {K : PySem.W.Frag} {F : Hp} : ∀ {vs : List V} {ds : List D}, DvA K F vs ds → DvA K F vs.reverse ds.reverse
  | _, _, .nil => .nil
  | _, _, .cons h t => by
    rw [List.reverse_cons, List.reverse_cons]
    exact dpa_app (dpa_rev t) (.cons h .nil)

/-! ## the state relation -/
abbrev KvD (K : PySem.W.Frag) (F : Hp) : List (Key × V) → List (Key × D) → Prop := Paired fun (p : Key × V) (q : Key × D) => p.1 = q.1 ∧ Dv K F p.2 q.2
theorem kvd_mono {K : PySem.W.Frag} {F F' : Hp} (s : Same F F') {ks : List (Key × V)} {kvs : List (Key × D)} (h : KvD K F ks kvs) : KvD K F' ks kvs :=
  Paired.mapP h fun _ _ q => ⟨q.1, dp_mono s q.2⟩
abbrev Pn := Nat → Option Addr
def slV (σ : St) (i : Nat) : Option V := (σ[i]?).join
def slD (ρ : En) (i : Nat) : Option Sl := (ρ[i]?).join
/-- the dict kvs at a, out of what is frozen -/
def DctAt (K : PySem.W.Frag) (F H : Hp) (a : Addr) (kvs : List (Key × D)) : Prop := F a = none ∧ ∃ ks, H a = some (.dK ks) ∧ KvD K F ks kvs
def LstAt (K : PySem.W.Frag) (F H : Hp) (a : Addr) (ds : List D) : Prop := F a = none ∧ ∃ xs, H a = some (.lst xs) ∧ DvA K F xs ds
def SlOk (K : PySem.W.Frag) (P : Pn) (F H : Hp) (i : Nat) (v : Option V) : Option Sl → Prop
  | none => True
  | some (.val d) => ∃ x, v = some x ∧ Dv K F x d
  | some (.own ds) => ∃ a, v = some (.ref a) ∧ LstAt K F H a ds
  | some (.dct kvs) => ∃ a, v = some (.ref a) ∧ DctAt K F H a kvs
  | some (.arg kvs) => ∃ a, v = some (.ref a) ∧ P i = some a ∧ DctAt K F H a kvs
  | some (.scr ns) => ∃ a, v = some (.ref a) ∧ SqL K F a (ns.map V.int)
def isOwn : Option Sl → Bool
  | some (.own _) => true
  | some (.dct _) => true
  | some (.arg _) => true
  | _ => false
def OwnAt (σ : St) (ρ : En) (i : Nat) (a : Addr) : Prop := slV σ i = some (.ref a) ∧ isOwn (slD ρ i) = true
def Owned (σ : St) (ρ : En) (a : Addr) : Prop := ∃ i, OwnAt σ ρ i a
structure Rep (K : PySem.W.Frag) (P : Pn) (F H : Hp) (σ : St) (ρ : En) : Prop where
  sub : Same F H
  len : σ.length = ρ.length
  at_ : ∀ i, SlOk K P F H i (slV σ i) (slD ρ i)
  inj : ∀ i j a, OwnAt σ ρ i a → OwnAt σ ρ j a → i = j
  pin : ∀ i a, P i = some a → ∃ kvs, slD ρ i = some (.arg kvs)
structure Go (K : PySem.W.Frag) (P : Pn) (F H : Hp) (σ : St) (ρ : En) (F' H' : Hp) (σ' : St) (ρ' : En) : Prop where
  rep : Rep K P F' H' σ' ρ'
  fro : Same F F'
  old : ∀ a, H a ≠ none → ¬ Owned σ ρ a → F' a = F a
  kept : ∀ a o, H a = some o → ¬ Owned σ ρ a → H' a = some o
  own : ∀ a, Owned σ' ρ' a → H a ≠ none → Owned σ ρ a
  alive : ∀ a, H a ≠ none → H' a ≠ none
section
variable {K : PySem.W.Frag} {P : Pn} {F H F1 H1 F2 H2 : Hp} {σ σ1 σ2 : St} {ρ ρ1 ρ2 : En}
theorem Rep.own_some (r : Rep K P F H σ ρ) {i : Nat} {a : Addr} (h : OwnAt σ ρ i a) : H a ≠ none ∧ F a = none := by
  obtain ⟨h1, h2⟩ := h
  have q := r.at_ i
  cases e : slD ρ i with
  | none => rw [e] at h2; cases h2
  | some s =>
    rw [e] at q h2
    cases s with
    | val d => cases h2
    | scr ns => cases h2
    | own ds =>
      obtain ⟨b, e1, f, xs, e2, _⟩ := q
      rw [h1] at e1; cases e1
      exact ⟨by rw [e2]; exact (fun z => nomatch z), f⟩
    | dct ds =>
      obtain ⟨b, e1, f, xs, e2, _⟩ := q
      rw [h1] at e1; cases e1
      exact ⟨by rw [e2]; exact (fun z => nomatch z), f⟩
    | arg ds =>
      obtain ⟨b, e1, _, f, xs, e2, _⟩ := q
      rw [h1] at e1; cases e1
      exact ⟨by rw [e2]; exact (fun z => nomatch z), f⟩
theorem Go.refl (r : Rep K P F H σ ρ) : Go K P F H σ ρ F H σ ρ := ⟨r, Same.refl F, fun _ _ _ => rfl, fun _ _ e _ => e, fun _ h _ => h, fun _ h => h⟩
theorem Go.trans (g : Go K P F H σ ρ F1 H1 σ1 ρ1) (k : Go K P F1 H1 σ1 ρ1 F2 H2 σ2 ρ2) : Go K P F H σ ρ F2 H2 σ2 ρ2 where
  rep := k.rep
  fro := g.fro.trans k.fro
  old := fun a h n => by
    rw [k.old a (g.alive a h) (fun o => n (g.own a o h)), g.old a h n]
  kept := fun a o h n => k.kept a o (g.kept a o h n) fun q => n (g.own a q (by rw [h]; exact (fun z => nomatch z)))
  own := fun a o h => g.own a (k.own a o (g.alive a h)) h
  alive := fun a h => k.alive a (g.alive a h)
/-- new things alone -/
structure Grow (F H F' H' : Hp) : Prop where
  heap : Same H H'
  fro : Same F F'
  old : ∀ a, H a ≠ none → F' a = F a
  sub : Same F' H'
theorem Grow.refl (s : Same F H) : Grow F H F H := ⟨Same.refl H, Same.refl F, fun _ _ => rfl, s⟩
theorem Grow.trans (g : Grow F H F1 H1) (k : Grow F1 H1 F2 H2) : Grow F H F2 H2 :=
  ⟨g.heap.trans k.heap, g.fro.trans k.fro, fun a h => by
    have h1 : H1 a ≠ none := fun z => h (g.heap.free z)
    rw [k.old a h1, g.old a h], k.sub⟩
/-- a new object laid and frozen -/
theorem Grow.new (s : Same F H) {p : Addr} {o : HO} (hp : H p = none) : Grow F H (upd F p o) (upd H p o) where
  heap := fun b u e => by rw [upd_ne (ne_of_none e hp)]; exact e
  fro := fun b u e => by rw [upd_ne (ne_of_none (s b u e) hp)]; exact e
  old := fun a h => by
    have : a ≠ p := fun z => h (by rw [z]; exact hp)
    rw [upd_ne this]
  sub := fun b u e => by
    by_cases z : b = p
    · subst z; rw [upd_same] at e ⊢; exact e
    · rw [upd_ne z] at e ⊢; exact s b u e
/-- .. laid and not frozen -/
theorem Grow.lay (s : Same F H) {p : Addr} {o : HO} (hp : H p = none) : Grow F H F (upd H p o) where
  heap := fun b u e => by rw [upd_ne (ne_of_none e hp)]; exact e
  fro := Same.refl F
  old := fun _ _ => rfl
  sub := fun b u e => by rw [upd_ne (ne_of_none (s b u e) hp)]; exact s b u e
theorem SlOk.grow (g : Grow F H F1 H1) {i : Nat} {v : Option V} : ∀ {s : Option Sl}, SlOk K P F H i v s → SlOk K P F1 H1 i v s
  | none, _ => trivial
  | some (.val d), ⟨x, e, h⟩ => ⟨x, e, dp_mono g.fro h⟩
  | some (.own ds), ⟨a, e, f, xs, h, t⟩ => ⟨a, e, by rw [g.old a (by rw [h]; exact (fun z => nomatch z))]; exact f, xs, g.heap _ _ h, dpa_mono g.fro t⟩
  | some (.dct ds), ⟨a, e, f, xs, h, t⟩ => ⟨a, e, by rw [g.old a (by rw [h]; exact (fun z => nomatch z))]; exact f, xs, g.heap _ _ h, kvd_mono g.fro t⟩
  | some (.arg ds), ⟨a, e, p, f, xs, h, t⟩ => ⟨a, e, p, by rw [g.old a (by rw [h]; exact (fun z => nomatch z))]; exact f, xs, g.heap _ _ h, kvd_mono g.fro t⟩
  | some (.scr ns), ⟨a, e, h⟩ => ⟨a, e, Same.seq g.fro h⟩
theorem Go.grow (r : Rep K P F H σ ρ) (g : Grow F H F1 H1) : Go K P F H σ ρ F1 H1 σ ρ where
  rep := ⟨g.sub, r.len, fun i => (r.at_ i).grow g, r.inj, r.pin⟩
  fro := g.fro
  old := fun a h _ => g.old a h
  kept := fun a o h _ => g.heap a o h
  own := fun _ h _ => h
  alive := fun a h z => h (g.heap.free z)

/-! ## slots stored -/
theorem slV_set (i j : Nat) (v : Option V) (h : i < σ.length) : slV (σ.set i v) j = if j = i then v else slV σ j := by
  unfold slV
  rw [List.getElem?_set]
  by_cases e : i = j
  · subst e; simp [h]
  · rw [if_neg e, if_neg (fun z => e z.symm)]
theorem slD_set (i j : Nat) (v : Option Sl) (h : i < ρ.length) : slD (ρ.set i v) j = if j = i then v else slD ρ j := by
  unfold slD
  rw [List.getElem?_set]
  by_cases e : i = j
  · subst e; simp [h]
  · rw [if_neg e, if_neg (fun z => e z.symm)]
theorem slD_lt {i : Nat} {s : Sl} (h : slD ρ i = some s) : i < ρ.length := by
  unfold slD at h
  by_cases z : i < ρ.length
  · exact z
  · rw [List.getElem?_eq_none (by omega)] at h; cases h
/-- may slot i be stored to: no caller's dict stands there -/
def free (ρ : En) (i : Nat) : Bool := decide (i < ρ.length) && match slD ρ i with
  | some (.arg _) => false
  | _ => true
theorem Rep.nopin (r : Rep K P F H σ ρ) {i : Nat} (h : free ρ i = true) : i < ρ.length ∧ P i = none := by
  unfold free at h
  rw [Bool.and_eq_true] at h
  refine ⟨of_decide_eq_true h.1, ?_⟩
  cases e : P i with
  | none => rfl
  | some a =>
    obtain ⟨kvs, q⟩ := r.pin i a e
    rw [q] at h; exact absurd h.2 (by simp)
/-- a slot is stored: a frozen datum (or nothing known) -/
theorem Go.store (r : Rep K P F H σ ρ) {i : Nat} {v : Option V} {s : Option Sl} (hf : free ρ i = true) (hs : isOwn s = false) (hv : SlOk K P F H i v s) : Go K P F H σ ρ F H (σ.set i v) (ρ.set i s) := by
  obtain ⟨hi, hp⟩ := r.nopin hf
  have hi' : i < σ.length := by rw [r.len]; exact hi
  have ow : ∀ j a, OwnAt (σ.set i v) (ρ.set i s) j a → j ≠ i ∧ OwnAt σ ρ j a := fun j a ⟨h1, h2⟩ => by
    rw [slV_set i j v hi'] at h1
    rw [slD_set i j s hi] at h2
    by_cases z : j = i
    · rw [if_pos z, hs] at h2; cases h2
    · rw [if_neg z] at h1 h2; exact ⟨z, h1, h2⟩
  refine ⟨⟨r.sub, by rw [List.length_set, List.length_set]; exact r.len, fun j => ?_, fun j k a h1 h2 => r.inj j k a (ow j a h1).2 (ow k a h2).2, fun j a e => ?_⟩, Same.refl F, fun _ _ _ => rfl, fun _ _ e _ => e, fun a ⟨j, h⟩ _ => ⟨j, (ow j a h).2⟩, fun _ h => h⟩
  · rw [slV_set i j v hi', slD_set i j s hi]
    by_cases z : j = i
    · rw [if_pos z, if_pos z, z]; exact hv
    · rw [if_neg z, if_neg z]; exact r.at_ j
  · rw [slD_set i j s hi]
    by_cases z : j = i
    · rw [z, hp] at e; cases e
    · rw [if_neg z]; exact r.pin j a e
/-- a slot is stored: a thing of one's own, new -/
theorem Go.storeOwn (r : Rep K P F H σ ρ) {i : Nat} {a : Addr} {s : Sl} (hf : free ρ i = true) (hs : ∀ k, s ≠ .arg k) (hv : SlOk K P F H i (some (.ref a)) (some s)) (hn : ¬ Owned σ ρ a) (h0 : ∀ H0 : Hp, H0 a = none → True) :
    Rep K P F H (σ.set i (some (.ref a))) (ρ.set i (some s)) ∧ ∀ b, Owned (σ.set i (some (.ref a))) (ρ.set i (some s)) b → b = a ∨ Owned σ ρ b := by
  obtain ⟨hi, hp⟩ := r.nopin hf
  have hi' : i < σ.length := by rw [r.len]; exact hi
  have ow : ∀ j b, OwnAt (σ.set i (some (.ref a))) (ρ.set i (some s)) j b → (j = i ∧ b = a) ∨ (j ≠ i ∧ OwnAt σ ρ j b) := fun j b ⟨h1, h2⟩ => by
    rw [slV_set i j _ hi'] at h1
    rw [slD_set i j _ hi] at h2
    by_cases z : j = i
    · rw [if_pos z] at h1; cases h1; exact .inl ⟨z, rfl⟩
    · rw [if_neg z] at h1 h2; exact .inr ⟨z, h1, h2⟩
  refine ⟨⟨r.sub, by rw [List.length_set, List.length_set]; exact r.len, fun j => ?_, fun j k b h1 h2 => ?_, fun j b e => ?_⟩, fun b ⟨j, h⟩ => ?_⟩
  · rw [slV_set i j _ hi', slD_set i j _ hi]
    by_cases z : j = i
    · rw [if_pos z, if_pos z, z]; exact hv
    · rw [if_neg z, if_neg z]; exact r.at_ j
  · rcases ow j b h1 with ⟨e1, e2⟩ | ⟨e1, e2⟩ <;> rcases ow k b h2 with ⟨e3, e4⟩ | ⟨e3, e4⟩
    · rw [e1, e3]
    · exact absurd ⟨k, e2 ▸ e4⟩ hn
    · exact absurd ⟨j, e4 ▸ e2⟩ hn
    · exact r.inj j k b e2 e4
  · rw [slD_set i j _ hi]
    by_cases z : j = i
    · rw [z, hp] at e; cases e
    · rw [if_neg z]; exact r.pin j b e
  · rcases ow j b h with ⟨_, e⟩ | ⟨_, e⟩
    · exact .inl e
    · exact .inr ⟨j, e⟩
end
end L2.G

namespace L2.G
open PySem PySem.Spec PyProof.Rows

/-! ## operands -/
/-- what an operand or argument is: a datum; what stands in a slot; a new dict -/
inductive AV where
  | d (d : D)
  | s (i : Nat)
  | k (kvs : List (Key × D))
inductive Ar where
  | val (d : D)
  | lst (ds : List D)
  | scr (ns : List Int)
  | kd (kvs : List (Key × D))
def rsv (ρ : En) : AV → Option Ar
  | .d d => some (.val d)
  | .k kvs => some (.kd kvs)
  | .s i => match slD ρ i with
    | some (.val d) => some (.val d)
    | some (.own ds) => some (.lst ds)
    | some (.scr ns) => some (.scr ns)
    | some (.dct kvs) => some (.kd kvs)
    | some (.arg kvs) => some (.kd kvs)
    | none => none
section
variable (K : PySem.W.Frag) (F H : Hp) (σ : St) (ρ : En) (H0 : Hp) (v : V)
def AvOk : AV → Prop
  | .d d => Dv K F v d
  | .s i => slV σ i = some v
  | .k kvs => ∃ a, v = .ref a ∧ DctAt K F H a kvs ∧ ¬ Owned σ ρ a ∧ H0 a = none
end
section
variable (K : PySem.W.Frag) (F H : Hp) (v : V)
def ArOk : Ar → Prop
  | .val d => Dv K F v d
  | .lst ds => ∃ a xs, v = .ref a ∧ H a = some (.lst xs) ∧ DvA K F xs ds
  | .scr ns => ∃ a, v = .ref a ∧ SqL K H a (ns.map V.int)
  | .kd kvs => ∃ a ks, v = .ref a ∧ H a = some (.dK ks) ∧ KvD K F ks kvs
end
section
variable {K : PySem.W.Frag} {P : Pn} {F H F1 H1 H0 : Hp} {σ : St} {ρ ρ1 : En} {v : V}
theorem AvOk.go (g : Go K P F H σ ρ F1 H1 σ ρ1) : ∀ {a : AV}, AvOk K F H σ ρ H0 v a → AvOk K F1 H1 σ ρ1 H0 v a
  | .d d, h => dp_mono (show Same F F1 from g.fro) (show Dv K F v d from h)
  | .s i, h => h
  | .k kvs, ⟨a, e, ⟨f, ks, h, t⟩, n, z⟩ =>
    have ha : H a ≠ none := by rw [h]; exact (fun z => nomatch z)
    ⟨a, e, ⟨by rw [g.old a ha n]; exact f, ks, g.kept a _ h n, kvd_mono g.fro t⟩, fun o => n (g.own a o ha), z⟩
theorem AvOk.weak {H0' : Hp} (w : ∀ a, H0 a = none → H0' a = none) : ∀ {a : AV}, AvOk K F H σ ρ H0 v a → AvOk K F H σ ρ H0' v a
  | .d d, h => h
  | .s i, h => h
  | .k kvs, ⟨a, e, d, n, z⟩ => ⟨a, e, d, n, w a z⟩
theorem AvOk.rsv (r : Rep K P F H σ ρ) {a : AV} {b : Ar} (h : AvOk K F H σ ρ H0 v a) (e : rsv ρ a = some b) : ArOk K F H v b := by
  cases a with
  | d d => cases e; exact h
  | k kvs =>
    cases e
    obtain ⟨a, e, ⟨f, ks, h, t⟩, n, _⟩ := h
    exact ⟨a, ks, e, h, t⟩
  | s i =>
    have q := r.at_ i
    have h : slV σ i = some v := h
    unfold G.rsv at e
    cases z : slD ρ i with
    | none => simp only [z] at e; cases e
    | some s =>
      rw [z, h] at q
      simp only [z] at e
      cases s with
      | val d => cases e; obtain ⟨x, q1, q2⟩ := q; cases q1; exact q2
      | own ds => cases e; obtain ⟨a, q1, f, xs, q2, q3⟩ := q; cases q1; exact ⟨a, xs, rfl, q2, q3⟩
      | scr ns => cases e; obtain ⟨a, q1, q2⟩ := q; cases q1; exact ⟨a, rfl, Same.seq r.sub q2⟩
      | dct ds => cases e; obtain ⟨a, q1, f, xs, q2, q3⟩ := q; cases q1; exact ⟨a, xs, rfl, q2, q3⟩
      | arg ds => cases e; obtain ⟨a, q1, _, f, xs, q2, q3⟩ := q; cases q1; exact ⟨a, xs, rfl, q2, q3⟩
end
/-- an operand as a row of items: of a list or tuple -/
def asSeq : Ar → Option (List D)
  | .val (.list ds) => some ds
  | .val (.tuple ds) => some ds
  | .lst ds => some ds
  | .scr ns => some (ns.map .int)
  | _ => none
theorem dva_ints {K : PySem.W.Frag} {F : Hp} : ∀ ns : List Int, DvA K F (ns.map V.int) (ns.map .int)
  | [] => .nil
  | n :: ns => .cons (.int n) (dva_ints ns)
theorem asSeq_ok {K : PySem.W.Frag} {F H : Hp} {v : V} {a : Ar} {ds : List D} (s : Same F H) (h : ArOk K F H v a) (e : asSeq a = some ds) :
    ∃ p xs, v = .ref p ∧ (SqL K H p xs ∨ SqT K H p xs) ∧ DvA K F xs ds := by
  cases a with
  | val d =>
    cases d with
    | list es =>
      cases e
      have h2 : Dv K F v (.list ds) := h
      cases h2 with
      | lst h3 t => exact ⟨_, _, rfl, .inl (.of (s _ _ h3)), t⟩
    | tuple es =>
      cases e
      have h2 : Dv K F v (.tuple ds) := h
      cases h2 with
      | tup h3 t => exact ⟨_, _, rfl, .inr (same_tup s h3), t⟩
    | _ => cases e
  | lst es => cases e; obtain ⟨p, xs, e, h, t⟩ := h; exact ⟨p, xs, e, .inl (.of h), t⟩
  | scr ns => cases e; obtain ⟨p, e, h⟩ := h; exact ⟨p, _, e, .inl h, dva_ints ns⟩
  | kd kvs => cases e

/-! ## judgements of expressions -/
def SE (K : PySem.W.Frag) (t : TE) (f : En → R D) : Prop := ∀ (P : Pn) (F H : Hp) (σ : St) (ρ : En) (d : D) (ρ' : En) (Q : VK), Rep K P F H σ ρ → f ρ = .ok d ρ' →
  (∀ v F' H', Go K P F H σ ρ F' H' σ ρ' → Dv K F' v d → Q v H') → t σ H Q
def SO (K : PySem.W.Frag) (t : TE) (f : En → R AV) : Prop := ∀ (P : Pn) (F H : Hp) (σ : St) (ρ : En) (d : AV) (ρ' : En) (Q : VK), Rep K P F H σ ρ → f ρ = .ok d ρ' →
  (∀ v F' H', Go K P F H σ ρ F' H' σ ρ' → AvOk K F' H' σ ρ' H v d → Q v H') → t σ H Q
def ST (K : PySem.W.Frag) (t : TT) (f : En → R Bool) : Prop := ∀ (P : Pn) (F H : Hp) (σ : St) (ρ : En) (d : Bool) (ρ' : En) (Q : Bool → Hp → Prop), Rep K P F H σ ρ → f ρ = .ok d ρ' →
  (∀ F' H', Go K P F H σ ρ F' H' σ ρ' → Q d H') → t σ H Q
/-- a new list of one's own -/
def SL (K : PySem.W.Frag) (t : TE) (f : En → R (List D)) : Prop := ∀ (P : Pn) (F H : Hp) (σ : St) (ρ : En) (ds : List D) (ρ' : En) (Q : VK), Rep K P F H σ ρ → f ρ = .ok ds ρ' →
  (∀ a xs F' H', Go K P F H σ ρ F' H' σ ρ' → H a = none → F' a = none → H' a = some (.lst xs) → DvA K F' xs ds → ¬ Owned σ ρ' a → Q (.ref a) H') → t σ H Q
inductive VsOk (K : PySem.W.Frag) (F H : Hp) (σ : St) (ρ : En) (H0 : Hp) : List V → List AV → Prop
  | nil : VsOk K F H σ ρ H0 [] []
  | cons {v : V} {vs : List V} {a : AV} {as : List AV} : AvOk K F H σ ρ H0 v a → VsOk K F H σ ρ H0 vs as → VsOk K F H σ ρ H0 (v :: vs) (a :: as)
theorem VsOk.weak {K : PySem.W.Frag} {F H H0 H0' : Hp} {σ : St} {ρ : En} (w : ∀ a, H0 a = none → H0' a = none) : ∀ {vs : List V} {as : List AV}, VsOk K F H σ ρ H0 vs as → VsOk K F H σ ρ H0' vs as
  | _, _, .nil => .nil
  | _, _, .cons h t => .cons (h.weak w) (VsOk.weak w t)
theorem Go.fresh {K : PySem.W.Frag} {P : Pn} {F H F1 H1 : Hp} {σ σ1 : St} {ρ ρ1 : En} (g : Go K P F H σ ρ F1 H1 σ1 ρ1) : ∀ a, H1 a = none → H a = none := fun a h => by
  cases z : H a with
  | none => rfl
  | some o => exact absurd h (g.alive a (by rw [z]; exact (fun z => nomatch z)))
def SA (K : PySem.W.Frag) (t : TA) (f : En → R (List AV)) : Prop := ∀ (P : Pn) (F H : Hp) (σ : St) (ρ : En) (as : List AV) (ρ' : En) (Q : List V → Hp → Prop), Rep K P F H σ ρ → f ρ = .ok as ρ' →
  (∀ vs F' H', Go K P F H σ ρ F' H' σ ρ' → VsOk K F' H' σ ρ' H vs as → Q vs H') → t σ H Q
structure Ex (X : Cx) (e : Expr) (t : TE) (f : En → R D) : Prop where
  p : PE X e t
  s : SE X.K t f
structure Op (X : Cx) (e : Expr) (t : TE) (f : En → R AV) : Prop where
  p : PE X e t
  s : SO X.K t f
structure Ts (X : Cx) (e : Expr) (t : TT) (f : En → R Bool) : Prop where
  p : PT X e t
  s : ST X.K t f
structure Tw (X : Cx) (e : Expr) (t : TT) (f : En → R Bool) : Prop where
  p : PW X e t
  s : ST X.K t f
structure Nw (X : Cx) (e : Expr) (t : TE) (f : En → R (List D)) : Prop where
  p : PE X e t
  s : SL X.K t f
structure As (X : Cx) (es : List Expr) (t : TA) (f : En → R (List AV)) : Prop where
  p : PA X es t
  s : SA X.K t f

theorem Rb {α β : Type} {r : R α} {f : α → En → R β} {b : β} {ρ : En} (h : r.bind f = .ok b ρ) : ∃ a ρ1, r = .ok a ρ1 ∧ f a ρ1 = .ok b ρ := by
  cases r with
  | ok a ρ1 => exact ⟨a, ρ1, rfl, h⟩
  | err c d => cases h
  | no => cases h

/-! ## names, constants -/
def dVar (i : Nat) : En → R D := fun ρ => match slD ρ i with
  | some (.val d) => .ok d ρ
  | _ => .no
def dC (d : D) : En → R D := fun ρ => .ok d ρ
def oSlot (i : Nat) : En → R AV := fun ρ => .ok (.s i) ρ
def oVal (f : En → R D) : En → R AV := fun ρ => (f ρ).bind fun d ρ' => .ok (.d d) ρ'
section
variable {X : Cx}
theorem x_var (i : Nat) {x : Str} {pos : Pos} (hN : X.N[i]? = some x := by rfl) (hv : Vis X.env.scope x := by first | exact Or.inl rfl | exact Or.inr (Or.inl rfl) | exact Or.inr (Or.inr rfl)) (hd : (x == ("__debug__" : Str)) = false := by decide)
    (hcd : (x == ("__classdict__" : Str)) = false := by decide) : Ex X (.Name x pos) (tVar i) (dVar i) := by
  refine ⟨pe_var hN hv hd hcd, fun P F H σ ρ d ρ' Q r e k => ?_⟩
  have q := r.at_ i
  unfold dVar at e
  split at e
  · rename_i d' z
    cases e
    rw [z] at q
    obtain ⟨x, e1, e2⟩ := q
    have e3 : σ[i]? = some (some x) := by
      unfold slV at e1
      cases w : σ[i]? with
      | none => rw [w] at e1; cases e1
      | some y => rw [w] at e1; exact congrArg some e1
    exact ⟨x, e3, k x F H (.refl r) e2⟩
  · cases e
theorem o_slot (i : Nat) {x : Str} {pos : Pos} (hN : X.N[i]? = some x := by rfl) (hv : Vis X.env.scope x := by first | exact Or.inl rfl | exact Or.inr (Or.inl rfl) | exact Or.inr (Or.inr rfl)) (hd : (x == ("__debug__" : Str)) = false := by decide)
    (hcd : (x == ("__classdict__" : Str)) = false := by decide) : Op X (.Name x pos) (tVar i) (fun ρ => match slD ρ i with | some _ => .ok (.s i) ρ | none => .no) := by
  refine ⟨pe_var hN hv hd hcd, fun P F H σ ρ d ρ' Q r e k => ?_⟩
  have q := r.at_ i
  have e3 : ∃ v, slV σ i = some v ∧ d = .s i ∧ ρ' = ρ := by
    split at e
    · rename_i s z
      cases e
      rw [z] at q
      cases s with
      | val d => obtain ⟨x, q1, _⟩ := q; exact ⟨x, q1, rfl, rfl⟩
      | own ds => obtain ⟨x, q1, _⟩ := q; exact ⟨_, q1, rfl, rfl⟩
      | scr ns => obtain ⟨x, q1, _⟩ := q; exact ⟨_, q1, rfl, rfl⟩
      | dct ds => obtain ⟨x, q1, _⟩ := q; exact ⟨_, q1, rfl, rfl⟩
      | arg ds => obtain ⟨x, q1, _⟩ := q; exact ⟨_, q1, rfl, rfl⟩
    · cases e
  obtain ⟨v, e1, rfl, rfl⟩ := e3
  have e3 : σ[i]? = some (some v) := by
    unfold slV at e1
    cases w : σ[i]? with
    | none => rw [w] at e1; cases e1
    | some y => rw [w] at e1; exact congrArg some e1
  exact ⟨v, e3, k v F H (.refl r) e1⟩
theorem o_val {e : Expr} {t : TE} {f : En → R D} (h : Ex X e t f) : Op X e t (oVal f) := by
  refine ⟨h.p, fun P F H σ ρ d ρ' Q r e k => ?_⟩
  obtain ⟨a, ρ1, e1, e2⟩ := Rb e
  cases e2
  exact h.s P F H σ ρ a ρ' Q r e1 fun v F' H' g q => k v F' H' g q
theorem x_const {v : V} {d : D} {e : Expr} (hp : PE X e (tC v)) (hd : ∀ F, Dv X.K F v d) : Ex X e (tC v) (dC d) :=
  ⟨hp, fun P F H σ ρ d' ρ' Q r e k => by cases e; exact k v F H (.refl r) (hd F)⟩
theorem x_int {i j pos} : Ex X (.Constant (.int i) j pos) (tC (.int i)) (dC (.int i)) := x_const pe_int fun _ => .int i
theorem x_bl {b j pos} : Ex X (.Constant (.bool b) j pos) (tC (.bl b)) (dC (.bool b)) := x_const pe_bl fun _ => .bl b
theorem x_non {j pos} : Ex X (.Constant .none j pos) (tC .non) (dC .none) := x_const pe_non fun _ => .non
theorem x_str {x j pos} : Ex X (.Constant (.str x) j pos) (tC (.str x)) (dC (.str x)) := x_const pe_str fun _ => .str x
/-- a constant of the module -/
theorem x_glob {x : Str} {v : V} {u : Value} {d : D} {pos : Pos} (hm : X.mg x = some u) (r : RelV v u) (hd : ∀ F, Dv X.K F v d) (hg : Gl X x := by rfl) (hdb : (x == ("__debug__" : Str)) = false := by decide) : Ex X (.Name x pos) (tC v) (dC d) :=
  x_const (pe_glob hg hm r hdb) hd

/-! ## operators -/
/-- an operation on values, by data -/
def S2 (K : PySem.W.Frag) (r : R2) (g : Ar → Ar → Option D) : Prop := ∀ (F H : Hp) (x y : V) (a b : Ar) (z : D) (Q : VK), Same F H → ArOk K F H x a → ArOk K F H y b → g a b = some z →
  (∀ v F' H', Grow F H F' H' → Dv K F' v z → Q v H') → r x y H Q
def dOp (g : Ar → Ar → Option D) (fa fb : En → R AV) : En → R D := fun ρ => (fa ρ).bind fun x ρ1 => (fb ρ1).bind fun y ρ2 => match rsv ρ2 x, rsv ρ2 y with
  | some a, some b => match g a b with
    | some z => .ok z ρ2
    | none => .no
  | _, _ => .no
/-- two data -/
def dBin (g : Ar → Ar → Option D) (fa fb : En → R D) : En → R D := fun ρ => (fa ρ).bind fun x ρ1 => (fb ρ1).bind fun y ρ2 => match g (.val x) (.val y) with
  | some z => .ok z ρ2
  | none => .no
theorem se_op {K : PySem.W.Frag} {r : R2} {g : Ar → Ar → Option D} {ta tb : TE} {fa fb : En → R AV} (hr : S2 K r g) (ha : SO K ta fa) (hb : SO K tb fb) : SE K (tOp r ta tb) (dOp g fa fb) := by
  intro P F H σ ρ d ρ' Q q e k
  obtain ⟨x, ρ1, e1, e⟩ := Rb e
  obtain ⟨y, ρ2, e2, e⟩ := Rb e
  refine ha P F H σ ρ x ρ1 _ q e1 fun v F1 H1 g1 h1 => ?_
  refine hb P F1 H1 σ ρ1 y ρ2 _ g1.rep e2 fun u F2 H2 g2 h2 => ?_
  split at e
  · rename_i a b ea eb
    split at e
    · rename_i z ez
      cases e
      refine hr F2 H2 v u a b _ Q g2.rep.sub ((h1.go g2).rsv g2.rep ea) (h2.rsv g2.rep eb) ez fun w F3 H3 gr hv => ?_
      exact k w F3 H3 ((g1.trans g2).trans (Go.grow g2.rep gr)) hv
    · cases e
  · cases e
theorem se_bin {K : PySem.W.Frag} {r : R2} {g : Ar → Ar → Option D} {ta tb : TE} {fa fb : En → R D} (hr : S2 K r g) (ha : SE K ta fa) (hb : SE K tb fb) : SE K (tOp r ta tb) (dBin g fa fb) := by
  intro P F H σ ρ d ρ' Q q e k
  obtain ⟨x, ρ1, e1, e⟩ := Rb e
  obtain ⟨y, ρ2, e2, e⟩ := Rb e
  refine ha P F H σ ρ x ρ1 _ q e1 fun v F1 H1 g1 h1 => ?_
  refine hb P F1 H1 σ ρ1 y ρ2 _ g1.rep e2 fun u F2 H2 g2 h2 => ?_
  split at e
  · rename_i z ez
    cases e
    refine hr F2 H2 v u (.val x) (.val y) _ Q g2.rep.sub (dp_mono (show Same F1 F2 from g2.fro) h1) h2 ez fun w F3 H3 gr hv => ?_
    exact k w F3 H3 ((g1.trans g2).trans (Go.grow g2.rep gr)) hv
  · cases e
variable {a b : Expr} {ta tb : TE} {pos : Pos}
theorem x_bin {op : Operator} {r : R2} {g : Ar → Ar → Option D} {fa fb : En → R D} (ho : OpR X (binaryOp op) r) (hr : S2 X.K r g) (ha : Ex X a ta fa) (hb : Ex X b tb fb) : Ex X (.BinOp a op b pos) (tOp r ta tb) (dBin g fa fb) :=
  ⟨pe_op ho ha.p hb.p, se_bin hr ha.s hb.s⟩
theorem x_binO {op : Operator} {r : R2} {g : Ar → Ar → Option D} {fa fb : En → R AV} (ho : OpR X (binaryOp op) r) (hr : S2 X.K r g) (ha : Op X a ta fa) (hb : Op X b tb fb) : Ex X (.BinOp a op b pos) (tOp r ta tb) (dOp g fa fb) :=
  ⟨pe_op ho ha.p hb.p, se_op hr ha.s hb.s⟩
theorem x_cmp {op : CmpOp} {r : R2} {g : Ar → Ar → Option D} {fa fb : En → R D} (ho : OpR X (compareOp op) r) (hr : S2 X.K r g) (ha : Ex X a ta fa) (hb : Ex X b tb fb) (hm : behindInMarks op b = false := by first | exact nomark _ | rfl) :
    Ex X (.Compare a [op] [b] pos) (tOp r ta tb) (dBin g fa fb) := ⟨pe_cmpR ho ha.p hb.p hm, se_bin hr ha.s hb.s⟩
theorem x_cmpO {op : CmpOp} {r : R2} {g : Ar → Ar → Option D} {fa fb : En → R AV} (ho : OpR X (compareOp op) r) (hr : S2 X.K r g) (ha : Op X a ta fa) (hb : Op X b tb fb) (hm : behindInMarks op b = false := by first | exact nomark _ | rfl) :
    Ex X (.Compare a [op] [b] pos) (tOp r ta tb) (dOp g fa fb) := ⟨pe_cmpR ho ha.p hb.p hm, se_op hr ha.s hb.s⟩
/-- a datum as a test -/
def dB (f : En → R D) : En → R Bool := fun ρ => (f ρ).bind fun d ρ' => match d with
  | .bool b => .ok b ρ'
  | _ => .no
theorem st_test {K : PySem.W.Frag} {t : TE} {f : En → R D} (h : SE K t f) : ST K (tTest t) (dB f) := by
  intro P F H σ ρ d ρ' Q r e k
  obtain ⟨x, ρ1, e1, e⟩ := Rb e
  refine h P F H σ ρ x ρ1 _ r e1 fun v F1 H1 g1 h1 => ?_
  split at e
  · cases e
    cases h1
    exact ⟨_, rfl, k F1 H1 g1⟩
  · cases e
theorem t_cmp {op : CmpOp} {r : R2} {g : Ar → Ar → Option D} {fa fb : En → R D} (ho : OpR X (compareOp op) r) (hr : S2 X.K r g) (ha : Ex X a ta fa) (hb : Ex X b tb fb) (hm : behindInMarks op b = false := by first | exact nomark _ | rfl) :
    Ts X (.Compare a [op] [b] pos) (tTest (tOp r ta tb)) (dB (dBin g fa fb)) := ⟨pt_cmpR ho ha.p hb.p hm, st_test (se_bin hr ha.s hb.s)⟩
theorem t_cmpO {op : CmpOp} {r : R2} {g : Ar → Ar → Option D} {fa fb : En → R AV} (ho : OpR X (compareOp op) r) (hr : S2 X.K r g) (ha : Op X a ta fa) (hb : Op X b tb fb) (hm : behindInMarks op b = false := by first | exact nomark _ | rfl) :
    Ts X (.Compare a [op] [b] pos) (tTest (tOp r ta tb)) (dB (dOp g fa fb)) := ⟨pt_cmpR ho ha.p hb.p hm, st_test (se_op hr ha.s hb.s)⟩
theorem t_val {e : Expr} {t : TE} {f : En → R D} (h : Ex X e t f) (he : ∀ whole, isTrue e X.env whole = (do let v ← whole; standAt e.pos; holding [v] (truthy v)) := by intro _; rfl) : Ts X e (tB t) (dB f) := ⟨pt_val h.p he, st_test h.s⟩
def dNot (f : En → R Bool) : En → R Bool := fun ρ => (f ρ).bind fun b ρ' => .ok (!b) ρ'
theorem t_not {t : TT} {f : En → R Bool} (h : Ts X a t f) : Ts X (.UnaryOp .Not a pos) (tNot t) (dNot f) := by
  refine ⟨pt_not h.p, fun P F H σ ρ d ρ' Q r e k => ?_⟩
  obtain ⟨x, ρ1, e1, e⟩ := Rb e
  cases e
  exact h.s P F H σ ρ x ρ' _ r e1 fun F1 H1 g1 => k F1 H1 g1
def dAnd (f g : En → R Bool) : En → R Bool := fun ρ => (f ρ).bind fun b ρ' => match b with
  | true => g ρ'
  | false => .ok false ρ'
def dOr (f g : En → R Bool) : En → R Bool := fun ρ => (f ρ).bind fun b ρ' => match b with
  | true => .ok true ρ'
  | false => g ρ'
theorem t_bool {t : TT} {f : En → R Bool} {e : Expr} (h : Tw X e t f) : Ts X e t f := ⟨h.p.pt, h.s⟩
theorem w_and1 {t : TT} {f : En → R Bool} (h : Ts X a t f) : Tw X (.BoolOp .And [a] pos) t f := ⟨pw_and1 h.p, h.s⟩
theorem w_or1 {t : TT} {f : En → R Bool} (h : Ts X a t f) : Tw X (.BoolOp .Or [a] pos) t f := ⟨pw_or1 h.p, h.s⟩
theorem w_and {rest : List Expr} {t u : TT} {f g : En → R Bool} (h : Ts X a t f) (q : Tw X (.BoolOp .And (b :: rest) pos) u g) : Tw X (.BoolOp .And (a :: b :: rest) pos) (tAnd t u) (dAnd f g) := by
  refine ⟨pw_and h.p q.p, fun P F H σ ρ d ρ' Q r e k => ?_⟩
  obtain ⟨x, ρ1, e1, e⟩ := Rb e
  refine h.s P F H σ ρ x ρ1 _ r e1 fun F1 H1 g1 => ?_
  cases x with
  | true => exact iteT (q.s P F1 H1 σ ρ1 d ρ' Q g1.rep e fun F2 H2 g2 => k F2 H2 (g1.trans g2))
  | false => cases e; exact iteF (k F1 H1 g1)
theorem w_or {rest : List Expr} {t u : TT} {f g : En → R Bool} (h : Ts X a t f) (q : Tw X (.BoolOp .Or (b :: rest) pos) u g) : Tw X (.BoolOp .Or (a :: b :: rest) pos) (tOr t u) (dOr f g) := by
  refine ⟨pw_or h.p q.p, fun P F H σ ρ d ρ' Q r e k => ?_⟩
  obtain ⟨x, ρ1, e1, e⟩ := Rb e
  refine h.s P F H σ ρ x ρ1 _ r e1 fun F1 H1 g1 => ?_
  cases x with
  | true => cases e; exact iteT (k F1 H1 g1)
  | false => exact iteF (q.s P F1 H1 σ ρ1 d ρ' Q g1.rep e fun F2 H2 g2 => k F2 H2 (g1.trans g2))
/-! values of and, or, not: all but the last a bool -/
def dAndV (f g : En → R D) : En → R D := fun ρ => (dB f ρ).bind fun b ρ' => match b with
  | true => g ρ'
  | false => .ok (.bool false) ρ'
def dOrV (f g : En → R D) : En → R D := fun ρ => (dB f ρ).bind fun b ρ' => match b with
  | true => .ok (.bool true) ρ'
  | false => g ρ'
def dNotV (f : En → R D) : En → R D := fun ρ => (dB f ρ).bind fun b ρ' => .ok (.bool (!b)) ρ'
theorem x_one {op} {t : TE} {f : En → R D} (h : Ex X a t f) : Ex X (.BoolOp op [a] pos) t f := ⟨pe_one h.p, h.s⟩
theorem x_and {rest : List Expr} {t u : TE} {f g : En → R D} (h : Ex X a t f) (q : Ex X (.BoolOp .And (b :: rest) pos) u g) : Ex X (.BoolOp .And (a :: b :: rest) pos) (tAndV t u) (dAndV f g) := by
  refine ⟨pe_and h.p q.p, fun P F H σ ρ d ρ' Q r e k => ?_⟩
  obtain ⟨x, ρ1, e1, e⟩ := Rb e
  refine st_test h.s P F H σ ρ x ρ1 _ r e1 fun F1 H1 g1 => ?_
  cases x with
  | true => exact iteT (q.s P F1 H1 σ ρ1 d ρ' Q g1.rep e fun v F2 H2 g2 hv => k v F2 H2 (g1.trans g2) hv)
  | false => cases e; exact iteF (k _ F1 H1 g1 (.bl false))
theorem x_or {rest : List Expr} {t u : TE} {f g : En → R D} (h : Ex X a t f) (q : Ex X (.BoolOp .Or (b :: rest) pos) u g) : Ex X (.BoolOp .Or (a :: b :: rest) pos) (tOrV t u) (dOrV f g) := by
  refine ⟨pe_or h.p q.p, fun P F H σ ρ d ρ' Q r e k => ?_⟩
  obtain ⟨x, ρ1, e1, e⟩ := Rb e
  refine st_test h.s P F H σ ρ x ρ1 _ r e1 fun F1 H1 g1 => ?_
  cases x with
  | true => cases e; exact iteT (k _ F1 H1 g1 (.bl true))
  | false => exact iteF (q.s P F1 H1 σ ρ1 d ρ' Q g1.rep e fun v F2 H2 g2 hv => k v F2 H2 (g1.trans g2) hv)
theorem x_not {t : TE} {f : En → R D} (h : Ex X a t f) : Ex X (.UnaryOp .Not a pos) (tNotV t) (dNotV f) := by
  refine ⟨pe_not h.p, fun P F H σ ρ d ρ' Q r e k => ?_⟩
  obtain ⟨x, ρ1, e1, e⟩ := Rb e
  cases e
  exact st_test h.s P F H σ ρ x ρ' _ r e1 fun F1 H1 g1 => k _ F1 H1 g1 (.bl _)
def dIf (t : En → R Bool) (f g : En → R D) : En → R D := fun ρ => (t ρ).bind fun b ρ' => match b with
  | true => f ρ'
  | false => g ρ'
theorem x_if {c : Expr} {t : TT} {f : En → R Bool} {fa fb : En → R D} (hc : Ts X c t f) (ha : Ex X a ta fa) (hb : Ex X b tb fb) : Ex X (.IfExp c a b pos) (tIf t ta tb) (dIf f fa fb) := by
  refine ⟨pe_ifExp hc.p ha.p hb.p, fun P F H σ ρ d ρ' Q r e k => ?_⟩
  obtain ⟨x, ρ1, e1, e⟩ := Rb e
  refine hc.s P F H σ ρ x ρ1 _ r e1 fun F1 H1 g1 => ?_
  cases x with
  | true => exact iteT (ha.s P F1 H1 σ ρ1 d ρ' Q g1.rep e fun v F2 H2 g2 hv => k v F2 H2 (g1.trans g2) hv)
  | false => exact iteF (hb.s P F1 H1 σ ρ1 d ρ' Q g1.rep e fun v F2 H2 g2 hv => k v F2 H2 (g1.trans g2) hv)

/-! ## arguments -/
def dNil : En → R (List AV) := fun ρ => .ok [] ρ
def dCons (f : En → R AV) (g : En → R (List AV)) : En → R (List AV) := fun ρ => (f ρ).bind fun a ρ1 => (g ρ1).bind fun as ρ2 => .ok (a :: as) ρ2
/-- a datum ahead of others -/
def dConsD (f : En → R D) (g : En → R (List AV)) : En → R (List AV) := fun ρ => (f ρ).bind fun a ρ1 => (g ρ1).bind fun as ρ2 => .ok (.d a :: as) ρ2
theorem a_nil : As X [] tNil dNil := ⟨pa_nil, fun P F H σ ρ d ρ' Q r e k => by cases e; exact k [] F H (.refl r) .nil⟩
theorem sa_cons {K : PySem.W.Frag} {ta : TE} {t : TA} {f : En → R AV} {g : En → R (List AV)} (ha : SO K ta f) (hb : SA K t g) : SA K (tCons ta t) (dCons f g) := by
  intro P F H σ ρ d ρ' Q r e k
  obtain ⟨x, ρ1, e1, e⟩ := Rb e
  obtain ⟨xs, ρ2, e2, e⟩ := Rb e
  cases e
  refine ha P F H σ ρ x ρ1 _ r e1 fun v F1 H1 g1 h1 => ?_
  exact hb P F1 H1 σ ρ1 xs _ _ g1.rep e2 fun vs F2 H2 g2 h2 => k _ F2 H2 (g1.trans g2) (.cons (h1.go g2) (h2.weak g1.fresh))
theorem a_op {e : Expr} {es : List Expr} {te : TE} {t : TA} {f : En → R AV} {g : En → R (List AV)} (ha : Op X e te f) (hb : As X es t g) (hs : starEach (e :: es) X.env = (false, eval e X.env) :: starEach es X.env := by rfl) : As X (e :: es) (tCons te t) (dCons f g) :=
  ⟨pa_cons ha.p hb.p hs, sa_cons ha.s hb.s⟩
theorem a_cons {e : Expr} {es : List Expr} {te : TE} {t : TA} {f : En → R D} {g : En → R (List AV)} (ha : Ex X e te f) (hb : As X es t g) (hs : starEach (e :: es) X.env = (false, eval e X.env) :: starEach es X.env := by rfl) : As X (e :: es) (tCons te t) (dConsD f g) := by
  refine ⟨pa_cons ha.p hb.p hs, fun P F H σ ρ d ρ' Q r e k => ?_⟩
  obtain ⟨x, ρ1, e1, e⟩ := Rb e
  obtain ⟨xs, ρ2, e2, e⟩ := Rb e
  cases e
  refine ha.s P F H σ ρ x ρ1 _ r e1 fun v F1 H1 g1 h1 => ?_
  exact hb.s P F1 H1 σ ρ1 xs _ _ g1.rep e2 fun vs F2 H2 g2 h2 => k _ F2 H2 (g1.trans g2) (.cons (show AvOk _ _ _ _ _ _ _ (.d x) from dp_mono (show Same F1 F2 from g2.fro) h1) (h2.weak g1.fresh))
/-- all arguments as data -/
def asD : List AV → Option (List D)
  | [] => some []
  | .d d :: r => match asD r with
    | some ds => some (d :: ds)
    | none => none
  | _ :: _ => none
theorem asD_ok {K : PySem.W.Frag} {F H H0 : Hp} {σ : St} {ρ : En} : ∀ {vs : List V} {as : List AV} {ds : List D}, VsOk K F H σ ρ H0 vs as → asD as = some ds → DvA K F vs ds
  | _, _, _, .nil, e => by cases e; exact .nil
  | _, _, ds, .cons (a := a) (as := as) h t, e => by
    cases a with
    | d d =>
      unfold asD at e
      cases q : asD as with
      | none => simp only [q] at e; cases e
      | some es => simp only [q] at e; cases e; exact .cons h (asD_ok t q)
    | s i => cases e
    | k kvs => cases e
def dTup (f : En → R (List AV)) : En → R D := fun ρ => (f ρ).bind fun as ρ' => match asD as with
  | some ds => if ds.length ≤ sizeLine then .ok (.tuple ds) ρ' else .no
  | none => .no
theorem x_tup {es : List Expr} {x1} {t : TA} {f : En → R (List AV)} (h : As X es t f) : Ex X (.Tuple es x1 pos) (tTup t) (dTup f) := by
  refine ⟨pe_tup h.p, fun P F H σ ρ d ρ' Q r e k => ?_⟩
  obtain ⟨as, ρ1, e1, e⟩ := Rb e
  refine h.s P F H σ ρ as ρ1 _ r e1 fun vs F1 H1 g1 h1 => ?_
  split at e
  · rename_i ds q
    split at e
    · rename_i hl
      cases e
      have hd := asD_ok h1 q
      refine ⟨by rw [dpa_len hd]; exact hl, fun p hp => ?_⟩
      have gr : Grow F1 H1 (upd F1 p (.tup vs)) (upd H1 p (.tup vs)) := .new g1.rep.sub hp
      exact k _ _ _ (g1.trans (Go.grow g1.rep gr)) (.tup (.of upd_same) (dpa_mono gr.fro hd))
    · cases e
  · cases e
def dItems (f : En → R (List AV)) : En → R (List D) := fun ρ => (f ρ).bind fun as ρ' => match asD as with
  | some ds => if ds.length ≤ sizeLine then .ok ds ρ' else .no
  | none => .no
theorem Go.ownOf {K : PySem.W.Frag} {P : Pn} {F H F1 H1 : Hp} {σ : St} {ρ ρ1 : En} (r : Rep K P F H σ ρ) (g : Go K P F H σ ρ F1 H1 σ ρ1) {a : Addr} (o : Owned σ ρ1 a) : H1 a ≠ none := by
  obtain ⟨i, h⟩ := o
  exact (g.rep.own_some h).1
theorem n_lst {es : List Expr} {t : TA} {f : En → R (List AV)} (h : As X es t f) : Nw X (.List es pos) (tLst t) (dItems f) := by
  refine ⟨pe_lst h.p, fun P F H σ ρ d ρ' Q r e k => ?_⟩
  obtain ⟨as, ρ1, e1, e⟩ := Rb e
  refine h.s P F H σ ρ as ρ1 _ r e1 fun vs F1 H1 g1 h1 => ?_
  split at e
  · rename_i ds q
    split at e
    · rename_i hl
      cases e
      have hd := asD_ok h1 q
      refine ⟨by rw [dpa_len hd]; exact hl, fun p hp => ?_⟩
      have gr : Grow F1 H1 F1 (upd H1 p (.lst vs)) := .lay g1.rep.sub hp
      have h0 : H p = none := by
        cases z : H p with
        | none => rfl
        | some o => exact absurd hp (g1.alive p (by rw [z]; exact (fun z => nomatch z)))
      refine k p vs _ _ (g1.trans (Go.grow g1.rep gr)) h0 ?_ upd_same hd fun o => Go.ownOf r g1 o hp
      cases z : F1 p with
      | none => rfl
      | some o => rw [g1.rep.sub _ _ z] at hp; cases hp
    · cases e
  · cases e
/-- a new list as a datum: frozen from the start -/
def dLst (f : En → R (List D)) : En → R D := fun ρ => (f ρ).bind fun ds ρ' => .ok (.list ds) ρ'
theorem Go.freeze {K : PySem.W.Frag} {P : Pn} {F H F1 H1 : Hp} {σ : St} {ρ ρ1 : En} {a : Addr} {o : HO} (g : Go K P F H σ ρ F1 H1 σ ρ1) (h0 : H a = none) (hf : F1 a = none) (hh : H1 a = some o) (hn : ¬ Owned σ ρ1 a) : Go K P F H σ ρ (upd F1 a o) H1 σ ρ1 := by
  have s1 : Same F1 (upd F1 a o) := fun b u e => by rw [upd_ne (ne_of_none e hf)]; exact e
  have nb : ∀ b, Owned σ ρ1 b → b ≠ a := fun b ob z => hn (z ▸ ob)
  refine ⟨⟨fun b u e => ?_, g.rep.len, fun i => ?_, g.rep.inj, g.rep.pin⟩, g.fro.trans s1, fun b hb hnb => ?_, g.kept, g.own, g.alive⟩
  · by_cases z : b = a
    · subst z; rw [upd_same] at e; cases e; exact hh
    · rw [upd_ne z] at e; exact g.rep.sub b u e
  · have q := g.rep.at_ i
    cases es : slD ρ1 i with
    | none => trivial
    | some s =>
      rw [es] at q
      cases s with
      | val d => obtain ⟨x, e, h⟩ := q; exact ⟨x, e, dp_mono s1 h⟩
      | own ds => obtain ⟨b, e, f, xs, h, t⟩ := q; exact ⟨b, e, by rw [upd_ne (nb b ⟨i, e, by rw [es]; rfl⟩)]; exact f, xs, h, dpa_mono s1 t⟩
      | dct ds => obtain ⟨b, e, f, xs, h, t⟩ := q; exact ⟨b, e, by rw [upd_ne (nb b ⟨i, e, by rw [es]; rfl⟩)]; exact f, xs, h, kvd_mono s1 t⟩
      | arg ds => obtain ⟨b, e, p, f, xs, h, t⟩ := q; exact ⟨b, e, p, by rw [upd_ne (nb b ⟨i, e, by rw [es]; rfl⟩)]; exact f, xs, h, kvd_mono s1 t⟩
      | scr ns => obtain ⟨b, e, h⟩ := q; exact ⟨b, e, Same.seq s1 h⟩
  · have : b ≠ a := fun z => hb (by rw [z]; exact h0)
    rw [upd_ne this]; exact g.old b hb hnb
theorem x_new {e : Expr} {t : TE} {f : En → R (List D)} (h : Nw X e t f) : Ex X e t (dLst f) := by
  refine ⟨h.p, fun P F H σ ρ d ρ' Q r e k => ?_⟩
  obtain ⟨ds, ρ1, e1, e⟩ := Rb e
  cases e
  refine h.s P F H σ ρ ds _ _ r e1 fun a xs F1 H1 g1 h0 hf hh hd hn => ?_
  have g2 := g1.freeze h0 hf hh hn
  have s1 : Same F1 (upd F1 a (.lst xs)) := fun b u e => by rw [upd_ne (ne_of_none e hf)]; exact e
  exact k _ _ _ g2 (.lst upd_same (dpa_mono s1 hd))
end
end L2.G

namespace L2.G
open PySem PySem.Spec PyProof.Rows

/-! ## operators on data -/
def asLst : Ar → Option (List D)
  | .val (.list ds) => some ds
  | .lst ds => some ds
  | _ => none
def asTup : Ar → Option (List D)
  | .val (.tuple ds) => some ds
  | _ => none
theorem asLst_ok {K : PySem.W.Frag} {F H : Hp} {v : V} {a : Ar} {ds : List D} (s : Same F H) (h : ArOk K F H v a) (e : asLst a = some ds) : ∃ p xs, v = .ref p ∧ H p = some (.lst xs) ∧ DvA K F xs ds := by
  cases a with
  | val d =>
    cases d with
    | list es =>
      cases e
      have h2 : Dv K F v (.list ds) := h
      cases h2 with
      | lst h3 t => exact ⟨_, _, rfl, s _ _ h3, t⟩
    | _ => cases e
  | lst es => cases e; exact h
  | scr ns => cases e
  | kd kvs => cases e
theorem asTup_ok {K : PySem.W.Frag} {F H : Hp} {v : V} {a : Ar} {ds : List D} (s : Same F H) (h : ArOk K F H v a) (e : asTup a = some ds) : ∃ p xs, v = .ref p ∧ SqT K H p xs ∧ DvA K F xs ds ∧ Dv K F v (.tuple ds) := by
  cases a with
  | val d =>
    cases d with
    | tuple es =>
      cases e
      have h2 : Dv K F v (.tuple ds) := h
      cases h2 with
      | tup h3 t => exact ⟨_, _, rfl, same_tup s h3, t, .tup h3 t⟩
    | _ => cases e
  | lst es => cases e
  | scr ns => cases e
  | kd kvs => cases e
theorem val_int {K : PySem.W.Frag} {F H : Hp} {v : V} {i : Int} (h : ArOk K F H v (.val (.int i))) : v = .int i := by
  have h : Dv K F v (.int i) := h
  cases h; rfl
theorem val_str {K : PySem.W.Frag} {F H : Hp} {v : V} {i : Str} (h : ArOk K F H v (.val (.str i))) : v = .str i := by
  have h : Dv K F v (.str i) := h
  cases h; rfl
theorem val_bl {K : PySem.W.Frag} {F H : Hp} {v : V} {i : Bool} (h : ArOk K F H v (.val (.bool i))) : v = .bl i := by
  have h : Dv K F v (.bool i) := h
  cases h; rfl
theorem val_non {K : PySem.W.Frag} {F H : Hp} {v : V} (h : ArOk K F H v (.val .none)) : v = .non := by
  have h : Dv K F v .none := h
  cases h; rfl

def rAdd4 (K : PySem.W.Frag) : R2 := fun x y H Q => (rI0 (fun i j => .int (i + j)) x y H Q) ∨ ((∃ i j, x = .str i ∧ y = .str j ∧ i.length + j.length ≤ sizeLine ∧ Q (.str (i ++ j)) H) ∨ (rCat x y H Q ∨ rCatA K x y H Q))
theorem opAdd {X : Cx} : OpR X (binaryOp .Add) (rAdd4 X.K) := op_add.or (op_add_str.or (op_cat.or op_catA))
def gAddL (a b : Ar) : Option D := match asLst a, asLst b with
  | some ds, some es => if ds.length + es.length ≤ sizeLine then some (.list (ds ++ es)) else none
  | _, _ => match asTup a, asTup b with
    | some ds, some es => if ds.length + es.length ≤ sizeLine then some (.tuple (ds ++ es)) else none
    | _, _ => none
def gAdd (a b : Ar) : Option D := match a with
  | .val (.int i) => match b with
    | .val (.int j) => some (.int (i + j))
    | _ => none
  | .val (.str i) => match b with
    | .val (.str j) => if i.length + j.length ≤ sizeLine then some (.str (i ++ j)) else none
    | _ => none
  | a => gAddL a b
theorem s2_addL {K : PySem.W.Frag} {F H : Hp} {x y : V} {a b : Ar} {z : D} {Q : VK} (s : Same F H) (ha : ArOk K F H x a) (hb : ArOk K F H y b) (e : gAddL a b = some z) (k : ∀ v F' H', Grow F H F' H' → Dv K F' v z → Q v H') : rAdd4 K x y H Q := by
  unfold gAddL at e
  split at e
  · rename_i ds es q1 q2
    split at e
    · rename_i hl
      cases e
      obtain ⟨p, xs, rfl, h1, t1⟩ := asLst_ok s ha q1
      obtain ⟨q, ys, rfl, h2, t2⟩ := asLst_ok s hb q2
      refine .inr (.inr (.inl ⟨p, q, xs, ys, rfl, rfl, h1, h2, by rw [dpa_len t1, dpa_len t2]; exact hl, fun r hr => ?_⟩))
      have g : Grow F H (upd F r (.lst (xs ++ ys))) (upd H r (.lst (xs ++ ys))) := .new s hr
      exact k _ _ _ g (.lst upd_same (dpa_mono g.fro (dpa_app t1 t2)))
    · cases e
  · split at e
    · rename_i ds es q1 q2
      split at e
      · rename_i hl
        cases e
        obtain ⟨p, xs, rfl, h1, t1, d1⟩ := asTup_ok s ha q1
        obtain ⟨q, ys, rfl, h2, t2, d2⟩ := asTup_ok s hb q2
        refine .inr (.inr (.inr ⟨p, q, xs, ys, rfl, rfl, h1, h2, by rw [dpa_len t1, dpa_len t2]; exact hl, fun e => ?_, fun _ e => ?_, fun _ _ r hr => ?_⟩))
        · subst e
          cases t1
          exact k _ _ _ (.refl s) d2
        · subst e
          cases t2
          rw [List.append_nil] at k
          exact k _ _ _ (.refl s) d1
        · have g : Grow F H (upd F r (.tup (xs ++ ys))) (upd H r (.tup (xs ++ ys))) := .new s hr
          exact k _ _ _ g (.tup (.of upd_same) (dpa_mono g.fro (dpa_app t1 t2)))
      · cases e
    · cases e
theorem s2_add {K : PySem.W.Frag} : S2 K (rAdd4 K) gAdd := by
  intro F H x y a b z Q s ha hb e k
  unfold gAdd at e
  split at e
  · split at e
    · cases e
      obtain rfl := val_int ha
      obtain rfl := val_int hb
      exact .inl ⟨_, _, rfl, rfl, k _ _ _ (.refl s) (.int _)⟩
    · cases e
  · split at e
    · split at e
      · rename_i hl
        cases e
        obtain rfl := val_str ha
        obtain rfl := val_str hb
        exact .inr (.inl ⟨_, _, rfl, rfl, hl, k _ _ _ (.refl s) (.str _)⟩)
      · cases e
    · cases e
  · exact s2_addL s ha hb e k
/-- an operation of two ints -/
def gI (c : Int → Int → Bool) (f : Int → Int → D) (a b : Ar) : Option D := match a with
  | .val (.int i) => match b with
    | .val (.int j) => if c i j = true then some (f i j) else none
    | _ => none
  | _ => none
theorem s2_i {K : PySem.W.Frag} {c : Int → Int → Bool} {f : Int → Int → D} {C : Int → Int → Prop} {g : Int → Int → V} (hc : ∀ i j, c i j = true → C i j) (hf : ∀ F i j, Dv K F (g i j) (f i j)) : S2 K (rI C g) (gI c f) := by
  intro F H x y a b z Q s ha hb e k
  unfold gI at e
  split at e
  · split at e
    · split at e
      · rename_i h
        cases e
        obtain rfl := val_int ha
        obtain rfl := val_int hb
        exact ⟨_, _, rfl, rfl, hc _ _ h, k _ _ _ (.refl s) (hf _ _ _)⟩
      · cases e
    · cases e
  · cases e
def gI0 (f : Int → Int → D) (a b : Ar) : Option D := match a with
  | .val (.int i) => match b with
    | .val (.int j) => some (f i j)
    | _ => none
  | _ => none
theorem s2_i0 {K : PySem.W.Frag} {f : Int → Int → D} {g : Int → Int → V} (hf : ∀ F i j, Dv K F (g i j) (f i j)) : S2 K (rI0 g) (gI0 f) := by
  intro F H x y a b z Q s ha hb e k
  unfold gI0 at e
  split at e
  · split at e
    · cases e
      obtain rfl := val_int ha
      obtain rfl := val_int hb
      exact ⟨_, _, rfl, rfl, k _ _ _ (.refl s) (hf _ _ _)⟩
    · cases e
  · cases e
abbrev gMinus : Ar → Ar → Option D := gI0 fun i j => .int (i - j)
theorem s2_sub {K : PySem.W.Frag} : S2 K (rI0 fun i j => .int (i - j)) gMinus := s2_i0 fun _ _ _ => .int _
abbrev gMod : Ar → Ar → Option D := gI (fun _ j => decide (j ≠ 0)) fun i j => .int (i.fmod j)
theorem s2_mod {K : PySem.W.Frag} : S2 K (rI (fun _ j => j ≠ 0) fun i j => .int (i.fmod j)) gMod := s2_i (fun _ _ h => of_decide_eq_true h) fun _ _ _ => .int _
abbrev gFdiv : Ar → Ar → Option D := gI (fun _ j => decide (j ≠ 0) && decide (j.natAbs < 1073741824)) fun i j => .int (i.fdiv j)
theorem s2_fdiv {K : PySem.W.Frag} : S2 K (rI CDivN fun i j => .int (i.fdiv j)) gFdiv :=
  s2_i (fun _ _ h => by rw [Bool.and_eq_true] at h; exact ⟨of_decide_eq_true h.1, of_decide_eq_true h.2⟩) fun _ _ _ => .int _
abbrev gPow : Ar → Ar → Option D := gI (fun i j => decide (0 ≤ j) && (decide (j ≤ 1000000) && decide (i.natAbs < 2 ^ 64))) fun i j => .int (i ^ j.toNat)
theorem s2_pow {K : PySem.W.Frag} : S2 K (rI CPow fun i j => .int (i ^ j.toNat)) gPow :=
  s2_i (fun _ _ h => by rw [Bool.and_eq_true, Bool.and_eq_true] at h; exact ⟨of_decide_eq_true h.1, of_decide_eq_true h.2.1, of_decide_eq_true h.2.2⟩) fun _ _ _ => .int _
abbrev gLt : Ar → Ar → Option D := gI0 fun i j => .bool (decide (i < j))
abbrev gLe : Ar → Ar → Option D := gI0 fun i j => .bool (decide (i ≤ j))
abbrev gGt : Ar → Ar → Option D := gI0 fun i j => .bool (decide (j < i))
abbrev gGe : Ar → Ar → Option D := gI0 fun i j => .bool (decide (j ≤ i))
theorem s2_lt {K : PySem.W.Frag} : S2 K (rI0 fun i j => .bl (decide (i < j))) gLt := s2_i0 fun _ _ _ => .bl _
theorem s2_le {K : PySem.W.Frag} : S2 K (rI0 fun i j => .bl (decide (i ≤ j))) gLe := s2_i0 fun _ _ _ => .bl _
theorem s2_gt {K : PySem.W.Frag} : S2 K (rI0 fun i j => .bl (decide (j < i))) gGt := s2_i0 fun _ _ _ => .bl _
theorem s2_ge {K : PySem.W.Frag} : S2 K (rI0 fun i j => .bl (decide (j ≤ i))) gGe := s2_i0 fun _ _ _ => .bl _

/-! ### products -/
def small (i : Int) : Bool := decide (-(2 ^ 64) < i) && decide (i < 2 ^ 64)
def mulOk (i j : Int) : Bool := small i || (small j || decide (i.natAbs.log2 + j.natAbs.log2 < 1000000))
def rMul4 (K : PySem.W.Frag) : R2 := fun x y H Q => (rI CMul (fun i j => .int (i * j)) x y H Q) ∨ ((rI CMulW (fun i j => .int (i * j)) x y H Q) ∨ (rRep x y H Q ∨ rRepT K x y H Q))
theorem opMul {X : Cx} : OpR X (binaryOp .Mult) (rMul4 X.K) := op_mul.or (op_mulW.or (op_rep.or op_repT))
def gMulL (a : Ar) (k : Int) : Option D := match asLst a with
  | some ds => if -(2 ^ 63) ≤ k ∧ k < 2 ^ 63 ∧ ds.length * k.toNat ≤ sizeLine then some (.list (List.replicate k.toNat ds).flatten) else none
  | none => match asTup a with
    | some ds => if ds ≠ [] ∧ 2 ≤ k ∧ k ≤ 1000 ∧ ds.length ≤ 1000 then some (.tuple (List.replicate k.toNat ds).flatten) else none
    | none => none
def gMul (a b : Ar) : Option D := match b with
  | .val (.int j) => match a with
    | .val (.int i) => if mulOk i j = true then some (.int (i * j)) else none
    | a => gMulL a j
  | _ => none
theorem dva_rep {K : PySem.W.Frag} {F : Hp} {xs : List V} {ds : List D} (h : DvA K F xs ds) : ∀ n : Nat, DvA K F (List.replicate n xs).flatten (List.replicate n ds).flatten
  | 0 => .nil
  | n + 1 => by
    rw [List.replicate_succ, List.replicate_succ, List.flatten_cons, List.flatten_cons]
    exact dpa_app h (dva_rep h n)
theorem s2_mul {K : PySem.W.Frag} : S2 K (rMul4 K) gMul := by
  intro F H x y a b z Q s ha hb e k
  unfold gMul at e
  split at e
  · rename_i j
    obtain rfl := val_int hb
    split at e
    · rename_i i
      split at e
      · rename_i h
        cases e
        obtain rfl := val_int ha
        unfold mulOk small at h
        simp only [Bool.or_eq_true, Bool.and_eq_true, decide_eq_true_eq] at h
        rcases h with h | h | h
        · exact .inl ⟨_, _, rfl, rfl, .inl h, k _ _ _ (.refl s) (.int _)⟩
        · exact .inl ⟨_, _, rfl, rfl, .inr h, k _ _ _ (.refl s) (.int _)⟩
        · exact .inr (.inl ⟨_, _, rfl, rfl, h, k _ _ _ (.refl s) (.int _)⟩)
      · cases e
    · unfold gMulL at e
      split at e
      · rename_i ds q
        split at e
        · rename_i h
          cases e
          obtain ⟨p, xs, rfl, h1, t1⟩ := asLst_ok s ha q
          refine .inr (.inr (.inl ⟨p, j, xs, rfl, rfl, h1, h.1, h.2.1, by rw [dpa_len t1]; exact h.2.2, fun r hr => ?_⟩))
          have g : Grow F H (upd F r (.lst (List.replicate j.toNat xs).flatten)) (upd H r (.lst (List.replicate j.toNat xs).flatten)) := .new s hr
          exact k _ _ _ g (.lst upd_same (dpa_mono g.fro (dva_rep t1 _)))
        · cases e
      · split at e
        · rename_i ds q
          split at e
          · rename_i h
            cases e
            obtain ⟨p, xs, rfl, h1, t1, _⟩ := asTup_ok s ha q
            refine .inr (.inr (.inr ⟨p, j, xs, rfl, rfl, h1, fun z => ?_, h.2.1, h.2.2.1, by rw [dpa_len t1]; exact h.2.2.2, fun r hr => ?_⟩))
            · subst z
              cases t1
              exact h.1 rfl
            · have g : Grow F H (upd F r (.tup (List.replicate j.toNat xs).flatten)) (upd H r (.tup (List.replicate j.toNat xs).flatten)) := .new s hr
              exact k _ _ _ g (.tup (.of upd_same) (dpa_mono g.fro (dva_rep t1 _)))
          · cases e
        · cases e
  · cases e

/-! ### == and != -/
def toD : Ar → Option D
  | .val d => some d
  | .lst ds => some (.list ds)
  | _ => none
theorem toD_ok {K : PySem.W.Frag} {F H : Hp} {v : V} {a : Ar} {d : D} (s : Same F H) (h : ArOk K F H v a) (e : toD a = some d) : Dp K H v d := by
  cases a with
  | val d => cases e; exact dv_dp s h
  | lst ds => cases e; obtain ⟨p, xs, rfl, h1, t⟩ := h; exact .lst (.of h1) (dva_dpa s t)
  | scr ns => cases e
  | kd kvs => cases e
def gE (n : Bool) (a b : Ar) : Option D := match toD a, toD b with
  | some d, some e => if (SeqAt.shaped d && SeqAt.shaped e) = true then some (.bool (xor n (PyData.eqv d e))) else none
  | _, _ => none
abbrev gEq := gE false
abbrev gNe := gE true
theorem s2_eq {K : PySem.W.Frag} : S2 K (rEqD K) gEq := by
  intro F H x y a b z Q s ha hb e k
  unfold gEq gE at e
  split at e
  · rename_i d f q1 q2
    split at e
    · rename_i h
      cases e
      rw [Bool.and_eq_true] at h
      refine ⟨d, f, toD_ok s ha q1, toD_ok s hb q2, h.1, h.2, ?_⟩
      rw [Bool.false_xor] at k
      exact k _ _ _ (.refl s) (.bl _)
    · cases e
  · cases e
theorem s2_ne {K : PySem.W.Frag} : S2 K (rNeD K) gNe := by
  intro F H x y a b z Q s ha hb e k
  unfold gNe gE at e
  split at e
  · rename_i d f q1 q2
    split at e
    · rename_i h
      cases e
      rw [Bool.and_eq_true] at h
      refine ⟨d, f, toD_ok s ha q1, toD_ok s hb q2, h.1, h.2, ?_⟩
      rw [Bool.true_xor] at k
      exact k _ _ _ (.refl s) (.bl _)
    · cases e
  · cases e

/-! ### is -/
def rIs2 (n : Bool) : R2 := fun x y H Q => (y = .non ∧ Q (.bl (xor n (decide (x = .non)))) H) ∨ (∃ a b, x = .bl a ∧ y = .bl b ∧ Q (.bl (xor n (decide (a = b)))) H)
theorem opIs {X : Cx} : OpR X (compareOp .Is) (rIs2 false) := by
  have h := OpR.or (X := X) op_isN op_is_bl
  intro pins s σ H x y v u Q I rx ry q
  refine h pins s σ H x y v u Q I rx ry ?_
  simpa only [rIs2, Bool.false_xor] using q
theorem opIsNot {X : Cx} : OpR X (compareOp .IsNot) (rIs2 true) := by
  have h := OpR.or (X := X) op_notN op_isnot_bl
  intro pins s σ H x y v u Q I rx ry q
  refine h pins s σ H x y v u Q I rx ry ?_
  simpa only [rIs2, Bool.true_xor] using q
def isNonA : Ar → Bool
  | .val .none => true
  | _ => false
theorem isNonA_ok {K : PySem.W.Frag} {F H : Hp} {v : V} {a : Ar} (h : ArOk K F H v a) : decide (v = .non) = isNonA a := by
  cases a with
  | val d =>
    have h2 : Dv K F v d := h
    cases h2 <;> rfl
  | lst ds => obtain ⟨p, xs, rfl, _⟩ := h; rfl
  | scr ns => obtain ⟨p, rfl, _⟩ := h; rfl
  | kd kvs => obtain ⟨p, xs, rfl, _⟩ := h; rfl
def gIsX (n : Bool) (a b : Ar) : Option D := match b with
  | .val .none => some (.bool (xor n (isNonA a)))
  | .val (.bool q) => match a with
    | .val (.bool p) => some (.bool (xor n (decide (p = q))))
    | _ => none
  | _ => none
theorem s2_is {K : PySem.W.Frag} {n : Bool} : S2 K (rIs2 n) (gIsX n) := by
  intro F H x y a b z Q s ha hb e k
  unfold gIsX at e
  split at e
  · cases e
    obtain rfl := val_non hb
    refine .inl ⟨rfl, ?_⟩
    rw [isNonA_ok ha]
    exact k _ _ _ (.refl s) (.bl _)
  · split at e
    · cases e
      obtain rfl := val_bl ha
      obtain rfl := val_bl hb
      exact .inr ⟨_, _, rfl, rfl, k _ _ _ (.refl s) (.bl _)⟩
    · cases e
  · cases e

/-! ### subscripts and slices -/
theorem dva_atI {K : PySem.W.Frag} {F : Hp} {xs : List V} {ds : List D} {i : Int} {d : D} (t : DvA K F xs ds) (e : atI ds i = some d) : ∃ v, atI xs i = some v ∧ Dv K F v d := by
  unfold atI at e ⊢
  rw [dpa_len t]
  cases q : ixN ds.length i with
  | none => rw [q] at e; cases e
  | some j => rw [q] at e; exact dpa_get' t e
def gIx (a b : Ar) : Option D := match b with
  | .val (.int i) => match a with
    | .val (.str z) => if z.length ≤ sizeLine then (atI z.cps.toList i).map fun c => .str ⟨#[c]⟩ else none
    | a => match asSeq a with
      | some ds => atI ds i
      | none => none
  | _ => none
theorem s2_ix {K : PySem.W.Frag} : S2 K (rIx K) gIx := by
  intro F H x y a b z Q s ha hb e k
  unfold gIx at e
  split at e
  · rename_i i
    obtain rfl := val_int hb
    split at e
    · rename_i st
      obtain rfl := val_str ha
      split at e
      · rename_i h
        cases q : atI st.cps.toList i with
        | none => rw [q] at e; cases e
        | some c =>
          rw [q] at e; cases e
          exact .inr (.inr ⟨st, i, c, rfl, rfl, h, q, k _ _ _ (.refl s) (.str _)⟩)
      · cases e
    · split at e
      · rename_i ds q
        obtain ⟨p, xs, rfl, h, t⟩ := asSeq_ok s ha q
        obtain ⟨v, e1, e2⟩ := dva_atI t e
        rcases h with h | h
        · exact .inl ⟨p, xs, i, v, rfl, rfl, h, e1, k _ _ _ (.refl s) e2⟩
        · exact .inr (.inl ⟨p, xs, i, v, rfl, rfl, h, e1, k _ _ _ (.refl s) e2⟩)
      · cases e
  · cases e
section
variable {X : Cx} {a b : Expr} {ta tb : TE} {pos : Pos}
theorem x_ix {fa fb : En → R D} (ha : Ex X a ta fa) (hb : Ex X b tb fb) (hs : PlainIx b := by exact fun _ _ => rfl) : Ex X (.Subscript a b pos) (tOp (rIx X.K) ta tb) (dBin gIx fa fb) := ⟨pe_ix ix_seq ha.p hb.p hs, se_bin s2_ix ha.s hb.s⟩
theorem x_ixO {fa fb : En → R AV} (ha : Op X a ta fa) (hb : Op X b tb fb) (hs : PlainIx b := by exact fun _ _ => rfl) : Ex X (.Subscript a b pos) (tOp (rIx X.K) ta tb) (dOp gIx fa fb) := ⟨pe_ix ix_seq ha.p hb.p hs, se_op s2_ix ha.s hb.s⟩
/-- a part of a slice -/
def SPt (K : PySem.W.Frag) (t : TO) (f : En → R (Option Int)) : Prop := ∀ (P : Pn) (F H : Hp) (σ : St) (ρ : En) (d : Option Int) (ρ' : En) (Q : Option Int → Hp → Prop), Rep K P F H σ ρ → f ρ = .ok d ρ' →
  (∀ F' H', Go K P F H σ ρ F' H' σ ρ' → Q d H') → t σ H Q
structure Pt (X : Cx) (e : Option Expr) (t : TO) (f : En → R (Option Int)) : Prop where
  p : PO X e t
  s : SPt X.K t f
def dNone : En → R (Option Int) := fun ρ => .ok none ρ
def dSome (f : En → R D) : En → R (Option Int) := fun ρ => (f ρ).bind fun d ρ' => match d with
  | .int i => .ok (some i) ρ'
  | _ => .no
theorem p_none : Pt X none tNoPart dNone := ⟨po_none, fun P F H σ ρ d ρ' Q r e k => by cases e; exact k F H (.refl r)⟩
theorem p_some {f : En → R D} (h : Ex X a ta f) : Pt X (some a) (tPart ta) (dSome f) := by
  refine ⟨po_some h.p, fun P F H σ ρ d ρ' Q r e k => ?_⟩
  obtain ⟨x, ρ1, e1, e⟩ := Rb e
  refine h.s P F H σ ρ x ρ1 _ r e1 fun v F1 H1 g1 h1 => ?_
  split at e
  · cases e
    cases h1
    exact ⟨_, rfl, k F1 H1 g1⟩
  · cases e
def cutD (xs : List D) (lo hi : Option Int) : List D := (xs.drop (HT.sIx xs.length 0 lo)).take (HT.sIx xs.length xs.length hi - HT.sIx xs.length 0 lo)
theorem dva_cut {K : PySem.W.Frag} {F : Hp} {xs : List V} {ds : List D} {lo hi : Option Int} (t : DvA K F xs ds) : DvA K F (cutV xs lo hi) (cutD ds lo hi) := by
  unfold cutV cutD
  rw [dpa_len t]
  exact dpa_take _ (dpa_drop _ t)
def rSl3 (K : PySem.W.Frag) : V → Option Int → Option Int → Hp → VK → Prop := fun x lo hi H Q => rSlL K x lo hi H Q ∨ (rSlA K x lo hi H Q ∨ rSlS x lo hi H Q)
theorem slAll : SlR X (rSl3 X.K) := sl_list.or (sl_tupA.or sl_str)
def gSl (a : Ar) (lo hi : Option Int) : Option D := match a with
  | .val (.str z) => if z.length ≤ sizeLine then some (.str (cutS z lo hi)) else none
  | .val (.tuple ds) => some (.tuple (cutD ds lo hi))
  | .val (.list ds) => some (.list (cutD ds lo hi))
  | .lst ds => some (.list (cutD ds lo hi))
  | .scr ns => some (.list (cutD (ns.map .int) lo hi))
  | _ => none
theorem cutV_all {xs : List V} {lo hi : Option Int} (h : HT.sIx xs.length 0 lo = 0 ∧ HT.sIx xs.length xs.length hi = xs.length) : cutV xs lo hi = xs := by
  unfold cutV
  rw [h.1, h.2, List.drop_zero, Nat.sub_zero, List.take_length]
theorem cutD_all {xs : List D} {lo hi : Option Int} (h : HT.sIx xs.length 0 lo = 0 ∧ HT.sIx xs.length xs.length hi = xs.length) : cutD xs lo hi = xs := by
  unfold cutD
  rw [h.1, h.2, List.drop_zero, Nat.sub_zero, List.take_length]
theorem sl_ok {K : PySem.W.Frag} {F H : Hp} {x : V} {a : Ar} {lo hi : Option Int} {z : D} {Q : VK} (s : Same F H) (ha : ArOk K F H x a) (e : gSl a lo hi = some z) (k : ∀ v F' H', Grow F H F' H' → Dv K F' v z → Q v H') : rSl3 K x lo hi H Q := by
  have lst : ∀ {p : Addr} {xs : List V} {ds : List D}, x = .ref p → SqL K H p xs → DvA K F xs ds → z = .list (cutD ds lo hi) → rSl3 K x lo hi H Q := fun {p xs ds} e1 h t e2 => by
    subst e1 e2
    refine .inl ⟨p, xs, rfl, h, fun r hr => ?_⟩
    have g : Grow F H (upd F r (.lst (cutV xs lo hi))) (upd H r (.lst (cutV xs lo hi))) := .new s hr
    exact k _ _ _ g (.lst upd_same (dpa_mono g.fro (dva_cut t)))
  unfold gSl at e
  split at e
  · split at e
    · rename_i h
      cases e
      obtain rfl := val_str ha
      exact .inr (.inr ⟨_, rfl, h, k _ _ _ (.refl s) (.str _)⟩)
    · cases e
  · rename_i ds
    cases e
    obtain ⟨p, xs, rfl, h, t, d⟩ := asTup_ok s ha rfl
    refine .inr (.inl ⟨p, xs, rfl, h, fun w => ?_, fun w r hr => ?_⟩)
    · rw [dpa_len t] at w
      rw [cutD_all w] at k
      exact k _ _ _ (.refl s) d
    · have g : Grow F H (upd F r (.tup (cutV xs lo hi))) (upd H r (.tup (cutV xs lo hi))) := .new s hr
      exact k _ _ _ g (.tup (.of upd_same) (dpa_mono g.fro (dva_cut t)))
  · cases e
    obtain ⟨p, xs, rfl, h, t⟩ := asLst_ok s ha rfl
    exact lst rfl (.of h) t rfl
  · cases e
    obtain ⟨p, xs, rfl, h, t⟩ := asLst_ok s ha rfl
    exact lst rfl (.of h) t rfl
  · cases e
    obtain ⟨p, rfl, h⟩ := ha
    exact lst rfl h (dva_ints _) rfl
  · cases e
def dSl (fa : En → R AV) (fl fh : En → R (Option Int)) : En → R D := fun ρ => (fa ρ).bind fun x ρ1 => (fl ρ1).bind fun lo ρ2 => (fh ρ2).bind fun hi ρ3 => match rsv ρ3 x with
  | some a => match gSl a lo hi with
    | some z => .ok z ρ3
    | none => .no
  | none => .no
theorem x_sl {lo hi : Option Expr} {tl th : TO} {p2 : Pos} {fa : En → R AV} {fl fh : En → R (Option Int)} (ha : Op X a ta fa) (hl : Pt X lo tl fl) (hh : Pt X hi th fh) :
    Ex X (.Subscript a (.Slice lo hi none p2) pos) (tSl (rSl3 X.K) ta tl th) (dSl fa fl fh) := by
  refine ⟨pe_slice slAll ha.p hl.p hh.p, fun P F H σ ρ d ρ' Q r e k => ?_⟩
  obtain ⟨x, ρ1, e1, e⟩ := Rb e
  obtain ⟨l, ρ2, e2, e⟩ := Rb e
  obtain ⟨h, ρ3, e3, e⟩ := Rb e
  refine ha.s P F H σ ρ x ρ1 _ r e1 fun v F1 H1 g1 h1 => ?_
  refine hl.s P F1 H1 σ ρ1 l ρ2 _ g1.rep e2 fun F2 H2 g2 => ?_
  refine hh.s P F2 H2 σ ρ2 h ρ3 _ g2.rep e3 fun F3 H3 g3 => ?_
  split at e
  · rename_i a' ea
    split at e
    · rename_i z ez
      cases e
      refine sl_ok g3.rep.sub (((h1.go g2).go g3).rsv g3.rep ea) ez fun w F4 H4 gr hv => ?_
      exact k w F4 H4 (((g1.trans g2).trans g3).trans (Go.grow g3.rep gr)) hv
    · cases e
  · cases e
end
end L2.G

namespace L2.G
open PySem PySem.Spec PyProof.Rows

/-! ## calls of built-ins -/
inductive ArsOk (K : PySem.W.Frag) (F H : Hp) : List V → List Ar → Prop
  | nil : ArsOk K F H [] []
  | cons {v : V} {vs : List V} {a : Ar} {as : List Ar} : ArOk K F H v a → ArsOk K F H vs as → ArsOk K F H (v :: vs) (a :: as)
def rsvs (ρ : En) : List AV → Option (List Ar)
  | [] => some []
  | a :: r => match rsv ρ a, rsvs ρ r with
    | some b, some bs => some (b :: bs)
    | _, _ => none
theorem rsvs_ok {K : PySem.W.Frag} {P : Pn} {F H H0 : Hp} {σ : St} {ρ : En} (r : Rep K P F H σ ρ) : ∀ {vs : List V} {as : List AV} {bs : List Ar}, VsOk K F H σ ρ H0 vs as → rsvs ρ as = some bs → ArsOk K F H vs bs
  | _, _, _, .nil, e => by cases e; exact .nil
  | _, _, _, .cons h t, e => by
    unfold rsvs at e
    split at e
    · rename_i b cs e1 e2
      cases e
      exact .cons (h.rsv r e1) (rsvs_ok r t e2)
    · cases e
/-- what a built-in does with values, by data -/
def SC (K : PySem.W.Frag) (r : List V → Hp → VK → Prop) (g : List Ar → Option D) : Prop := ∀ (F H : Hp) (vs : List V) (bs : List Ar) (z : D) (Q : VK), Same F H → ArsOk K F H vs bs → g bs = some z →
  (∀ v F' H', Grow F H F' H' → Dv K F' v z → Q v H') → r vs H Q
/-- .. that gives a new list -/
def SCL (K : PySem.W.Frag) (r : List V → Hp → VK → Prop) (g : List Ar → Option (List D)) : Prop := ∀ (F H : Hp) (vs : List V) (bs : List Ar) (ds : List D) (Q : VK), Same F H → ArsOk K F H vs bs → g bs = some ds →
  (∀ a xs H', Same H H' → H a = none → H' a = some (.lst xs) → DvA K F xs ds → Q (.ref a) H') → r vs H Q
def dCb {α : Type} (g : List Ar → Option α) (fa : En → R (List AV)) : En → R α := fun ρ => (fa ρ).bind fun as ρ' => match rsvs ρ' as with
  | some bs => match g bs with
    | some z => .ok z ρ'
    | none => .no
  | none => .no
theorem se_cb {K : PySem.W.Frag} {r : List V → Hp → VK → Prop} {g : List Ar → Option D} {t : TA} {fa : En → R (List AV)} (hr : SC K r g) (ha : SA K t fa) : SE K (tCB r t) (dCb g fa) := by
  intro P F H σ ρ d ρ' Q q e k
  obtain ⟨as, ρ1, e1, e⟩ := Rb e
  refine ha P F H σ ρ as ρ1 _ q e1 fun vs F1 H1 g1 h1 => ?_
  split at e
  · rename_i bs eb
    split at e
    · rename_i z ez
      cases e
      exact hr F1 H1 vs bs _ Q g1.rep.sub (rsvs_ok g1.rep h1 eb) ez fun w F2 H2 gr hv => k w F2 H2 (g1.trans (Go.grow g1.rep gr)) hv
    · cases e
  · cases e
theorem sl_cb {K : PySem.W.Frag} {r : List V → Hp → VK → Prop} {g : List Ar → Option (List D)} {t : TA} {fa : En → R (List AV)} (hr : SCL K r g) (ha : SA K t fa) : SL K (tCB r t) (dCb g fa) := by
  intro P F H σ ρ d ρ' Q q e k
  obtain ⟨as, ρ1, e1, e⟩ := Rb e
  refine ha P F H σ ρ as ρ1 _ q e1 fun vs F1 H1 g1 h1 => ?_
  split at e
  · rename_i bs eb
    split at e
    · rename_i z ez
      cases e
      refine hr F1 H1 vs bs _ Q g1.rep.sub (rsvs_ok g1.rep h1 eb) ez fun a xs H2 sm hn hl hd => ?_
      have fn : F1 a = none := by
        cases z : F1 a with
        | none => rfl
        | some o => rw [g1.rep.sub _ _ z] at hn; cases hn
      have gr : Grow F1 H1 F1 H2 := ⟨sm, Same.refl _, fun _ _ => rfl, g1.rep.sub.trans sm⟩
      exact k a xs F1 H2 (g1.trans (Go.grow g1.rep gr)) (g1.fresh a hn) fn hl hd fun o => Go.ownOf q g1 o hn
    · cases e
  · cases e
section
variable {X : Cx} {x : Str} {p pos : Pos} {e : Expr} {es : List Expr} {t : TA} {id T : String} {r : List V → Hp → VK → Prop} {fa : En → R (List AV)}
theorem x_cb {g : List Ar → Option D} (hc : CallR X (.builtin id) r) (hs : SC X.K r g) (hv : bootBuiltins x = some (.builtin id)) (hm : X.mg x = none) (ha : As X (e :: es) t fa) (hg : Gl X x := by rfl) (hn : x ≠ "__name__" := by decide) (hdb : (x == ("__debug__" : Str)) = false := by decide)
    (he : starEach (e :: es) X.env = (false, eval e X.env) :: starEach es X.env := by rfl) (hpl : (backTo pos (starEach es X.env)).any (·.1) = false := by rfl) : Ex X (.Call (.Name x p) (e :: es) [] pos) (tCB r t) (dCb g fa) :=
  ⟨pe_callB hc hg hm hv ha.p hn hdb he hpl, se_cb hs ha.s⟩
theorem n_cb {g : List Ar → Option (List D)} (hc : CallR X (.builtin id) r) (hs : SCL X.K r g) (hv : bootBuiltins x = some (.builtin id)) (hm : X.mg x = none) (ha : As X (e :: es) t fa) (hg : Gl X x := by rfl) (hn : x ≠ "__name__" := by decide) (hdb : (x == ("__debug__" : Str)) = false := by decide)
    (he : starEach (e :: es) X.env = (false, eval e X.env) :: starEach es X.env := by rfl) (hpl : (backTo pos (starEach es X.env)).any (·.1) = false := by rfl) : Nw X (.Call (.Name x p) (e :: es) [] pos) (tCB r t) (dCb g fa) :=
  ⟨pe_callB hc hg hm hv ha.p hn hdb he hpl, sl_cb hs ha.s⟩
theorem x_ty {g : List Ar → Option D} (hc : CallR X (.type T) r) (hs : SC X.K r g) (hv : bootBuiltins x = some (.type T)) (hm : X.mg x = none) (ha : As X (e :: es) t fa) (hg : Gl X x := by rfl) (hn : x ≠ "__name__" := by decide) (hdb : (x == ("__debug__" : Str)) = false := by decide)
    (he : starEach (e :: es) X.env = (false, eval e X.env) :: starEach es X.env := by rfl) (hpl : (backTo pos (starEach es X.env)).any (·.1) = false := by rfl) : Ex X (.Call (.Name x p) (e :: es) [] pos) (tCB r t) (dCb g fa) :=
  ⟨pe_callTy hc hg hm hv ha.p hn hdb he hpl, se_cb hs ha.s⟩
theorem n_ty {g : List Ar → Option (List D)} (hc : CallR X (.type T) r) (hs : SCL X.K r g) (hv : bootBuiltins x = some (.type T)) (hm : X.mg x = none) (ha : As X (e :: es) t fa) (hg : Gl X x := by rfl) (hn : x ≠ "__name__" := by decide) (hdb : (x == ("__debug__" : Str)) = false := by decide)
    (he : starEach (e :: es) X.env = (false, eval e X.env) :: starEach es X.env := by rfl) (hpl : (backTo pos (starEach es X.env)).any (·.1) = false := by rfl) : Nw X (.Call (.Name x p) (e :: es) [] pos) (tCB r t) (dCb g fa) :=
  ⟨pe_callTy hc hg hm hv ha.p hn hdb he hpl, sl_cb hs ha.s⟩
end

/-! ### len, abs, int, tuple, list -/
def rLen2 (K : PySem.W.Frag) : List V → Hp → VK → Prop := fun xs H Q => (∃ p ys, xs = [.ref p] ∧ (SqL K H p ys ∨ SqT K H p ys) ∧ Q (.int ys.length) H) ∨ (∃ z, xs = [.str z] ∧ z.length ≤ sizeLine ∧ Q (.int z.length) H)
theorem cLen {X : Cx} : CallR X (.builtin "len") (rLen2 X.K) := call_len_seq.or call_len_str
def gLen : List Ar → Option D
  | [.val (.str z)] => if z.length ≤ sizeLine then some (.int z.length) else none
  | [a] => match asSeq a with
    | some ds => some (.int ds.length)
    | none => none
  | _ => none
theorem sc_len {K : PySem.W.Frag} : SC K (rLen2 K) gLen := by
  intro F H vs bs z Q s h e k
  unfold gLen at e
  split at e
  · split at e
    · rename_i st hl
      cases e
      cases h with
      | cons h1 t =>
        cases t
        obtain rfl := val_str h1
        exact .inr ⟨_, rfl, hl, k _ _ _ (.refl s) (.int _)⟩
    · cases e
  · split at e
    · rename_i ds q
      cases e
      cases h with
      | cons h1 t =>
        cases t
        obtain ⟨p, xs, rfl, h2, t2⟩ := asSeq_ok s h1 q
        refine .inl ⟨p, xs, rfl, h2, ?_⟩
        rw [dpa_len t2]
        exact k _ _ _ (.refl s) (.int _)
    · cases e
  · cases e
def gAbs : List Ar → Option D
  | [.val (.int i)] => some (.int (if i < 0 then -i else i))
  | _ => none
theorem sc_abs {K : PySem.W.Frag} : SC K (fun xs H Q => ∃ i, xs = [.int i] ∧ Q (.int (if i < 0 then -i else i)) H) gAbs := by
  intro F H vs bs z Q s h e k
  unfold gAbs at e
  split at e
  · cases e
    cases h with
    | cons h1 t =>
      cases t
      obtain rfl := val_int h1
      exact ⟨_, rfl, k _ _ _ (.refl s) (.int _)⟩
  · cases e
def rInt3 : List V → Hp → VK → Prop := fun xs H Q => ((∃ i, xs = [.int i] ∧ Q (.int i) H) ∨ ∃ k, xs = [.bl k] ∧ Q (.int (if k then 1 else 0)) H) ∨ (∃ a n, xs = [.str a] ∧ PySem.intText? a = some n ∧ a.length ≤ 640 ∧ Q (.int n) H)
theorem cInt {X : Cx} : CallR X (.type "int") rInt3 := call_int1.or call_int_str
def gInt : List Ar → Option D
  | [.val (.int i)] => some (.int i)
  | [.val (.bool b)] => some (.int (if b then 1 else 0))
  | [.val (.str z)] => if z.length ≤ 640 then (PySem.intText? z).map .int else none
  | _ => none
theorem sc_int {K : PySem.W.Frag} : SC K rInt3 gInt := by
  intro F H vs bs z Q s h e k
  unfold gInt at e
  split at e
  · cases e
    cases h with
    | cons h1 t =>
      cases t
      obtain rfl := val_int h1
      exact .inl (.inl ⟨_, rfl, k _ _ _ (.refl s) (.int _)⟩)
  · cases e
    cases h with
    | cons h1 t =>
      cases t
      obtain rfl := val_bl h1
      exact .inl (.inr ⟨_, rfl, k _ _ _ (.refl s) (.int _)⟩)
  · rename_i st
    split at e
    · rename_i hl
      cases q : PySem.intText? st with
      | none => rw [q] at e; cases e
      | some n =>
        rw [q] at e; cases e
        cases h with
        | cons h1 t =>
          cases t
          obtain rfl := val_str h1
          exact .inr ⟨_, n, rfl, q, hl, k _ _ _ (.refl s) (.int _)⟩
    · cases e
  · cases e
def rTup2 (K : PySem.W.Frag) : List V → Hp → VK → Prop := fun xs H Q => ∃ p ys, xs = [.ref p] ∧ ((SqL K H p ys ∧ ∀ l, H l = none → Q (.ref l) (upd H l (.tup ys))) ∨ (SqT K H p ys ∧ Q (.ref p) H))
theorem cTup {X : Cx} : CallR X (.type "tuple") (rTup2 X.K) := call_tuple_of
/-- a list, one's own list, the script -/
def asLs : Ar → Option (List D)
  | .val (.list ds) => some ds
  | .lst ds => some ds
  | .scr ns => some (ns.map .int)
  | _ => none
theorem asLs_ok {K : PySem.W.Frag} {F H : Hp} {v : V} {a : Ar} {ds : List D} (s : Same F H) (h : ArOk K F H v a) (e : asLs a = some ds) : ∃ p xs, v = .ref p ∧ SqL K H p xs ∧ DvA K F xs ds := by
  cases a with
  | val d =>
    cases d with
    | list es =>
      cases e
      have h2 : Dv K F v (.list ds) := h
      cases h2 with
      | lst h3 t => exact ⟨_, _, rfl, .of (s _ _ h3), t⟩
    | _ => cases e
  | lst es => cases e; obtain ⟨p, xs, e, h, t⟩ := h; exact ⟨p, xs, e, .of h, t⟩
  | scr ns => cases e; obtain ⟨p, e, h⟩ := h; exact ⟨p, _, e, h, dva_ints ns⟩
  | kd kvs => cases e
def gTuple : List Ar → Option D
  | [.val (.tuple ds)] => some (.tuple ds)
  | [a] => (asLs a).map .tuple
  | _ => none
theorem sc_tuple {K : PySem.W.Frag} : SC K (rTup2 K) gTuple := by
  intro F H vs bs z Q s h e k
  unfold gTuple at e
  split at e
  · cases e
    cases h with
    | cons h1 t =>
      cases t
      obtain ⟨p, xs, rfl, h2, t2, d⟩ := asTup_ok s h1 rfl
      exact ⟨p, xs, rfl, .inr ⟨h2, k _ _ _ (.refl s) d⟩⟩
  · rename_i a _
    cases q : asLs a with
    | none => rw [q] at e; cases e
    | some ds =>
      rw [q] at e; cases e
      cases h with
      | cons h1 t =>
        cases t
        obtain ⟨p, xs, rfl, h2, t2⟩ := asLs_ok s h1 q
        refine ⟨p, xs, rfl, .inl ⟨h2, fun l hl => ?_⟩⟩
        have g : Grow F H (upd F l (.tup xs)) (upd H l (.tup xs)) := .new s hl
        exact k _ _ _ g (.tup (.of upd_same) (dpa_mono g.fro t2))
  · cases e
def rList2 (K : PySem.W.Frag) : List V → Hp → VK → Prop := fun xs H Q => ∃ p ys, xs = [.ref p] ∧ (SqL K H p ys ∨ SqT K H p ys) ∧ ∀ l, H l = none → Q (.ref l) (upd H l (.lst ys))
theorem cList {X : Cx} : CallR X (.type "list") (rList2 X.K) := call_list_of
def gList : List Ar → Option (List D)
  | [a] => asSeq a
  | _ => none
theorem sc_list {K : PySem.W.Frag} : SCL K (rList2 K) gList := by
  intro F H vs bs z Q s h e k
  unfold gList at e
  split at e
  · cases h with
    | cons h1 t =>
      cases t
      obtain ⟨p, xs, rfl, h2, t2⟩ := asSeq_ok s h1 e
      refine ⟨p, xs, rfl, h2, fun l hl => k l xs _ (Grow.lay s hl).heap hl upd_same t2⟩
  · cases e

/-! ### sums, any, all -/
def asInts : List D → Option (List Int)
  | [] => some []
  | .int i :: r => (asInts r).map (i :: ·)
  | _ :: _ => none
def asBools : List D → Option (List Bool)
  | [] => some []
  | .bool i :: r => (asBools r).map (i :: ·)
  | _ :: _ => none
theorem ints_ok {K : PySem.W.Frag} {F : Hp} : ∀ {xs : List V} {ds : List D} {ns : List Int}, DvA K F xs ds → asInts ds = some ns → xs = ns.map V.int
  | _, _, _, .nil, e => by cases e; rfl
  | _, _, ns, .cons (d := d) (ds := ds) h t, e => by
    cases d with
    | int i =>
      unfold asInts at e
      cases q : asInts ds with
      | none => rw [q] at e; cases e
      | some ms => rw [q] at e; cases e; cases h; rw [ints_ok t q]; rfl
    | _ => cases e
theorem bools_ok {K : PySem.W.Frag} {F : Hp} : ∀ {xs : List V} {ds : List D} {ns : List Bool}, DvA K F xs ds → asBools ds = some ns → xs = ns.map V.bl
  | _, _, _, .nil, e => by cases e; rfl
  | _, _, ns, .cons (d := d) (ds := ds) h t, e => by
    cases d with
    | bool i =>
      unfold asBools at e
      cases q : asBools ds with
      | none => rw [q] at e; cases e
      | some ms => rw [q] at e; cases e; cases h; rw [bools_ok t q]; rfl
    | _ => cases e
/-- one row of ints, of bools, to a datum -/
def gInts (f : List Int → Option D) : List Ar → Option D
  | [a] => match asLs a with
    | some ds => match asInts ds with
      | some ns => f ns
      | none => none
    | none => none
  | _ => none
def gBools (f : List Bool → D) : List Ar → Option D
  | [a] => match asLs a with
    | some ds => match asBools ds with
      | some ns => some (f ns)
      | none => none
    | none => none
  | _ => none
theorem sc_sum {K : PySem.W.Frag} : SC K (rSum K) (gInts fun ns => some (.int ns.sum)) := by
  intro F H vs bs z Q s h e k
  unfold gInts at e
  split at e
  · split at e
    · rename_i ds q
      split at e
      · rename_i ns q2
        cases e
        cases h with
        | cons h1 t =>
          cases t
          obtain ⟨p, xs, rfl, h2, t2⟩ := asLs_ok s h1 q
          obtain rfl := ints_ok t2 q2
          exact ⟨p, ns, rfl, h2, k _ _ _ (.refl s) (.int _)⟩
      · cases e
    · cases e
  · cases e
theorem sc_any {K : PySem.W.Frag} : SC K (rAny K) (gBools fun ns => .bool (ns.any id)) := by
  intro F H vs bs z Q s h e k
  unfold gBools at e
  split at e
  · split at e
    · rename_i ds q
      split at e
      · rename_i ns q2
        cases e
        cases h with
        | cons h1 t =>
          cases t
          obtain ⟨p, xs, rfl, h2, t2⟩ := asLs_ok s h1 q
          obtain rfl := bools_ok t2 q2
          exact ⟨p, ns, rfl, h2, k _ _ _ (.refl s) (.bl _)⟩
      · cases e
    · cases e
  · cases e
theorem sc_all {K : PySem.W.Frag} : SC K (rAll K) (gBools fun ns => .bool (ns.all id)) := by
  intro F H vs bs z Q s h e k
  unfold gBools at e
  split at e
  · split at e
    · rename_i ds q
      split at e
      · rename_i ns q2
        cases e
        cases h with
        | cons h1 t =>
          cases t
          obtain ⟨p, xs, rfl, h2, t2⟩ := asLs_ok s h1 q
          obtain rfl := bools_ok t2 q2
          exact ⟨p, ns, rfl, h2, k _ _ _ (.refl s) (.bl _)⟩
      · cases e
    · cases e
  · cases e

/-! ### isinstance of a built-in class -/
def tyN : D → String
  | .none => "NoneType"
  | .bool _ => "bool"
  | .int _ => "int"
  | .str _ => "str"
  | .list _ => "list"
  | .tuple _ => "tuple"
  | .dict _ => "dict"
def isI (T : String) (d : D) : Bool := match kitB (tyN d) T with
  | some b => b
  | none => false
theorem kit_all : ∀ a ∈ ["NoneType", "bool", "int", "str", "list", "tuple"], ∀ T ∈ ["int", "bool", "str", "list", "tuple"], (kitB a T).isSome = true := by decide +kernel
theorem dv_ty {K : PySem.W.Frag} {F H : Hp} {v : V} {d : D} (s : Same F H) (h : Dv K F v d) : TyX K H v (.type (tyN d)) := by
  cases h with
  | non => exact .base .non
  | bl b => exact .base (.bl b)
  | int i => exact .base (.int i)
  | str x => exact .base (.str x)
  | lst h t => exact .base (.lst (s _ _ h))
  | tup h t =>
    rcases h with (h | ⟨o, h⟩) | ⟨o, its, n, h, c, _⟩
    · exact .base (.tup (s _ _ h))
    · exact .fTuple (s _ _ h)
    · exact .kTuple h c
theorem dv_tyN {K : PySem.W.Frag} {F : Hp} {v : V} {d : D} (h : Dv K F v d) : tyN d ∈ ["NoneType", "bool", "int", "str", "list", "tuple"] := by
  cases h <;> simp [tyN]
def dIsi (T : String) (f : En → R D) : En → R D := fun ρ => (f ρ).bind fun d ρ' => .ok (.bool (isI T d)) ρ'
theorem x_isi {X : Cx} (T : String) {Tn : Str} {e : Expr} {te : TE} {p p2 pos : Pos} {f : En → R D} (he : Ex X e te f) (hm : X.mg "isinstance" = none) (hmT : X.mg Tn = none) (hT : T ∈ ["int", "bool", "str", "list", "tuple"] := by decide +kernel) (hvT : bootBuiltins Tn = some (.type T) := by decide +kernel) (hg : Gl X "isinstance" := by rfl) (hgT : Gl X Tn := by rfl) (hn : Tn ≠ "__name__" := by decide) (hd : (Tn == ("__debug__" : Str)) = false := by decide)
    (h1 : starEach [e, .Name Tn p2] X.env = (false, eval e X.env) :: starEach [.Name Tn p2] X.env := by rfl)
    (h2 : starEach [.Name Tn p2] X.env = (false, eval (.Name Tn p2) X.env) :: starEach [] X.env := by rfl) (hpl : (backTo pos (starEach [.Name Tn p2] X.env)).any (·.1) = false := by rfl) :
    Ex X (.Call (.Name "isinstance" p) [e, .Name Tn p2] [] pos) (tCB (rIsi X.K) (tCons te (tCons (tC (.ty T)) tNil))) (dIsi T f) := by
  refine ⟨pe_callB call_isi hg hm (by decide +kernel) (pa_cons he.p (pa_cons (pe_bltn hgT hmT hvT (show RelV (.ty T) (.type T) from rfl) hn hd) pa_nil h2) h1) (by decide) (by decide) h1 hpl, fun P F H σ ρ d ρ' Q q e k => ?_⟩
  obtain ⟨a, ρ1, e1, e⟩ := Rb e
  cases e
  refine he.s P F H σ ρ a ρ' _ q e1 fun v F1 H1 g1 h => ?_
  have hk := kit_all _ (dv_tyN h) _ hT
  cases z : kitB (tyN a) T with
  | none => rw [z] at hk; cases hk
  | some b =>
    refine ⟨v, .ty T, _, _, b, rfl, .ty T, dv_ty g1.rep.sub h, kit_ty z, ?_⟩
    have e2 : isI T a = b := by unfold isI; rw [z]
    rw [e2] at k
    exact k _ F1 H1 g1 (.bl b)
/-! ### ranges as lists and tuples -/
def rgD (a b : Int) : List D := (List.range (b - a).toNat).map fun (i : Nat) => .int (a + i)
def rgOk (a b : Int) : Bool := decide (-(2 ^ 62) ≤ a) && (decide (a < 2 ^ 62) && (decide (-(2 ^ 62) ≤ b) && (decide (b < 2 ^ 62) && decide ((b - a).toNat ≤ 2 ^ 24))))
theorem rgOk_ok {a b : Int} (h : rgOk a b = true) : RgOk a b := by
  unfold rgOk at h
  simp only [Bool.and_eq_true, decide_eq_true_eq] at h
  exact h
theorem rg_dva {K : PySem.W.Frag} {F : Hp} (a b : Int) : DvA K F (rgV a b) (rgD a b) := by
  unfold rgV rgD
  generalize List.range (b - a).toNat = l
  induction l with
  | nil => exact .nil
  | cons n l ih => exact .cons (.int _) ih
def SRg (K : PySem.W.Frag) (t : St → Hp → (Int → Int → Hp → Prop) → Prop) (f : En → R (Int × Int)) : Prop := ∀ (P : Pn) (F H : Hp) (σ : St) (ρ : En) (d : Int × Int) (ρ' : En) (Q : Int → Int → Hp → Prop), Rep K P F H σ ρ → f ρ = .ok d ρ' →
  (∀ F' H', Go K P F H σ ρ F' H' σ ρ' → Q d.1 d.2 H') → t σ H Q
structure Rg (X : Cx) (e : Expr) (t : St → Hp → (Int → Int → Hp → Prop) → Prop) (f : En → R (Int × Int)) : Prop where
  p : PRg X e t
  s : SRg X.K t f
def dRg1 (fa : En → R D) : En → R (Int × Int) := fun ρ => (fa ρ).bind fun d ρ' => match d with
  | .int n => .ok (0, n) ρ'
  | _ => .no
def dRg2 (fa fb : En → R D) : En → R (Int × Int) := fun ρ => (fa ρ).bind fun d ρ1 => (fb ρ1).bind fun e ρ2 => match d, e with
  | .int n, .int m => .ok (n, m) ρ2
  | _, _ => .no
section
variable {X : Cx} {a b e : Expr} {ta tb : TE} {p pos : Pos}
theorem rg_1 {fa : En → R D} (ha : Ex X a ta fa) (hm : X.mg "range" = none) (hg : Gl X "range" := by rfl) (na : starEach [a] X.env = (false, eval a X.env) :: starEach [] X.env := by rfl) : Rg X (.Call (.Name "range" p) [a] [] pos) (tRg1 ta) (dRg1 fa) := by
  refine ⟨prg_1 hg hm ha.p na, fun P F H σ ρ d ρ' Q r e k => ?_⟩
  obtain ⟨x, ρ1, e1, e⟩ := Rb e
  refine ha.s P F H σ ρ x ρ1 _ r e1 fun v F1 H1 g1 h1 => ?_
  split at e
  · cases e
    cases h1
    exact ⟨_, rfl, k F1 H1 g1⟩
  · cases e
theorem rg_2 {fa fb : En → R D} (ha : Ex X a ta fa) (hb : Ex X b tb fb) (hm : X.mg "range" = none) (hg : Gl X "range" := by rfl) (na : starEach [a, b] X.env = (false, eval a X.env) :: starEach [b] X.env := by rfl)
    (nb : starEach [b] X.env = (false, eval b X.env) :: starEach [] X.env := by rfl) (hp : (backTo pos (starEach [b] X.env)).any (·.1) = false := by rfl) : Rg X (.Call (.Name "range" p) [a, b] [] pos) (tRg2 ta tb) (dRg2 fa fb) := by
  refine ⟨prg_2 hg hm ha.p hb.p na nb hp, fun P F H σ ρ d ρ' Q r e k => ?_⟩
  obtain ⟨x, ρ1, e1, e⟩ := Rb e
  obtain ⟨y, ρ2, e2, e⟩ := Rb e
  refine ha.s P F H σ ρ x ρ1 _ r e1 fun v F1 H1 g1 h1 => ?_
  refine hb.s P F1 H1 σ ρ1 y ρ2 _ g1.rep e2 fun u F2 H2 g2 h2 => ?_
  split at e
  · cases e
    cases h1
    cases h2
    exact ⟨_, _, rfl, rfl, k F2 H2 (g1.trans g2)⟩
  · cases e
def dListRg (f : En → R (Int × Int)) : En → R (List D) := fun ρ => (f ρ).bind fun q ρ' => if rgOk q.1 q.2 = true then .ok (rgD q.1 q.2) ρ' else .no
def dTupRg (f : En → R (Int × Int)) : En → R D := fun ρ => (f ρ).bind fun q ρ' => if rgOk q.1 q.2 = true then .ok (.tuple (rgD q.1 q.2)) ρ' else .no
variable {t : St → Hp → (Int → Int → Hp → Prop) → Prop} {f : En → R (Int × Int)}
theorem n_listRg (h : Rg X e t f) (hm : X.mg "list" = none) (hc : X.calm = true := by rfl) (hg : Gl X "list" := by rfl) (na : starEach [e] X.env = (false, eval e X.env) :: starEach [] X.env := by rfl) : Nw X (.Call (.Name "list" p) [e] [] pos) (tLstRg t) (dListRg f) := by
  refine ⟨pe_listRg hc hg hm h.p na, fun P F H σ ρ d ρ' Q r e k => ?_⟩
  obtain ⟨x, ρ1, e1, e⟩ := Rb e
  refine h.s P F H σ ρ x ρ1 _ r e1 fun F1 H1 g1 => ?_
  split at e
  · rename_i ok
    cases e
    refine ⟨rgOk_ok ok, fun q hq => ?_⟩
    have gr : Grow F1 H1 F1 (upd H1 q (.lst (rgV x.1 x.2))) := .lay g1.rep.sub hq
    refine k q _ F1 _ (g1.trans (Go.grow g1.rep gr)) (g1.fresh q hq) ?_ upd_same (rg_dva _ _) fun o => Go.ownOf r g1 o hq
    cases z : F1 q with
    | none => rfl
    | some o => rw [g1.rep.sub _ _ z] at hq; cases hq
  · cases e
theorem x_tupRg (h : Rg X e t f) (hm : X.mg "tuple" = none) (hc : X.calm = true := by rfl) (hg : Gl X "tuple" := by rfl) (na : starEach [e] X.env = (false, eval e X.env) :: starEach [] X.env := by rfl) : Ex X (.Call (.Name "tuple" p) [e] [] pos) (tTupRg t) (dTupRg f) := by
  refine ⟨pe_tupRg hc hg hm h.p na, fun P F H σ ρ d ρ' Q r e k => ?_⟩
  obtain ⟨x, ρ1, e1, e⟩ := Rb e
  refine h.s P F H σ ρ x ρ1 _ r e1 fun F1 H1 g1 => ?_
  split at e
  · rename_i ok
    cases e
    refine ⟨rgOk_ok ok, fun q hq => ?_⟩
    have gr : Grow F1 H1 (upd F1 q (.tup (rgV x.1 x.2))) (upd H1 q (.tup (rgV x.1 x.2))) := .new g1.rep.sub hq
    exact k _ _ _ (g1.trans (Go.grow g1.rep gr)) (.tup (.of upd_same) (dpa_mono gr.fro (rg_dva _ _)))
  · cases e
end
end L2.G

namespace L2.G
open PySem PySem.Spec PyProof.Rows

/-! ## statements -/
inductive RS where
  | nx (ρ : En)
  | bk (ρ : En)
  | ct (ρ : En)
  | ret (d : D) (ρ : En)
  | retK (kvs : List (Key × D)) (ρ : En)
  | no
@[reducible] def R.then {α : Type} (r : R α) (f : α → En → RS) : RS := match r with
  | .ok a ρ => f a ρ
  | _ => .no
def Post (K : PySem.W.Frag) (P : Pn) (F H : Hp) (σ : St) (ρ : En) (E : Ends) : RS → Prop
  | .nx ρ' => ∀ σ' F' H', Go K P F H σ ρ F' H' σ' ρ' → E.nx σ' H'
  | .bk ρ' => ∀ σ' F' H', Go K P F H σ ρ F' H' σ' ρ' → E.bk σ' H'
  | .ct ρ' => ∀ σ' F' H', Go K P F H σ ρ F' H' σ' ρ' → E.ct σ' H'
  | .ret d ρ' => ∀ v σ' F' H', Go K P F H σ ρ F' H' σ' ρ' → Dv K F' v d → E.rt v H'
  | .retK kvs ρ' => ∀ a σ' F' H', Go K P F H σ ρ F' H' σ' ρ' → DctAt K F' H' a kvs → ¬ Owned σ' ρ' a → H a = none → E.rt (.ref a) H'
  | .no => False
def SS (K : PySem.W.Frag) (t : TS) (g : En → RS) : Prop := ∀ (P : Pn) (F H : Hp) (σ : St) (ρ : En) (E : Ends), Rep K P F H σ ρ → Post K P F H σ ρ E (g ρ) → t E σ H
structure Sm (X : Cx) (st : Stmt) (t : TS) (g : En → RS) : Prop where
  p : PS X st t
  s : SS X.K t g
structure Bl (X : Cx) (st : List Stmt) (t : TS) (g : En → RS) : Prop where
  p : PSs X st t
  s : SS X.K t g
section
variable {K : PySem.W.Frag} {P : Pn} {F H F1 H1 : Hp} {σ σ1 : St} {ρ ρ1 : En} {E : Ends}
theorem Post.trans (g : Go K P F H σ ρ F1 H1 σ1 ρ1) : ∀ {r : RS}, Post K P F H σ ρ E r → Post K P F1 H1 σ1 ρ1 E r
  | .nx _, h => fun σ' F' H' k => h σ' F' H' (g.trans k)
  | .bk _, h => fun σ' F' H' k => h σ' F' H' (g.trans k)
  | .ct _, h => fun σ' F' H' k => h σ' F' H' (g.trans k)
  | .ret d _, h => fun v σ' F' H' k q => h v σ' F' H' (g.trans k) q
  | .retK d _, h => fun a σ' F' H' k q n z => h a σ' F' H' (g.trans k) q n (g.fresh a z)
  | .no, h => h
theorem Rt {α : Type} {r : R α} {f : α → En → RS} (h : Post K P F H σ ρ E (r.then f)) : ∃ a ρ1, r = .ok a ρ1 ∧ Post K P F H σ ρ E (f a ρ1) := by
  cases r with
  | ok a ρ1 => exact ⟨a, ρ1, rfl, h⟩
  | err c d => exact False.elim h
  | no => exact False.elim h
end
def dSeq (f g : En → RS) : En → RS := fun ρ => match f ρ with
  | .nx ρ' => g ρ'
  | r => r
def dSkip : En → RS := fun ρ => .nx ρ
section
variable {X : Cx} {pos : Pos}
theorem b_nil : Bl X [] tNext dSkip := ⟨pss_nil, fun P F H σ ρ E r h => h σ F H (.refl r)⟩
theorem b_one {st : Stmt} {t : TS} {g : En → RS} (h : Sm X st t g) : Bl X [st] t g := ⟨pss_one h.p, h.s⟩
theorem b_cons {st : Stmt} {rest : List Stmt} {t u : TS} {f g : En → RS} (h : Sm X st t f) (k : Bl X rest u g) : Bl X (st :: rest) (tSeq t u) (dSeq f g) := by
  refine ⟨pss_cons h.p k.p, fun P F H σ ρ E r q => ?_⟩
  refine h.s P F H σ ρ { E with nx := u E } r ?_
  unfold dSeq at q
  cases z : f ρ with
  | nx ρ1 => rw [z] at q; exact fun σ1 F1 H1 g1 => k.s P F1 H1 σ1 ρ1 E g1.rep (Post.trans g1 q)
  | bk ρ1 => rw [z] at q; exact q
  | ct ρ1 => rw [z] at q; exact q
  | ret d ρ1 => rw [z] at q; exact q
  | retK d ρ1 => rw [z] at q; exact q
  | no => rw [z] at q; exact q
theorem s_pass : Sm X (.Pass pos) tNext dSkip := ⟨ps_pass, fun P F H σ ρ E r h => h σ F H (.refl r)⟩
def dBrk : En → RS := fun ρ => .bk ρ
def dCnt : En → RS := fun ρ => .ct ρ
def dNo : En → RS := fun _ => .no
theorem s_break : Sm X (.Break pos) tBreak dBrk := ⟨ps_break, fun P F H σ ρ E r h => h σ F H (.refl r)⟩
theorem s_continue : Sm X (.Continue pos) tCont dCnt := ⟨ps_continue, fun P F H σ ρ E r h => h σ F H (.refl r)⟩
/-- what is never come to -/
theorem s_never {st : Stmt} : Sm X st tNever dNo := ⟨ps_never, fun P F H σ ρ E r h => h⟩
def dIfS (c : En → R Bool) (f g : En → RS) : En → RS := fun ρ => (c ρ).then fun b ρ' => match b with
  | true => f ρ'
  | false => g ρ'
theorem s_if {c : Expr} {a b : List Stmt} {tc : TT} {ta tb : TS} {fc : En → R Bool} {f g : En → RS} (hc : Ts X c tc fc) (ha : Bl X a ta f) (hb : Bl X b tb g) : Sm X (.If c a b pos) (tIfS tc ta tb) (dIfS fc f g) := by
  refine ⟨ps_if hc.p ha.p hb.p, fun P F H σ ρ E r q => ?_⟩
  obtain ⟨x, ρ1, e1, q⟩ := Rt q
  refine hc.s P F H σ ρ x ρ1 _ r e1 fun F1 H1 g1 => ?_
  cases x with
  | true => exact iteT (ha.s P F1 H1 σ ρ1 E g1.rep (Post.trans g1 q))
  | false => exact iteF (hb.s P F1 H1 σ ρ1 E g1.rep (Post.trans g1 q))
def dRet (f : En → R D) : En → RS := fun ρ => (f ρ).then fun d ρ' => .ret d ρ'
theorem s_ret {e : Expr} {t : TE} {f : En → R D} (h : Ex X e t f) : Sm X (.Return (some e) pos) (tRet t) (dRet f) := by
  refine ⟨ps_ret h.p, fun P F H σ ρ E r q => ?_⟩
  obtain ⟨x, ρ1, e1, q⟩ := Rt q
  exact h.s P F H σ ρ x ρ1 _ r e1 fun v F1 H1 g1 h1 => q v σ F1 H1 g1 h1
theorem s_retN : Sm X (.Return none pos) tRetN (fun ρ => .ret .none ρ) := ⟨ps_retN, fun P F H σ ρ E r q => q .non σ F H (.refl r) .non⟩
/-- an expression whose value is dropped -/
def dDrop (f : En → R D) : En → RS := fun ρ => (f ρ).then fun _ ρ' => .nx ρ'
theorem s_expr {e : Expr} {t : TE} {f : En → R D} (h : Ex X e t f) (hs : swapsWith e none pos.line X.env = pure false := by rfl) : Sm X (.Expr e pos) (tDrop t) (dDrop f) := by
  refine ⟨ps_expr h.p hs, fun P F H σ ρ E r q => ?_⟩
  obtain ⟨x, ρ1, e1, q⟩ := Rt q
  exact h.s P F H σ ρ x ρ1 _ r e1 fun v F1 H1 g1 h1 => q σ F1 H1 g1

/-! ### new dicts -/
def SK (K : PySem.W.Frag) (t : TE) (f : En → R (List (Key × D))) : Prop := ∀ (P : Pn) (F H : Hp) (σ : St) (ρ : En) (kvs : List (Key × D)) (ρ' : En) (Q : VK), Rep K P F H σ ρ → f ρ = .ok kvs ρ' →
  (∀ a F' H', Go K P F H σ ρ F' H' σ ρ' → H a = none → DctAt K F' H' a kvs → ¬ Owned σ ρ' a → Q (.ref a) H') → t σ H Q
structure Nk (X : Cx) (e : Expr) (t : TE) (f : En → R (List (Key × D))) : Prop where
  p : PE X e t
  s : SK X.K t f
theorem o_new {e : Expr} {t : TE} {f : En → R (List (Key × D))} (h : Nk X e t f) : Op X e t (fun ρ => (f ρ).bind fun kvs ρ' => .ok (.k kvs) ρ') := by
  refine ⟨h.p, fun P F H σ ρ d ρ' Q r e k => ?_⟩
  obtain ⟨x, ρ1, e1, e⟩ := Rb e
  cases e
  exact h.s P F H σ ρ x _ _ r e1 fun a F1 H1 g1 z h1 n => k _ F1 H1 g1 ⟨a, rfl, h1, n, z⟩
theorem s_retK {e : Expr} {t : TE} {f : En → R (List (Key × D))} (h : Nk X e t f) : Sm X (.Return (some e) pos) (tRet t) (fun ρ => (f ρ).then fun d ρ' => .retK d ρ') := by
  refine ⟨ps_ret h.p, fun P F H σ ρ E r q => ?_⟩
  obtain ⟨x, ρ1, e1, q⟩ := Rt q
  exact h.s P F H σ ρ x ρ1 _ r e1 fun a F1 H1 g1 z h1 n => q a σ F1 H1 g1 h1 n z

/-! ### stores to names -/
def dAsg (i : Nat) (f : En → R D) : En → RS := fun ρ => (f ρ).then fun d ρ' => if free ρ' i = true then .nx (ρ'.set i (some (.val d))) else .no
theorem s_asg {i : Nat} {x : Str} {e : Expr} {t : TE} {f : En → R D} {pos' : Pos} (hN : X.N.Nodup) (hi : X.N[i]? = some x) (hx : Loc X.env.scope x) (h : Ex X e t f) (hs : swapsWith e (some (.Name x pos')) pos.line X.env = pure false := by rfl) (hf : X.fn x = true ∨ X.env.scope.names.lookup x = some .local := by first | exact .inl rfl | exact .inr rfl | assumption) :
    Sm X (.Assign [.Name x pos'] e pos) (tAsg t (gName i)) (dAsg i f) := by
  refine ⟨ps_set hN hi hx h.p hs hf, fun P F H σ ρ E r q => ?_⟩
  obtain ⟨d, ρ1, e1, q⟩ := Rt q
  refine h.s P F H σ ρ d ρ1 _ r e1 fun v F1 H1 g1 h1 => ?_
  split at q
  · rename_i hfr
    exact q _ F1 H1 (g1.trans (Go.store g1.rep hfr (show isOwn (some (.val d)) = false from rfl) ⟨v, rfl, h1⟩))
  · exact False.elim q
theorem Go.hold {K : PySem.W.Frag} {P : Pn} {F H F1 H1 : Hp} {σ : St} {ρ ρ1 : En} {a : Addr} {i : Nat} {s : Sl} (g : Go K P F H σ ρ F1 H1 σ ρ1) (h0 : H a = none) (hf : free ρ1 i = true) (hs : ∀ k, s ≠ .arg k) (hv : SlOk K P F1 H1 i (some (.ref a)) (some s)) (hn : ¬ Owned σ ρ1 a) :
    Go K P F H σ ρ F1 H1 (σ.set i (some (.ref a))) (ρ1.set i (some s)) := by
  obtain ⟨r, o⟩ := Go.storeOwn g.rep hf hs hv hn fun _ _ => trivial
  refine ⟨r, g.fro, g.old, g.kept, fun b ob hb => ?_, g.alive⟩
  rcases o b ob with z | z
  · exact absurd h0 (z ▸ hb)
  · exact g.own b z hb
def dAsgL (i : Nat) (f : En → R (List D)) : En → RS := fun ρ => (f ρ).then fun d ρ' => if free ρ' i = true then .nx (ρ'.set i (some (.own d))) else .no
theorem s_asgL {i : Nat} {x : Str} {e : Expr} {t : TE} {f : En → R (List D)} {pos' : Pos} (hN : X.N.Nodup) (hi : X.N[i]? = some x) (hx : Loc X.env.scope x) (h : Nw X e t f) (hs : swapsWith e (some (.Name x pos')) pos.line X.env = pure false := by rfl) (hf : X.fn x = true ∨ X.env.scope.names.lookup x = some .local := by first | exact .inl rfl | exact .inr rfl | assumption) :
    Sm X (.Assign [.Name x pos'] e pos) (tAsg t (gName i)) (dAsgL i f) := by
  refine ⟨ps_set hN hi hx h.p hs hf, fun P F H σ ρ E r q => ?_⟩
  obtain ⟨d, ρ1, e1, q⟩ := Rt q
  refine h.s P F H σ ρ d ρ1 _ r e1 fun a xs F1 H1 g1 h0 hF hH hd hn => ?_
  split at q
  · rename_i hfr
    exact q _ F1 H1 (g1.hold h0 hfr (fun _ z => nomatch z) ⟨a, rfl, hF, xs, hH, hd⟩ hn)
  · exact False.elim q
def dAsgK (i : Nat) (f : En → R (List (Key × D))) : En → RS := fun ρ => (f ρ).then fun d ρ' => if free ρ' i = true then .nx (ρ'.set i (some (.dct d))) else .no
theorem s_asgK {i : Nat} {x : Str} {e : Expr} {t : TE} {f : En → R (List (Key × D))} {pos' : Pos} (hN : X.N.Nodup) (hi : X.N[i]? = some x) (hx : Loc X.env.scope x) (h : Nk X e t f) (hs : swapsWith e (some (.Name x pos')) pos.line X.env = pure false := by rfl) (hf : X.fn x = true ∨ X.env.scope.names.lookup x = some .local := by first | exact .inl rfl | exact .inr rfl | assumption) :
    Sm X (.Assign [.Name x pos'] e pos) (tAsg t (gName i)) (dAsgK i f) := by
  refine ⟨ps_set hN hi hx h.p hs hf, fun P F H σ ρ E r q => ?_⟩
  obtain ⟨d, ρ1, e1, q⟩ := Rt q
  refine h.s P F H σ ρ d ρ1 _ r e1 fun a F1 H1 g1 h0 hd hn => ?_
  split at q
  · rename_i hfr
    exact q _ F1 H1 (g1.hold h0 hfr (fun _ z => nomatch z) ⟨a, rfl, hd⟩ hn)
  · exact False.elim q

/-! ### targets -/
def SG (K : PySem.W.Frag) (g : TG) (f : D → En → R Unit) : Prop := ∀ (P : Pn) (F H : Hp) (σ : St) (ρ : En) (v : V) (d : D) (ρ' : En) (Q : St → Hp → Prop), Rep K P F H σ ρ → Dv K F v d → f d ρ = .ok () ρ' →
  (∀ σ' F' H', Go K P F H σ ρ F' H' σ' ρ' → Q σ' H') → g v σ H Q
structure Tg (X : Cx) (e : Expr) (g : TG) (f : D → En → R Unit) : Prop where
  p : PG X e g
  s : SG X.K g f
def SGs (K : PySem.W.Frag) (g : TGs) (f : List D → En → R Unit) : Prop := ∀ (P : Pn) (F H : Hp) (σ : St) (ρ : En) (vs : List V) (ds : List D) (ρ' : En) (Q : St → Hp → Prop), Rep K P F H σ ρ → DvA K F vs ds → f ds ρ = .ok () ρ' →
  (∀ σ' F' H', Go K P F H σ ρ F' H' σ' ρ' → Q σ' H') → g vs σ H Q
structure Tgs (X : Cx) (es : List Expr) (g : TGs) (f : List D → En → R Unit) : Prop where
  p : PGs X es g
  s : SGs X.K g f
def tgN (i : Nat) : D → En → R Unit := fun d ρ => if free ρ i = true then .ok () (ρ.set i (some (.val d))) else .no
theorem g_name {i : Nat} {x : Str} (hN : X.N.Nodup) (hi : X.N[i]? = some x) (hx : Loc X.env.scope x) (hf : X.fn x = true ∨ X.env.scope.names.lookup x = some .local := by first | exact .inl rfl | exact .inr rfl | assumption) : Tg X (.Name x pos) (gName i) (tgN i) := by
  refine ⟨pg_name hN hi hx hf, fun P F H σ ρ v d ρ' Q r h e k => ?_⟩
  unfold tgN at e
  split at e
  · rename_i hfr
    cases e
    exact k _ F H (Go.store r hfr (show isOwn (some (.val d)) = false from rfl) ⟨v, rfl, h⟩)
  · cases e
def tgNil : List D → En → R Unit := fun ds ρ => match ds with
  | [] => .ok () ρ
  | _ => .no
def tgCons (f : D → En → R Unit) (g : List D → En → R Unit) : List D → En → R Unit := fun ds ρ => match ds with
  | [] => .no
  | d :: r => (f d ρ).bind fun _ ρ' => g r ρ'
theorem gs_nil : Tgs X [] gNil tgNil := by
  refine ⟨pgs_nil, fun P F H σ ρ vs ds ρ' Q r h e k => ?_⟩
  cases h with
  | nil => cases e; exact ⟨rfl, k σ F H (.refl r)⟩
  | cons _ _ => cases e
theorem gs_cons {e : Expr} {es : List Expr} {t : TG} {u : TGs} {f : D → En → R Unit} {g : List D → En → R Unit} (h : Tg X e t f) (q : Tgs X es u g) (hs : (assignEach (e :: es) X.env).map (·.2) = assign e X.env :: (assignEach es X.env).map (·.2) := by rfl) : Tgs X (e :: es) (gCons t u) (tgCons f g) := by
  refine ⟨pgs_cons h.p q.p hs, fun P F H σ ρ vs ds ρ' Q r hd e k => ?_⟩
  cases hd with
  | nil => cases e
  | cons h1 t1 =>
    obtain ⟨x, ρ1, e1, e⟩ := Rb e
    refine ⟨_, _, rfl, h.s P F H σ ρ _ _ ρ1 _ r h1 e1 fun σ1 F1 H1 g1 => ?_⟩
    exact q.s P F1 H1 σ1 ρ1 _ _ ρ' Q g1.rep (dpa_mono g1.fro t1) e fun σ2 F2 H2 g2 => k σ2 F2 H2 (g1.trans g2)
def tgT (n : Nat) (f : List D → En → R Unit) : D → En → R Unit := fun d ρ => match d with
  | .tuple ds => if ds.length = n then f ds ρ else .no
  | _ => .no
theorem g_tup {es : List Expr} {k : Nat} {t : TGs} {f : List D → En → R Unit} {n : Nat} (h : Tgs X es t f) (hp : PGs X es t → PG X (.Tuple es k pos) (gTup X.K n t)) : Tg X (.Tuple es k pos) (gTup X.K n t) (tgT n f) := by
  refine ⟨hp h.p, fun P F H σ ρ v d ρ' Q r hd e k => ?_⟩
  unfold tgT at e
  split at e
  · split at e
    · rename_i hl
      cases hd with
      | tup h1 t1 => exact ⟨_, _, rfl, same_tup r.sub h1, by rw [dpa_len t1]; exact hl, h.s P F H σ ρ _ _ ρ' Q r t1 e k⟩
    · cases e
  · cases e
end
/-! ### what one owns is changed -/
theorem Go.chg {K : PySem.W.Frag} {P : Pn} {F H : Hp} {σ : St} {ρ : En} {i : Nat} {a : Addr} {o : HO} {s : Sl} (r : Rep K P F H σ ρ) (ow : OwnAt σ ρ i a) (hs : isOwn (some s) = true) (hp : ∀ b, P i = some b → ∃ k, s = .arg k) (hv : SlOk K P F (upd H a o) i (some (.ref a)) (some s)) :
    Go K P F H σ ρ F (upd H a o) σ (ρ.set i (some s)) := by
  have hi : i < ρ.length := by
    have h := ow.2
    cases z : slD ρ i with
    | none => rw [z] at h; cases h
    | some q => exact slD_lt z
  have ne : ∀ j b, OwnAt σ ρ j b → j ≠ i → b ≠ a := fun j b h z e => z (r.inj j i b h (by rw [e]; exact ow))
  have ow' : ∀ j b, OwnAt σ (ρ.set i (some s)) j b ↔ OwnAt σ ρ j b := fun j b => by
    unfold OwnAt
    rw [slD_set i j _ hi]
    by_cases z : j = i
    · subst z
      rw [if_pos rfl, hs]
      exact ⟨fun h => ⟨h.1, ow.2⟩, fun h => ⟨h.1, rfl⟩⟩
    · rw [if_neg z]
  have Fa : F a = none := (r.own_some ow).2
  refine ⟨⟨fun b u e => ?_, by rw [List.length_set]; exact r.len, fun j => ?_, fun j k b h1 h2 => r.inj j k b ((ow' j b).mp h1) ((ow' k b).mp h2), fun j b e => ?_⟩, Same.refl F, fun _ _ _ => rfl, fun b u e n => ?_, fun b ⟨j, h⟩ _ => ⟨j, (ow' j b).mp h⟩, fun b h => ?_⟩
  · rw [upd_ne (ne_of_none e Fa)]; exact r.sub b u e
  · rw [slD_set i j _ hi]
    by_cases z : j = i
    · subst z; rw [if_pos rfl, ow.1]; exact hv
    · rw [if_neg z]
      have q := r.at_ j
      cases es : slD ρ j with
      | none => trivial
      | some u =>
        rw [es] at q
        cases u with
        | val d => exact q
        | scr ns => exact q
        | own ds => obtain ⟨b, e, f, xs, h, t⟩ := q; exact ⟨b, e, f, xs, by rw [upd_ne (ne j b ⟨e, by rw [es]; rfl⟩ z)]; exact h, t⟩
        | dct ds => obtain ⟨b, e, f, xs, h, t⟩ := q; exact ⟨b, e, f, xs, by rw [upd_ne (ne j b ⟨e, by rw [es]; rfl⟩ z)]; exact h, t⟩
        | arg ds => obtain ⟨b, e, p, f, xs, h, t⟩ := q; exact ⟨b, e, p, f, xs, by rw [upd_ne (ne j b ⟨e, by rw [es]; rfl⟩ z)]; exact h, t⟩
  · rw [slD_set i j _ hi]
    by_cases z : j = i
    · subst z
      obtain ⟨k, q⟩ := hp b e
      exact ⟨k, by rw [if_pos rfl, q]⟩
    · rw [if_neg z]; exact r.pin j b e
  · have z : b ≠ a := fun z => n ⟨i, z ▸ ow⟩
    rw [upd_ne z]; exact e
  · by_cases z : b = a
    · subst z; rw [upd_same]; exact fun z => nomatch z
    · rw [upd_ne z]; exact h
section
variable {X : Cx} {pos : Pos} {K : PySem.W.Frag} {P : Pn} {F H : Hp} {σ : St} {ρ : En} {i : Nat}
theorem own_of (r : Rep K P F H σ ρ) {ds : List D} (e : slD ρ i = some (.own ds)) : ∃ a xs, slV σ i = some (.ref a) ∧ OwnAt σ ρ i a ∧ F a = none ∧ H a = some (.lst xs) ∧ DvA K F xs ds := by
  have q := r.at_ i
  rw [e] at q
  obtain ⟨a, e1, f, xs, h, t⟩ := q
  exact ⟨a, xs, e1, ⟨e1, by rw [e]; rfl⟩, f, h, t⟩
theorem own_nopin (r : Rep K P F H σ ρ) {ds : List D} (e : slD ρ i = some (.own ds)) {b : Addr} {Y : Prop} (h : P i = some b) : Y := by
  obtain ⟨k, q⟩ := r.pin i b h
  rw [e] at q; cases q
theorem Go.relist (r : Rep K P F H σ ρ) {ds es : List D} {ys : List V} {a : Addr} (e : slD ρ i = some (.own ds)) (o : OwnAt σ ρ i a) (hf : F a = none) (h : DvA K F ys es) : Go K P F H σ ρ F (upd H a (.lst ys)) σ (ρ.set i (some (.own es))) :=
  Go.chg r o rfl (fun _ q => own_nopin r e q) ⟨a, rfl, hf, ys, upd_same, h⟩
/-- a slot's variable, read without a look -/
theorem tvar_some {v : V} {Q : VK} (h : slV σ i = some v) (q : Q v H) : tVar i σ H Q := by
  refine ⟨v, ?_, q⟩
  unfold slV at h
  cases w : σ[i]? with
  | none => rw [w] at h; cases h
  | some y => rw [w] at h; exact congrArg some h
/-! ### lists of one's own: methods, stores -/
def dApp (i : Nat) (f : En → R D) : En → RS := fun ρ => match slD ρ i with
  | some (.own _) => (f ρ).then fun d ρ' => match slD ρ' i with
    | some (.own ds) => if ds.length < sizeLine then .nx (ρ'.set i (some (.own (ds ++ [d])))) else .no
    | _ => .no
  | _ => .no
theorem s_append {i : Nat} {x : Str} {e : Expr} {t : TE} {f : En → R D} {p1 p2 p3 : Pos} (h : Ex X e t f) (hr : PE X (.Name x p1) (tVar i))
    (hp : ∀ {ta : TE} {tb : TA}, PE X (.Name x p1) ta → PA X [e] tb → PE X (.Call (.Attribute (.Name x p1) "append" p2) [e] [] p3) (tBM X.K "list" rAppend ta tb)) (hs1 : starEach [e] X.env = (false, eval e X.env) :: starEach [] X.env := by rfl)
    (hs : swapsWith (.Call (.Attribute (.Name x p1) "append" p2) [e] [] p3) none pos.line X.env = pure false := by rfl) :
    Sm X (.Expr (.Call (.Attribute (.Name x p1) "append" p2) [e] [] p3) pos) (tDrop (tBM X.K "list" rAppend (tVar i) (tCons t tNil))) (dApp i f) := by
  refine ⟨ps_expr (hp hr (pa_cons h.p pa_nil hs1)) hs, fun P F H σ ρ E r q => ?_⟩
  unfold dApp at q
  split at q
  · rename_i ds0 e0
    obtain ⟨a, xs, e1, o1, f1, h1, t1⟩ := own_of r e0
    refine tvar_some (Q := fun x H1 => tyV X.K "list" x H1 ∧ tCons t tNil σ H1 fun xs H2 => rAppend x xs H2 fun _ H1 => E.nx σ H1) e1 ⟨.inl ⟨rfl, xs, .of h1⟩, ?_⟩
    obtain ⟨d, ρ1, e2, q⟩ := Rt q
    refine h.s P F H σ ρ d ρ1 _ r e2 fun v F1 H1 g1 hv => ?_
    split at q
    · rename_i ds e3
      split at q
      · rename_i hl
        obtain ⟨b, ys, e4, o4, f4, h4, t4⟩ := own_of g1.rep e3
        rw [e1] at e4; cases e4
        refine ⟨a, ys, v, rfl, rfl, h4, by rw [dpa_len t4]; exact hl, ?_⟩
        exact q _ F1 _ (g1.trans (Go.relist g1.rep e3 o4 f4 (dpa_app t4 (.cons hv .nil))))
      · exact False.elim q
    · exact False.elim q
  · exact False.elim q
end
end L2.G

namespace L2.G
open PySem PySem.Spec PyProof.Rows

section
variable {X : Cx} {pos : Pos} {K : PySem.W.Frag} {P : Pn} {F H : Hp} {σ : St} {ρ : En} {i : Nat}
/-! ### x[e] = v, into a list of one's own -/
theorem dva_setI {xs : List V} {ds : List D} {v : V} {d : D} {j : Nat} (t : DvA K F xs ds) (h : Dv K F v d) : DvA K F (xs.set j v) (ds.set j d) := dpa_set h j t
def tgSub (i : Nat) (f : En → R D) : D → En → R Unit := fun d ρ => match slD ρ i with
  | some (.own _) => (f ρ).bind fun e ρ' => match e, slD ρ' i with
    | .int k, some (.own ds) => match ixN ds.length k with
      | some j => .ok () (ρ'.set i (some (.own (ds.set j d))))
      | none => .no
    | _, _ => .no
  | _ => .no
theorem g_sub {x : Str} {e : Expr} {t : TE} {f : En → R D} {p1 : Pos} (h : Ex X e t f) (hr : PE X (.Name x p1) (tVar i)) (hp : ∀ {to : TE}, PE X (.Name x p1) to → PE X e t → PG X (.Subscript (.Name x p1) e pos) (gSub to t rSetL)) :
    Tg X (.Subscript (.Name x p1) e pos) (gSub (tVar i) t rSetL) (tgSub i f) := by
  refine ⟨hp hr h.p, fun P F H σ ρ v d ρ' Q r hd e k => ?_⟩
  unfold tgSub at e
  split at e
  · rename_i ds0 e0
    obtain ⟨a, xs, e1, o1, f1, h1, t1⟩ := own_of r e0
    obtain ⟨z, ρ1, e2, e⟩ := Rb e
    refine tvar_some (Q := fun o H1 => t σ H1 fun i H2 => rSetL o i v H2 fun H3 => Q σ H3) e1 ?_
    refine h.s P F H σ ρ z ρ1 _ r e2 fun w F1 H1 g1 hw => ?_
    split at e
    · rename_i m ds e3
      split at e
      · rename_i j ej
        cases e
        cases hw
        obtain ⟨b, ys, e4, o4, f4, h4, t4⟩ := own_of g1.rep e3
        rw [e1] at e4; cases e4
        refine ⟨a, ys, m, j, rfl, rfl, h4, by rw [dpa_len t4]; exact ej, ?_⟩
        exact k σ F1 _ (g1.trans (Go.relist g1.rep e3 o4 f4 (dva_setI t4 (dp_mono (show Same F F1 from g1.fro) hd))))
      · cases e
    · cases e
  · cases e
/-! ### dicts with written text keys: read, stored -/
def kvG (kvs : List (Key × D)) (k : Key) : Option D := (kvs.find? fun kv => decide (kv.1 = k)).map (·.2)
def kvP (kvs : List (Key × D)) (k : Key) (v : D) : List (Key × D) := if (kvs.any fun kv => decide (kv.1 = k)) = true then kvs.map (fun kv => if kv.1 = k then (kv.1, v) else kv) else kvs ++ [(k, v)]
theorem kvd_len {ks : List (Key × V)} {kvs : List (Key × D)} (h : KvD K F ks kvs) : ks.length = kvs.length := Paired.length h
theorem kvd_get {k : Key} {d : D} : ∀ {ks : List (Key × V)} {kvs : List (Key × D)}, KvD K F ks kvs → kvG kvs k = some d → ∃ v, valV ks k = some v ∧ Dv K F v d
  | _, _, .nil, e => by cases e
  | p :: ks, q :: kvs, .cons ⟨h1, h2⟩ t, e => by
    by_cases z : q.1 = k
    · have e2 : kvG (q :: kvs) k = some q.2 := by simp [kvG, List.find?_cons, z]
      rw [e2] at e; cases e
      exact ⟨p.2, valV_pos (h1.trans z), h2⟩
    · have e2 : kvG (q :: kvs) k = kvG kvs k := by simp [kvG, List.find?_cons, z]
      rw [e2] at e
      obtain ⟨v, e3, h3⟩ := kvd_get t e
      exact ⟨v, by rw [valV_neg (fun w => z (h1.symm.trans w))]; exact e3, h3⟩
theorem kvd_any {k : Key} : ∀ {ks : List (Key × V)} {kvs : List (Key × D)}, KvD K F ks kvs → (ks.any fun kv => decide (kv.1 = k)) = (kvs.any fun kv => decide (kv.1 = k))
  | _, _, .nil => rfl
  | p :: ks, q :: kvs, .cons ⟨h1, h2⟩ t => by rw [List.any_cons, List.any_cons, kvd_any t, h1]
theorem kvd_map {k : Key} {v : V} {d : D} (h : Dv K F v d) : ∀ {ks : List (Key × V)} {kvs : List (Key × D)}, KvD K F ks kvs → KvD K F (ks.map fun kv => if kv.1 = k then (kv.1, v) else kv) (kvs.map fun kv => if kv.1 = k then (kv.1, d) else kv)
  | _, _, .nil => .nil
  | p :: ks, q :: kvs, .cons ⟨h1, h2⟩ t => by
    refine .cons ?_ (kvd_map h t)
    show (if p.1 = k then (p.1, v) else p).1 = (if q.1 = k then (q.1, d) else q).1 ∧ Dv K F (if p.1 = k then (p.1, v) else p).2 (if q.1 = k then (q.1, d) else q).2
    by_cases z : q.1 = k
    · rw [if_pos z, if_pos (h1.trans z)]; exact ⟨h1, h⟩
    · rw [if_neg z, if_neg (fun w => z (h1.symm.trans w))]; exact ⟨h1, h2⟩
theorem kvd_app : ∀ {ks ls : List (Key × V)} {kvs lvs : List (Key × D)}, KvD K F ks kvs → KvD K F ls lvs → KvD K F (ks ++ ls) (kvs ++ lvs)
  | _, _, _, _, .nil, q => q
  | _, _, _, _, .cons h t, q => .cons h (kvd_app t q)
theorem kvd_put {k : Key} {v : V} {d : D} (h : Dv K F v d) {ks : List (Key × V)} {kvs : List (Key × D)} (t : KvD K F ks kvs) : KvD K F (putK ks k v) (kvP kvs k d) := by
  unfold putK kvP
  rw [kvd_any t]
  split
  · exact kvd_map h t
  · exact kvd_app t (.cons ⟨rfl, h⟩ .nil)
/-- the dict in a slot -/
def dctOf (ρ : En) (i : Nat) : Option (List (Key × D)) := match slD ρ i with
  | some (.dct kvs) => some kvs
  | some (.arg kvs) => some kvs
  | _ => none
def dctTo (ρ : En) (i : Nat) (kvs : List (Key × D)) : En := match slD ρ i with
  | some (.arg _) => ρ.set i (some (.arg kvs))
  | _ => ρ.set i (some (.dct kvs))
theorem dct_of (r : Rep K P F H σ ρ) {kvs : List (Key × D)} (e : dctOf ρ i = some kvs) : ∃ a, slV σ i = some (.ref a) ∧ OwnAt σ ρ i a ∧ DctAt K F H a kvs := by
  unfold dctOf at e
  have q := r.at_ i
  split at e
  · rename_i ks z
    cases e
    rw [z] at q
    obtain ⟨a, e1, h⟩ := q
    exact ⟨a, e1, ⟨e1, by rw [z]; rfl⟩, h⟩
  · rename_i ks z
    cases e
    rw [z] at q
    obtain ⟨a, e1, _, h⟩ := q
    exact ⟨a, e1, ⟨e1, by rw [z]; rfl⟩, h⟩
  · cases e
theorem Go.redct (r : Rep K P F H σ ρ) {kvs lvs : List (Key × D)} {ls : List (Key × V)} {a : Addr} (e : dctOf ρ i = some kvs) (o : OwnAt σ ρ i a) (hf : F a = none) (h : KvD K F ls lvs) : Go K P F H σ ρ F (upd H a (.dK ls)) σ (dctTo ρ i lvs) := by
  unfold dctOf at e
  have q := r.at_ i
  split at e
  · rename_i ks z
    rw [show dctTo ρ i lvs = ρ.set i (some (.dct lvs)) by unfold dctTo; rw [z]]
    refine Go.chg r o rfl (fun b w => ?_) (show SlOk K P F (upd H a (.dK ls)) i (some (.ref a)) (some (.dct lvs)) from ⟨a, rfl, hf, ls, upd_same, h⟩)
    obtain ⟨k, q2⟩ := r.pin i b w
    rw [z] at q2; cases q2
  · rename_i ks z
    rw [z] at q
    rw [show dctTo ρ i lvs = ρ.set i (some (.arg lvs)) by unfold dctTo; rw [z]]
    obtain ⟨b, e1, p, _⟩ := q
    have ea := o.1
    rw [e1] at ea; cases ea
    exact Go.chg r o rfl (fun c w => ⟨lvs, rfl⟩) (show SlOk K P F (upd H a (.dK ls)) i (some (.ref a)) (some (.arg lvs)) from ⟨a, rfl, p, hf, ls, upd_same, h⟩)
  · cases e
def dGet (i : Nat) (k : Str) : En → R D := fun ρ => match dctOf ρ i with
  | some kvs => match kvG kvs (Sum.inr k) with
    | some d => .ok d ρ
    | none => .no
  | none => .no
theorem x_get {x k : Str} {p1 p2 : Pos} {j : Nat} (hr : PE X (.Name x p1) (tVar i)) (hu : X.A.units + 1 < cLine) (hs : NoSl (.Constant (.str k) j p2) := by exact fun _ _ => rfl) : Ex X (.Subscript (.Name x p1) (.Constant (.str k) j p2) pos) (tDGet (tVar i) (tC (.str k))) (dGet i k) := by
  refine ⟨pe_dget hu hr pe_str hs, fun P F H σ ρ d ρ' Q r e kk => ?_⟩
  unfold dGet at e
  split at e
  · rename_i kvs e0
    split at e
    · rename_i d' e1
      cases e
      obtain ⟨a, e2, o, f, ks, h, t⟩ := dct_of r e0
      obtain ⟨v, e3, h3⟩ := kvd_get t e1
      refine tvar_some (Q := fun x H1 => tC (.str k) σ H1 fun y H2 => ∃ a v, x = .ref a ∧ DGet H2 a y (some v) ∧ Q v H2) e2 ⟨a, v, rfl, ?_, kk v F H (.refl r) h3⟩
      have q := DGet.k (k := Sum.inr k) h
      rw [e3] at q
      exact q
    · cases e
  · cases e
/-- a dict's place as a target -/
def tgGet (i : Nat) (k : Str) : D → En → R Unit := fun d ρ => match dctOf ρ i with
  | some kvs => if kvs.length < sizeLine then .ok () (dctTo ρ i (kvP kvs (Sum.inr k) d)) else .no
  | none => .no
theorem sg_get (k : Str) : SG K (gSub (tVar i) (tC (.str k)) rSetD) (tgGet i k) := by
  intro P F H σ ρ v d ρ' Q r hd e kk
  unfold tgGet at e
  split at e
  · rename_i kvs e0
    split at e
    · rename_i hl
      cases e
      obtain ⟨a, e2, o, f, ks, h, t⟩ := dct_of r e0
      refine tvar_some (Q := fun o H1 => tC (.str k) σ H1 fun i H2 => rSetD o i v H2 fun H3 => Q σ H3) e2 ⟨a, _, rfl, DPut.k (k := Sum.inr k) h (by rw [kvd_len t]; exact hl), ?_⟩
      exact kk σ F _ (Go.redct r e0 o f (kvd_put hd t))
    · cases e
  · cases e
theorem g_get {x k : Str} {p1 p2 : Pos} {j : Nat} (hr : PE X (.Name x p1) (tVar i)) (hu : X.A.units + 1 < cLine) (hp : ∀ {to ti : TE}, PE X (.Name x p1) to → PE X (.Constant (.str k) j p2) ti → PG X (.Subscript (.Name x p1) (.Constant (.str k) j p2) pos) (gSub to ti rSetD)) :
    Tg X (.Subscript (.Name x p1) (.Constant (.str k) j p2) pos) (gSub (tVar i) (tC (.str k)) rSetD) (tgGet i k) := ⟨hp hr pe_str, sg_get k⟩
/-! ### target = e, any target -/
def dAsgT (f : En → R D) (g : D → En → R Unit) : En → RS := fun ρ => (f ρ).then fun d ρ1 => (g d ρ1).then fun _ ρ2 => .nx ρ2
theorem s_asgT {tg e : Expr} {t : TE} {g : TG} {f : En → R D} {fg : D → En → R Unit} (h : Ex X e t f) (k : Tg X tg g fg) (hs : swapsWithSole [tg] e pos.line X.env = pure false := by rfl) (hw : swappedStores [tg] e X.env = pure none := by rfl) (h1 : (assignEach [tg] X.env).map (·.2) = [assign tg X.env] := by rfl) : Sm X (.Assign [tg] e pos) (tAsg t g) (dAsgT f fg) := by
  refine ⟨ps_asg h.p k.p hs hw h1, fun P F H σ ρ E r q => ?_⟩
  obtain ⟨d, ρ1, e1, q⟩ := Rt q
  obtain ⟨⟨⟩, ρ2, e2, q⟩ := Rt q
  refine h.s P F H σ ρ d ρ1 _ r e1 fun v F1 H1 g1 h1 => ?_
  exact k.s P F1 H1 σ ρ1 v d ρ2 _ g1.rep h1 e2 fun σ2 F2 H2 g2 => q σ2 F2 H2 (g1.trans g2)
/-- a, b = x, y: two local names -/
def dPar (i j : Nat) (f : En → R (List AV)) : En → RS := fun ρ => (f ρ).then fun as ρ' => match as with
  | [.d d, .d e] => if free ρ' i = true ∧ free ρ' j = true ∧ i ≠ j then .nx ((ρ'.set i (some (.val d))).set j (some (.val e))) else .no
  | _ => .no
theorem s_par {i j : Nat} {st : Stmt} {ta : TA} {f : En → R (List AV)} (hp : ∀ {t : TA}, PA X es t → PS X st (tPar i j t)) {es' : List Expr} (hes : es' = es) (h : As X es' ta f) : Sm X st (tPar i j ta) (dPar i j f) := by
  subst hes
  refine ⟨hp h.p, fun P F H σ ρ E r q => ?_⟩
  obtain ⟨as, ρ1, e1, q⟩ := Rt q
  refine h.s P F H σ ρ as ρ1 _ r e1 fun vs F1 H1 g1 h1 => ?_
  split at q
  · rename_i d e
    split at q
    · rename_i hc
      cases h1 with
      | cons a1 t =>
        cases t with
        | cons a2 t =>
          cases t
          have a1 : Dv X.K F1 _ d := a1
          have a2 : Dv X.K F1 _ e := a2
          refine ⟨_, _, rfl, q _ F1 H1 ?_⟩
          have g2 := Go.store (v := some _) (s := some (.val d)) g1.rep hc.1 rfl ⟨_, rfl, a1⟩
          have hfj : free (ρ1.set i (some (.val d))) j = true := by
            have hj := hc.2.1
            unfold free at hj ⊢
            rw [Bool.and_eq_true] at hj ⊢
            have hi := (g1.rep.nopin hc.1).1
            refine ⟨by rw [List.length_set]; exact hj.1, ?_⟩
            rw [slD_set i j _ hi, if_neg (fun z => hc.2.2 z.symm)]
            exact hj.2
          exact (g1.trans g2).trans (Go.store (v := some _) (s := some (.val e)) g2.rep hfj rfl ⟨_, rfl, a2⟩)
    · exact False.elim q
  · exact False.elim q
/-! ### a list of one's own becomes a datum -/
def dUse (i : Nat) : En → R D := fun ρ => match slD ρ i with
  | some (.own ds) => .ok (.list ds) (ρ.set i (some (.val (.list ds))))
  | _ => .no
theorem x_use {x : Str} {p : Pos} (hr : PE X (.Name x p) (tVar i)) : Ex X (.Name x p) (tVar i) (dUse i) := by
  refine ⟨hr, fun P F H σ ρ d ρ' Q r e k => ?_⟩
  unfold dUse at e
  split at e
  · rename_i ds e0
    cases e
    obtain ⟨a, xs, e1, o1, f1, h1, t1⟩ := own_of r e0
    refine tvar_some e1 ?_
    have s1 : Same F (upd F a (.lst xs)) := fun b u e => by rw [upd_ne (ne_of_none e f1)]; exact e
    have hd : Dv X.K (upd F a (.lst xs)) (.ref a) (.list ds) := .lst upd_same (dpa_mono s1 t1)
    refine k (.ref a) (upd F a (.lst xs)) H ?_ hd
    have hi : i < ρ.length := slD_lt e0
    have ow : ∀ j b, OwnAt σ (ρ.set i (some (.val (.list ds)))) j b → j ≠ i ∧ OwnAt σ ρ j b := fun j b ⟨h2, h3⟩ => by
      rw [slD_set i j _ hi] at h3
      by_cases z : j = i
      · rw [if_pos z] at h3; cases h3
      · rw [if_neg z] at h3; exact ⟨z, h2, h3⟩
    have ne : ∀ j b, OwnAt σ ρ j b → j ≠ i → b ≠ a := fun j b h z e => z (r.inj j i b h (by rw [e]; exact o1))
    refine ⟨⟨fun b u e => ?_, by rw [List.length_set]; exact r.len, fun j => ?_, fun j l b h2 h3 => r.inj j l b (ow j b h2).2 (ow l b h3).2, fun j b e => ?_⟩, s1, fun b hb nb => ?_, fun b u e _ => e, fun b ⟨j, h⟩ _ => ⟨j, (ow j b h).2⟩, fun _ h => h⟩
    · by_cases z : b = a
      · subst z; rw [upd_same] at e; cases e; exact h1
      · rw [upd_ne z] at e; exact r.sub b u e
    · rw [slD_set i j _ hi]
      by_cases z : j = i
      · subst z; rw [if_pos rfl, e1]; exact ⟨_, rfl, hd⟩
      · rw [if_neg z]
        have q := r.at_ j
        cases es : slD ρ j with
        | none => trivial
        | some u =>
          rw [es] at q
          cases u with
          | val d => obtain ⟨x, e, h⟩ := q; exact ⟨x, e, dp_mono s1 h⟩
          | scr ns => obtain ⟨b, e, h⟩ := q; exact ⟨b, e, Same.seq s1 h⟩
          | own ds => obtain ⟨b, e, f, xs, h, t⟩ := q; exact ⟨b, e, by rw [upd_ne (ne j b ⟨e, by rw [es]; rfl⟩ z)]; exact f, xs, h, dpa_mono s1 t⟩
          | dct ds => obtain ⟨b, e, f, xs, h, t⟩ := q; exact ⟨b, e, by rw [upd_ne (ne j b ⟨e, by rw [es]; rfl⟩ z)]; exact f, xs, h, kvd_mono s1 t⟩
          | arg ds => obtain ⟨b, e, p, f, xs, h, t⟩ := q; exact ⟨b, e, p, by rw [upd_ne (ne j b ⟨e, by rw [es]; rfl⟩ z)]; exact f, xs, h, kvd_mono s1 t⟩
    · rw [slD_set i j _ hi]
      by_cases z : j = i
      · subst z
        obtain ⟨k, q⟩ := r.pin j b e
        rw [e0] at q; cases q
      · rw [if_neg z]; exact r.pin j b e
    · have z : b ≠ a := fun z => nb ⟨i, z ▸ o1⟩
      rw [upd_ne z]
  · cases e
/-! ### what is walked -/
/-- J walks the data ds, new things laid at each turn at most -/
def Wk (K : PySem.W.Frag) (F : Hp) (J : It) (ds : List D) : Prop := ∃ (G : Hp → Prop) (Y : Nat → Hp → V → Hp → Prop), Walk J ds.length G Y ∧ (∀ H, Same F H → G H) ∧
  ∀ (i : Nat) (d : D) (F1 H : Hp) (x : V) (H' : Hp), ds[i]? = some d → Same F F1 → Same F1 H → Y i H x H' → ∃ F2, Grow F1 H F2 H' ∧ Dv K F2 x d
def SI (K : PySem.W.Frag) (wi : TI) (f : En → R (List D)) : Prop := ∀ (P : Pn) (F H : Hp) (σ : St) (ρ : En) (ds : List D) (ρ' : En) (Q : It → Hp → Prop), Rep K P F H σ ρ → f ρ = .ok ds ρ' →
  (∀ J F' H', Go K P F H σ ρ F' H' σ ρ' → Wk K F' J ds → Q J H') → wi σ H Q
structure Wd (X : Cx) (tg e : Expr) (wi : TI) (f : En → R (List D)) : Prop where
  p : PI X tg e wi
  s : SI X.K wi f
theorem wk_list {F : Hp} {a : Addr} {xs : List V} {ds : List D} (h : F a = some (.lst xs)) (t : DvA K F xs ds) : Wk K F (Itl K a) ds := by
  refine ⟨_, _, by rw [← dpa_len t]; exact walk_list, fun H s => SqL.of (s _ _ h), fun i d F1 H x H' e s1 s2 y => ?_⟩
  obtain ⟨rfl, y⟩ := y
  obtain ⟨v, e1, hv⟩ := dpa_get' t e
  rw [y] at e1; cases e1
  exact ⟨F1, .refl s2, dp_mono s1 hv⟩
theorem wk_tup {F : Hp} {a : Addr} {xs : List V} {ds : List D} (h : SqT K F a xs) (t : DvA K F xs ds) : Wk K F (Itt K a) ds := by
  refine ⟨_, _, by rw [← dpa_len t]; exact walk_tup, fun H s => same_tup s h, fun i d F1 H x H' e s1 s2 y => ?_⟩
  obtain ⟨rfl, y⟩ := y
  obtain ⟨v, e1, hv⟩ := dpa_get' t e
  rw [y] at e1; cases e1
  exact ⟨F1, .refl s2, dp_mono s1 hv⟩
variable {tg e : Expr} {t : TE} {f : En → R D}
def dItL (f : En → R D) : En → R (List D) := fun ρ => (f ρ).bind fun d ρ' => match d with
  | .list ds => .ok ds ρ'
  | _ => .no
def dItT (f : En → R D) : En → R (List D) := fun ρ => (f ρ).bind fun d ρ' => match d with
  | .tuple ds => .ok ds ρ'
  | _ => .no
theorem i_list (h : Ex X e t f) : Wd X tg e (iList X.K t) (dItL f) := by
  refine ⟨pi_list h.p, fun P F H σ ρ ds ρ' Q r e k => ?_⟩
  obtain ⟨d, ρ1, e1, e⟩ := Rb e
  refine h.s P F H σ ρ d ρ1 _ r e1 fun v F1 H1 g1 h1 => ?_
  split at e
  · cases e
    cases h1 with
    | lst h2 t2 => exact ⟨_, rfl, ⟨_, SqL.of (g1.rep.sub _ _ h2)⟩, k _ F1 H1 g1 (wk_list h2 t2)⟩
  · cases e
theorem i_tup (h : Ex X e t f) : Wd X tg e (iTup X.K t) (dItT f) := by
  refine ⟨pi_tup h.p, fun P F H σ ρ ds ρ' Q r e k => ?_⟩
  obtain ⟨d, ρ1, e1, e⟩ := Rb e
  refine h.s P F H σ ρ d ρ1 _ r e1 fun v F1 H1 g1 h1 => ?_
  split at e
  · cases e
    cases h1 with
    | tup h2 t2 => exact ⟨_, rfl, ⟨_, same_tup g1.rep.sub h2⟩, k _ F1 H1 g1 (wk_tup h2 t2)⟩
  · cases e
/-- the law's script -/
def dItS (i : Nat) : En → R (List D) := fun ρ => match slD ρ i with
  | some (.scr ns) => .ok (ns.map .int) ρ
  | _ => .no
theorem i_scr {x : Str} {p : Pos} (hr : PE X (.Name x p) (tVar i)) : Wd X tg (.Name x p) (iList X.K (tVar i)) (dItS i) := by
  refine ⟨pi_list hr, fun P F H σ ρ ds ρ' Q r e k => ?_⟩
  unfold dItS at e
  split at e
  · rename_i ns e0
    cases e
    have q := r.at_ i
    rw [e0] at q
    obtain ⟨a, e1, h1⟩ := q
    refine tvar_some (Q := fun x H1 => ∃ a, x = .ref a ∧ (∃ xs, SqL X.K H1 a xs) ∧ Q (Itl X.K a) H1) e1 ⟨a, rfl, ⟨_, Same.seq r.sub h1⟩, k _ F H (.refl r) ?_⟩
    refine ⟨_, _, by rw [List.length_map, ← List.length_map (f := V.int)]; exact walk_list, fun H s => Same.seq s h1, fun i d F1 H x H' e s1 s2 y => ?_⟩
    obtain ⟨rfl, y⟩ := y
    obtain ⟨v, e1, hv⟩ := dpa_get' (dva_ints (K := X.K) (F := F) ns) e
    rw [y] at e1; cases e1
    exact ⟨F1, .refl s2, dp_mono s1 hv⟩
  · cases e
theorem wk_range {F : Hp} (lo : Int) (n : Nat) : Wk K F (Itr lo n) ((List.range n).map fun (i : Nat) => .int (lo + i)) := by
  refine ⟨_, _, by rw [List.length_map, List.length_range]; exact walk_range, fun H s => trivial, fun i d F1 H x H' e s1 s2 y => ?_⟩
  obtain ⟨rfl, rfl⟩ := y
  rw [List.getElem?_map] at e
  have hi : i < n := by
    by_cases z : i < n
    · exact z
    · rw [List.getElem?_eq_none (by rw [List.length_range]; omega)] at e; cases e
  rw [List.getElem?_range hi] at e
  cases e
  exact ⟨F1, .refl s2, .int _⟩
def rg62 (a b : Int) : Bool := decide (-(2 ^ 62) ≤ a) && (decide (a < 2 ^ 62) && (decide (-(2 ^ 62) ≤ b) && decide (b < 2 ^ 62)))
def dIt1 (f : En → R D) : En → R (List D) := fun ρ => (f ρ).bind fun d ρ' => match d with
  | .int n => if rg62 0 n = true then .ok (rgD 0 n) ρ' else .no
  | _ => .no
def dIt2 (f g : En → R D) : En → R (List D) := fun ρ => (f ρ).bind fun d ρ1 => (g ρ1).bind fun e ρ2 => match d, e with
  | .int n, .int m => if rg62 n m = true then .ok (rgD n m) ρ2 else .no
  | _, _ => .no
variable {p : Pos} {a b : Expr} {ta tb : TE}
theorem i_range1 {fa : En → R D} (ha : Ex X a ta fa) (hm : X.mg "range" = none) (hg : Gl X "range" := by rfl) (h1 : starEach [a] X.env = (false, eval a X.env) :: starEach [] X.env := by rfl) (hs : starEach [a] X.env = [(false, eval a X.env)] := by rfl) :
    Wd X tg (.Call (.Name "range" p) [a] [] pos) (iRng1 (tCons ta tNil)) (dIt1 fa) := by
  refine ⟨pi_range1 hg hm (pa_cons ha.p pa_nil h1) hs, fun P F H σ ρ ds ρ' Q r e k => ?_⟩
  obtain ⟨d, ρ1, e1, e⟩ := Rb e
  refine ha.s P F H σ ρ d ρ1 _ r e1 fun v F1 H1 g1 h1 => ?_
  split at e
  · split at e
    · rename_i n ok
      cases e
      cases h1
      unfold rg62 at ok
      simp only [Bool.and_eq_true, decide_eq_true_eq] at ok
      refine ⟨n, rfl, ok.2.2.1, ok.2.2.2, k _ F1 H1 g1 ?_⟩
      have q := wk_range (K := X.K) (F := F1) 0 n.toNat
      unfold rgD
      rw [Int.sub_zero]
      exact q
    · cases e
  · cases e
theorem i_range2 {fa fb : En → R D} (ha : Ex X a ta fa) (hb : Ex X b tb fb) (hm : X.mg "range" = none) (hg : Gl X "range" := by rfl) (h1 : starEach [a, b] X.env = (false, eval a X.env) :: starEach [b] X.env := by rfl) (h2 : starEach [b] X.env = (false, eval b X.env) :: starEach [] X.env := by rfl)
    (hs : starEach [a, b] X.env = [(false, eval a X.env), (false, eval b X.env)] := by rfl) (hs2 : starEach [b] X.env = [(false, eval b X.env)] := by rfl) :
    Wd X tg (.Call (.Name "range" p) [a, b] [] pos) (iRng2 (tCons ta (tCons tb tNil))) (dIt2 fa fb) := by
  refine ⟨pi_range2 hg hm (pa_cons ha.p (pa_cons hb.p pa_nil h2) h1) hs hs2, fun P F H σ ρ ds ρ' Q r e k => ?_⟩
  obtain ⟨d, ρ1, e1, e⟩ := Rb e
  obtain ⟨d2, ρ2, e2, e⟩ := Rb e
  refine ha.s P F H σ ρ d ρ1 _ r e1 fun v F1 H1 g1 h1 => ?_
  refine hb.s P F1 H1 σ ρ1 d2 ρ2 _ g1.rep e2 fun u F2 H2 g2 h2 => ?_
  split at e
  · split at e
    · rename_i ok
      cases e
      cases h1
      cases h2
      unfold rg62 at ok
      simp only [Bool.and_eq_true, decide_eq_true_eq] at ok
      exact ⟨_, _, rfl, ok, k _ F2 H2 (g1.trans g2) (wk_range (K := X.K) (F := F2) _ _)⟩
    · cases e
  · cases e
end
/-! ### for -/
def forget (ρ : En) : List Nat → En
  | [] => ρ
  | i :: r => forget (if free ρ i = true then ρ.set i none else ρ) r
theorem Go.forget {K : PySem.W.Frag} {P : Pn} {F H : Hp} {σ : St} : ∀ {ρ : En} (l : List Nat), Rep K P F H σ ρ → Go K P F H σ ρ F H σ (forget ρ l)
  | ρ, [], r => .refl r
  | ρ, i :: l, r => by
    unfold G.forget
    split
    · rename_i hf
      have hi := (r.nopin hf).1
      have g1 : Go K P F H σ ρ F H σ (ρ.set i none) := by
        have q := Go.store (v := slV σ i) (s := none) r hf rfl trivial
        have e : σ.set i (slV σ i) = σ := by
          apply List.ext_getElem?
          intro j
          rw [List.getElem?_set]
          by_cases z : i = j
          · subst z
            rw [if_pos rfl]
            unfold slV
            by_cases w : i < σ.length
            · rw [if_pos w, List.getElem?_eq_getElem w]; rfl
            · exact absurd (by rw [r.len]; exact hi) w
          · rw [if_neg z]
        rw [e] at q
        exact q
      exact g1.trans (Go.forget l g1.rep)
    · exact Go.forget l r
def loop (ft : D → En → R Unit) (fb : En → RS) (fg : List Nat) : List D → En → RS
  | [], ρ => .nx ρ
  | d :: ds, ρ => match ft d ρ with
    | .ok _ ρ1 => match fb ρ1 with
      | .nx ρ2 => loop ft fb fg ds (forget ρ2 fg)
      | .ct ρ2 => loop ft fb fg ds (forget ρ2 fg)
      | .bk ρ2 => .nx (forget ρ2 fg)
      | .ret d ρ2 => .ret d ρ2
      | .retK d ρ2 => .retK d ρ2
      | .no => .no
    | _ => .no
def dFor (fi : En → R (List D)) (ft : D → En → R Unit) (fb : En → RS) (fg : List Nat) : En → RS := fun ρ => (fi ρ).then fun ds ρ' => loop ft fb fg ds (forget ρ' fg)
section
variable {X : Cx} {pos : Pos} {tg iter : Expr} {body : List Stmt}
theorem s_for {wi : TI} {g : TG} {tb : TS} {fi : En → R (List D)} {ft : D → En → R Unit} {fb : En → RS} (fg : List Nat) (hi : Wd X tg iter wi fi) (ht : Tg X tg g ft) (hb : Bl X body tb fb) (hp : PassesOwn (model X.prog X.w) X.A X.env X.xe) (hc : X.calm = true := by rfl) (hs : ∀ x, foldedSetIterable iter X.env x = pure x := by intro _; rfl) :
    Sm X (.For tg iter body [] pos) (tFor wi g tb) (dFor fi ft fb fg) := by
  refine ⟨ps_for hp hc hi.p ht.p hb.p hs, fun P F H σ ρ E r q => ?_⟩
  obtain ⟨ds, ρ1, e1, q⟩ := Rt q
  refine hi.s P F H σ ρ ds ρ1 _ r e1 fun J F1 H1 g1 wk => ?_
  obtain ⟨G, Y, w, hG, hY⟩ := wk
  obtain ⟨L, hL⟩ : ∃ L, loop ft fb fg ds (forget ρ1 fg) = L := ⟨_, rfl⟩
  rw [hL] at q
  refine for_it w (fun i σ2 H2 => ∃ F2 ρ2, Go X.K P F1 H1 σ ρ1 F2 H2 σ2 ρ2 ∧ loop ft fb fg (ds.drop i) ρ2 = L) ⟨F1, _, Go.forget fg g1.rep, by rw [List.drop_zero]; exact hL⟩ (fun i σ2 H2 _ ⟨F2, ρ2, g2, _⟩ => hG H2 (g2.fro.trans g2.rep.sub)) ?_ ?_
  · rintro i x σ2 H2 H3 hlt ⟨F2, ρ2, g2, e2⟩ y
    obtain ⟨F3, gr, hv⟩ := hY i ds[i] F2 H2 x H3 (by simp [hlt]) g2.fro g2.rep.sub y
    have g3 := g2.trans (Go.grow g2.rep gr)
    rw [List.drop_eq_getElem_cons hlt] at e2
    unfold loop at e2
    cases z : ft ds[i] ρ2 with
    | no => rw [z] at e2; rw [← e2] at q; exact False.elim q
    | err c d => rw [z] at e2; rw [← e2] at q; exact False.elim q
    | ok u ρ3 =>
      rw [z] at e2
      dsimp only at e2
      refine ht.s P F3 H3 σ2 ρ2 x _ ρ3 _ g3.rep hv z fun σ4 F4 H4 g4 => ?_
      refine hb.s P F4 H4 σ4 ρ3 _ g4.rep ?_
      have g5 := g3.trans g4
      have q5 := Post.trans (g1.trans g5) q
      cases zb : fb ρ3 with
      | nx ρ4 =>
        rw [zb] at e2
        exact fun σ' F' H' k => ⟨F', _, (g5.trans k).trans (Go.forget fg k.rep), e2⟩
      | ct ρ4 =>
        rw [zb] at e2
        exact fun σ' F' H' k => ⟨F', _, (g5.trans k).trans (Go.forget fg k.rep), e2⟩
      | bk ρ4 =>
        rw [zb] at e2
        dsimp only at e2
        rw [← e2] at q5
        exact fun σ' F' H' k => q5 σ' F' H' (k.trans (Go.forget fg k.rep))
      | ret d ρ4 => rw [zb] at e2; dsimp only at e2; rw [← e2] at q5; exact q5
      | retK d ρ4 => rw [zb] at e2; dsimp only at e2; rw [← e2] at q5; exact q5
      | no => rw [zb] at e2; dsimp only at e2; rw [← e2] at q5; exact q5
  · rintro σ2 H2 ⟨F2, ρ2, g2, e2⟩
    rw [List.drop_length] at e2
    have q2 := Post.trans (g1.trans g2) q
    rw [← e2] at q2
    exact q2 σ2 F2 H2 (.refl g2.rep)
end
end L2.G

namespace L2.G
open PySem PySem.Spec PyProof.Rows

/-! ## comprehensions -/
def okV (ρ : En) (vs : List Nat) : Bool := vs.all fun v => free ρ v
def wipeD (ρ : En) : List Nat → En
  | [] => ρ
  | v :: vs => (wipeD ρ vs).set v none
def backV (ρ1 ρ2 : En) : List Nat → En
  | [] => ρ2
  | v :: vs => (backV ρ1 ρ2 vs).set v (slD ρ1 v)
theorem wipeD_len (ρ : En) : ∀ vs, (wipeD ρ vs).length = ρ.length
  | [] => rfl
  | v :: vs => by unfold wipeD; rw [List.length_set, wipeD_len ρ vs]
theorem backV_len (ρ1 ρ2 : En) : ∀ vs, (backV ρ1 ρ2 vs).length = ρ2.length
  | [] => rfl
  | v :: vs => by unfold backV; rw [List.length_set, backV_len ρ1 ρ2 vs]
theorem wipeD_at (ρ : En) (j : Nat) : ∀ vs, (∀ v ∈ vs, v < ρ.length) → slD (wipeD ρ vs) j = if j ∈ vs then none else slD ρ j
  | [], _ => by simp [wipeD]
  | v :: vs, h => by
    unfold wipeD
    rw [slD_set v j _ (by rw [wipeD_len]; exact h v List.mem_cons_self), wipeD_at ρ j vs fun w hw => h w (List.mem_cons_of_mem _ hw)]
    by_cases z : j = v
    · subst z; simp
    · simp [z]
theorem backV_at (ρ1 ρ2 : En) (j : Nat) : ∀ vs, (∀ v ∈ vs, v < ρ2.length) → slD (backV ρ1 ρ2 vs) j = if j ∈ vs then slD ρ1 j else slD ρ2 j
  | [], _ => by simp [backV]
  | v :: vs, h => by
    unfold backV
    rw [slD_set v j _ (by rw [backV_len]; exact h v List.mem_cons_self), backV_at ρ1 ρ2 j vs fun w hw => h w (List.mem_cons_of_mem _ hw)]
    by_cases z : j = v
    · subst z; simp
    · simp [z]
theorem wipe_at (σ : St) (j : Nat) : ∀ vs, (∀ v ∈ vs, v < σ.length) → slV (wipe σ vs) j = if j ∈ vs then none else slV σ j
  | [], _ => by simp [wipe]
  | v :: vs, h => by
    unfold wipe
    rw [slV_set v j _ (by rw [wipe_length]; exact h v List.mem_cons_self), wipe_at σ j vs fun w hw => h w (List.mem_cons_of_mem _ hw)]
    by_cases z : j = v
    · subst z; simp
    · simp [z]
section
variable {K : PySem.W.Frag} {P : Pn} {F H : Hp} {σ : St} {ρ : En} {vs : List Nat}
theorem okV_lt (h : okV ρ vs = true) : ∀ v ∈ vs, v < ρ.length := fun v hv => by
  have q := List.all_eq_true.mp h v hv
  unfold free at q
  rw [Bool.and_eq_true] at q
  exact of_decide_eq_true q.1
theorem okV_arg (h : okV ρ vs = true) {v : Nat} (hv : v ∈ vs) : ∀ k, slD ρ v ≠ some (.arg k) := fun k e => by
  have q := List.all_eq_true.mp h v hv
  unfold free at q
  rw [Bool.and_eq_true, e] at q
  exact absurd q.2 (by simp)
theorem own_wipe (r : σ.length = ρ.length) (h : okV ρ vs = true) {j : Nat} {a : Addr} : OwnAt (wipe σ vs) (wipeD ρ vs) j a ↔ j ∉ vs ∧ OwnAt σ ρ j a := by
  have h1 := okV_lt h
  have h2 : ∀ v ∈ vs, v < σ.length := fun v hv => by rw [r]; exact h1 v hv
  unfold OwnAt
  rw [wipe_at σ j vs h2, wipeD_at ρ j vs h1]
  by_cases z : j ∈ vs
  · rw [if_pos z, if_pos z]; exact ⟨fun q => (nomatch q.1), fun q => absurd z q.1⟩
  · rw [if_neg z, if_neg z]; exact ⟨fun q => ⟨z, q⟩, fun q => q.2⟩
theorem Go.wiped (r : Rep K P F H σ ρ) (h : okV ρ vs = true) : Go K P F H σ ρ F H (wipe σ vs) (wipeD ρ vs) := by
  have h1 := okV_lt h
  have h2 : ∀ v ∈ vs, v < σ.length := fun v hv => by rw [r.len]; exact h1 v hv
  refine ⟨⟨r.sub, by rw [wipe_length, wipeD_len]; exact r.len, fun j => ?_, fun i j a x y => r.inj i j a ((own_wipe r.len h).mp x).2 ((own_wipe r.len h).mp y).2, fun j a e => ?_⟩, Same.refl F, fun _ _ _ => rfl, fun _ _ e _ => e, fun a ⟨j, x⟩ _ => ⟨j, ((own_wipe r.len h).mp x).2⟩, fun _ x => x⟩
  · rw [wipe_at σ j vs h2, wipeD_at ρ j vs h1]
    by_cases z : j ∈ vs
    · rw [if_pos z, if_pos z]; trivial
    · rw [if_neg z, if_neg z]; exact r.at_ j
  · obtain ⟨k, q⟩ := r.pin j a e
    rw [wipeD_at ρ j vs h1]
    by_cases z : j ∈ vs
    · exact absurd q (okV_arg h z k)
    · rw [if_neg z]; exact ⟨k, q⟩
/-- an object that nobody knows is changed -/
theorem Rep.touch {D : Addr} {o : HO} (r : Rep K P F H σ ρ) (hf : F D = none) (hn : ¬ Owned σ ρ D) : Rep K P F (upd H D o) σ ρ := by
  refine ⟨fun b u e => by rw [upd_ne (ne_of_none e hf)]; exact r.sub b u e, r.len, fun j => ?_, r.inj, r.pin⟩
  have nb : ∀ b, slV σ j = some (.ref b) → isOwn (slD ρ j) = true → b ≠ D := fun b e1 e2 z => hn ⟨j, z ▸ e1, e2⟩
  have q := r.at_ j
  cases es : slD ρ j with
  | none => trivial
  | some u =>
    rw [es] at q nb
    cases u with
    | val d => exact q
    | scr ns => exact q
    | own ds => obtain ⟨b, e, f, xs, h, t⟩ := q; exact ⟨b, e, f, xs, by rw [upd_ne (nb b e rfl)]; exact h, t⟩
    | dct ds => obtain ⟨b, e, f, xs, h, t⟩ := q; exact ⟨b, e, f, xs, by rw [upd_ne (nb b e rfl)]; exact h, t⟩
    | arg ds => obtain ⟨b, e, p, f, xs, h, t⟩ := q; exact ⟨b, e, p, f, xs, by rw [upd_ne (nb b e rfl)]; exact h, t⟩
end
def lcl (ft : D → En → R Unit) (fc : En → R Bool) (fe : En → R D) (vs : List Nat) : List D → En → R (List D)
  | [], ρ => .ok [] ρ
  | d :: ds, ρ => (ft d ρ).bind fun _ ρa => (fc ρa).bind fun b ρb => match b with
    | true => (fe ρb).bind fun x ρc => if okV ρc vs = true then (lcl ft fc fe vs ds (wipeD ρc vs)).bind fun es ρ' => .ok (x :: es) ρ' else .no
    | false => if okV ρb vs = true then lcl ft fc fe vs ds (wipeD ρb vs) else .no
/-- may the slots vs be a comprehension's own -/
def ownV (ρ : En) (vs : List Nat) : Bool := okV ρ vs && vs.all fun v => !isOwn (slD ρ v)
def dLc (fi : En → R (List D)) (ft : D → En → R Unit) (fc : En → R Bool) (fe : En → R D) (vs : List Nat) : En → R (List D) := fun ρ => (fi ρ).bind fun ds ρ1 =>
  if ownV ρ1 vs = true ∧ ds.length ≤ sizeLine then (lcl ft fc fe vs ds (wipeD ρ1 vs)).bind fun es ρ2 => .ok es (backV ρ1 ρ2 vs) else .no
/-- a target that stores to the slots vs alone -/
def Alone (g : TG) (vs : List Nat) : Prop := ∀ (v : V) (σ : St) (H : Hp) (Q : St → Hp → Prop), g v σ H Q → g v σ H fun σ2 H2 => wipe σ2 vs = wipe σ vs ∧ Q σ2 H2
def AloneS (g : TGs) (vs : List Nat) : Prop := ∀ (v : List V) (σ : St) (H : Hp) (Q : St → Hp → Prop), g v σ H Q → g v σ H fun σ2 H2 => wipe σ2 vs = wipe σ vs ∧ Q σ2 H2
theorem wipe_set (σ : St) (i : Nat) (v : Option V) : ∀ vs, i ∈ vs → wipe (σ.set i v) vs = wipe σ vs
  | [], h => absurd h (by simp)
  | w :: vs, h => by
    unfold wipe
    by_cases z : i ∈ vs
    · rw [wipe_set σ i v vs z]
    · have e : i = w := by
        rcases List.mem_cons.mp h with e | e
        · exact e
        · exact absurd e z
      subst e
      have gen : ∀ us : List Nat, i ∉ us → wipe (σ.set i v) us = (wipe σ us).set i v := by
        intro us
        induction us with
        | nil => intro _; rfl
        | cons u us ih =>
          intro hn
          unfold wipe
          rw [ih fun q => hn (List.mem_cons_of_mem _ q)]
          exact List.set_comm _ _ fun q => hn (q ▸ List.mem_cons_self)
      rw [gen vs z, List.set_set]
theorem wipe_wipe (σ : St) (vs : List Nat) (h : ∀ v ∈ vs, v < σ.length) : wipe (wipe σ vs) vs = wipe σ vs := by
  have gen : ∀ us : List Nat, (∀ u ∈ us, u ∈ vs) → wipe (wipe σ vs) us = wipe σ vs := by
    intro us
    induction us with
    | nil => intro _; rfl
    | cons u us ih =>
      intro hu
      show (wipe (wipe σ vs) us).set u none = wipe σ vs
      rw [ih fun q hq => hu q (List.mem_cons_of_mem _ hq)]
      generalize hτ : wipe σ vs = τ
      have hl : u < τ.length := by rw [← hτ, wipe_length]; exact h u (hu u List.mem_cons_self)
      have q := wipe_at σ u vs h
      rw [if_pos (hu u List.mem_cons_self), hτ] at q
      unfold slV at q
      rw [List.getElem?_eq_getElem hl] at q
      apply List.ext_getElem?
      intro j
      rw [List.getElem?_set]
      by_cases z : u = j
      · subst z
        rw [if_pos rfl, if_pos hl, List.getElem?_eq_getElem hl]
        exact congrArg some q.symm
      · rw [if_neg z]
  exact gen vs fun _ h => h
theorem al_name {i : Nat} {vs : List Nat} (h : i ∈ vs) : Alone (gName i) vs := fun v σ H Q q => ⟨wipe_set σ i _ vs h, q⟩
theorem als_nil {vs : List Nat} : AloneS gNil vs := fun v σ H Q q => ⟨q.1, rfl, q.2⟩
theorem als_cons {g : TG} {u : TGs} {vs : List Nat} (h : Alone g vs) (k : AloneS u vs) (mono : ∀ v σ H Q Q', g v σ H Q → (∀ σ2 H2, Q σ2 H2 → Q' σ2 H2) → g v σ H Q') (monos : ∀ v σ H Q Q', u v σ H Q → (∀ σ2 H2, Q σ2 H2 → Q' σ2 H2) → u v σ H Q') : AloneS (gCons g u) vs := by
  intro l σ H Q q
  obtain ⟨v, r, e, q⟩ := q
  refine ⟨v, r, e, mono _ _ _ _ _ (h v σ H _ q) fun σ2 H2 ⟨w, z⟩ => ?_⟩
  exact monos _ _ _ _ _ (k r σ2 H2 Q z) fun σ3 H3 ⟨w3, z3⟩ => ⟨w3.trans w, z3⟩
/-- what a target's reading gives may be weakened -/
def MonoG (g : TG) : Prop := ∀ v σ H Q Q', g v σ H Q → (∀ σ2 H2, Q σ2 H2 → Q' σ2 H2) → g v σ H Q'
def MonoGs (g : TGs) : Prop := ∀ v σ H Q Q', g v σ H Q → (∀ σ2 H2, Q σ2 H2 → Q' σ2 H2) → g v σ H Q'
theorem mg_name {i : Nat} : MonoG (gName i) := fun v σ H Q Q' q k => k _ _ q
theorem mgs_nil : MonoGs gNil := fun v σ H Q Q' q k => ⟨q.1, k _ _ q.2⟩
theorem mgs_cons {g : TG} {u : TGs} (h : MonoG g) (k : MonoGs u) : MonoGs (gCons g u) := fun l σ H Q Q' ⟨v, r, e, q⟩ kk => ⟨v, r, e, h _ _ _ _ _ q fun σ2 H2 z => k _ _ _ _ _ z kk⟩
theorem mg_tup {K : PySem.W.Frag} {n : Nat} {u : TGs} (k : MonoGs u) : MonoG (gTup K n u) := fun v σ H Q Q' ⟨a, xs, e, h, l, q⟩ kk => ⟨a, xs, e, h, l, k _ _ _ _ _ q kk⟩
structure AlG (g : TG) (vs : List Nat) : Prop where
  a : Alone g vs
  m : MonoG g
structure AlGs (g : TGs) (vs : List Nat) : Prop where
  a : AloneS g vs
  m : MonoGs g
theorem l_name {i : Nat} {vs : List Nat} (h : i ∈ vs := by decide) : AlG (gName i) vs := ⟨al_name h, mg_name⟩
theorem l_nil {vs : List Nat} : AlGs gNil vs := ⟨als_nil, mgs_nil⟩
theorem l_cons {g : TG} {u : TGs} {vs : List Nat} (h : AlG g vs) (k : AlGs u vs) : AlGs (gCons g u) vs := ⟨als_cons h.a k.a h.m k.m, mgs_cons h.m k.m⟩
theorem l_tup {K : PySem.W.Frag} {n : Nat} {u : TGs} {vs : List Nat} (k : AlGs u vs) : AlG (gTup K n u) vs := ⟨fun v σ H Q ⟨a, xs, e, h, l, q⟩ => ⟨a, xs, e, h, l, k.a _ _ _ _ q⟩, mg_tup k.m⟩
def hid (H : Hp) (D : Addr) : Hp := fun b => if b = D then none else H b
theorem hid_ne {H : Hp} {D b : Addr} (h : b ≠ D) : hid H D b = H b := if_neg h
theorem hid_upd {H : Hp} {D : Addr} {o : HO} : hid (upd H D o) D = hid H D := by
  funext b
  unfold hid
  by_cases z : b = D
  · rw [if_pos z, if_pos z]
  · rw [if_neg z, if_neg z, upd_ne z]
theorem hid_none {H : Hp} {D : Addr} (h : H D = none) : hid H D = H := by
  funext b
  unfold hid
  by_cases z : b = D
  · rw [if_pos z, z, h]
  · rw [if_neg z]
theorem sl_lc {K : PySem.W.Frag} {wi : TI} {g : TG} {tt : TT} {te : TE} {vs : List Nat} {fi : En → R (List D)} {ft : D → En → R Unit} {fc : En → R Bool} {fe : En → R D} (hi : SI K wi fi) (hg : SG K g ft) (ha : AlG g vs) (hc : ST K tt fc) (he : SE K te fe) : SL K (tLc wi g tt te vs) (dLc fi ft fc fe vs) := by
  intro P F H σ ρ es ρ' Q r e k
  obtain ⟨ds, ρ1, e1, e⟩ := Rb e
  refine hi P F H σ ρ ds ρ1 _ r e1 fun J F1 H1 g1 wk => ?_
  split at e
  · rename_i hcond
    obtain ⟨hown, hlen⟩ := hcond
    unfold ownV at hown
    rw [Bool.and_eq_true] at hown
    obtain ⟨hok, hno⟩ := hown
    obtain ⟨es2, ρ2, e2, e⟩ := Rb e
    cases e
    obtain ⟨G, Y, w, hG, hY⟩ := wk
    intro D hD
    have gw := Go.wiped g1.rep hok
    have F1D : F1 D = none := by
      cases z : F1 D with
      | none => rfl
      | some o => rw [g1.rep.sub _ _ z] at hD; cases hD
    refine lc_it w (fun i H2 => ∃ F2 ρi acc as, Go K P F1 H1 (wipe σ vs) (wipeD ρ1 vs) F2 (hid H2 D) (wipe σ vs) ρi ∧ Rep K P F2 H2 (wipe σ vs) ρi ∧ F2 D = none ∧ ¬ Owned (wipe σ vs) ρi D ∧ H2 D = some (.lst acc) ∧ acc.length ≤ i ∧ DvA K F2 acc as ∧
        (lcl ft fc fe vs (ds.drop i) ρi).bind (fun xs ρ' => R.ok (as ++ xs) ρ') = .ok es ρ2) ?_ ?_ ?_ ?_
    · have hN : ¬ Owned (wipe σ vs) (wipeD ρ1 vs) D := fun o => Go.ownOf gw.rep (.refl gw.rep) o hD
      refine ⟨F1, _, [], [], ?_, gw.rep.touch F1D hN, F1D, hN, upd_same, Nat.le_refl _, .nil, ?_⟩
      · rw [hid_upd, hid_none hD]
        exact .refl gw.rep
      · rw [List.drop_zero, e2]; rfl
    · rintro i H2 _ ⟨F2, ρi, acc, as, g2, r2, _⟩
      exact hG H2 (g2.fro.trans r2.sub)
    · rintro i x H2 H3 hlt ⟨F2, ρi, acc, as, g2, r2, fD, nD, hDl, hal, hda, el⟩ y
      obtain ⟨F3, gr, hv⟩ := hY i ds[i] F2 H2 x H3 (by simp [hlt]) g2.fro r2.sub y
      have g3 := Go.grow r2 gr
      rw [List.drop_eq_getElem_cons hlt] at el
      unfold lcl at el
      obtain ⟨as2, ρz, el, elz⟩ := Rb el
      obtain ⟨⟨⟩, ρa, ea, el⟩ := Rb el
      obtain ⟨b, ρb, eb, el⟩ := Rb el
      -- from the turn's start to anywhere: what stays
      have stay : ∀ {σ4 : St} {F4 H4 : Hp} {ρ4 : En}, Go K P F2 H2 (wipe σ vs) ρi F4 H4 σ4 ρ4 → F4 D = none ∧ ¬ Owned σ4 ρ4 D ∧ H4 D = some (.lst acc) := fun {σ4 F4 H4 ρ4} g4 => by
        have hs : H2 D ≠ none := by rw [hDl]; exact (fun z => nomatch z)
        exact ⟨by rw [g4.old D hs nD]; exact fD, fun o => nD (g4.own D o hs), g4.kept D _ hDl nD⟩
      have next : ∀ {σ4 : St} {F4 H4 : Hp} {ρ4 : En}, Go K P F2 H2 (wipe σ vs) ρi F4 H4 σ4 ρ4 → wipe σ4 vs = wipe σ vs → okV ρ4 vs = true →
          Go K P F1 H1 (wipe σ vs) (wipeD ρ1 vs) F4 (hid H4 D) (wipe σ vs) (wipeD ρ4 vs) ∧ Rep K P F4 H4 (wipe σ vs) (wipeD ρ4 vs) ∧ ¬ Owned (wipe σ vs) (wipeD ρ4 vs) D := fun {σ4 F4 H4 ρ4} g4 hw ok4 => by
        obtain ⟨s1, s2, s3⟩ := stay g4
        have g5 := g4.trans (Go.wiped g4.rep ok4)
        rw [hw] at g5
        have n5 : ¬ Owned (wipe σ vs) (wipeD ρ4 vs) D := fun o => nD (g5.own D o (by rw [hDl]; exact (fun z => nomatch z)))
        refine ⟨⟨⟨fun c u ec => ?_, g5.rep.len, fun j => ?_, g5.rep.inj, g5.rep.pin⟩, g2.fro.trans g5.fro, fun c hc nc => ?_, fun c u ec nc => ?_, fun c o hc => ?_, fun c hc => ?_⟩, g5.rep, n5⟩
        · by_cases z : c = D
          · subst z; rw [s1] at ec; cases ec
          · rw [hid_ne z]; exact g5.rep.sub c u ec
        · have nb : ∀ b, slV (wipe σ vs) j = some (.ref b) → isOwn (slD (wipeD ρ4 vs) j) = true → b ≠ D := fun b q1 q2 z => n5 ⟨j, z ▸ q1, q2⟩
          have q := g5.rep.at_ j
          cases es : slD (wipeD ρ4 vs) j with
          | none => trivial
          | some u =>
            rw [es] at q nb
            cases u with
            | val d => exact q
            | scr ns => exact q
            | own ds => obtain ⟨b, e, f, xs, h, t⟩ := q; exact ⟨b, e, f, xs, by rw [hid_ne (nb b e rfl)]; exact h, t⟩
            | dct ds => obtain ⟨b, e, f, xs, h, t⟩ := q; exact ⟨b, e, f, xs, by rw [hid_ne (nb b e rfl)]; exact h, t⟩
            | arg ds => obtain ⟨b, e, p, f, xs, h, t⟩ := q; exact ⟨b, e, p, f, xs, by rw [hid_ne (nb b e rfl)]; exact h, t⟩
        · have hcD : c ≠ D := fun z => hc (z ▸ hD)
          have h2c : H2 c ≠ none := fun z => g2.alive c hc (by rw [hid_ne hcD]; exact z)
          have n2c : ¬ Owned (wipe σ vs) ρi c := fun o => nc (g2.own c o hc)
          rw [g5.old c h2c n2c, g2.old c hc nc]
        · have hcD : c ≠ D := fun z => by rw [z, hD] at ec; cases ec
          have q := g2.kept c u ec nc
          rw [hid_ne hcD] at q ⊢
          exact g5.kept c u q fun o => nc (g2.own c o (by rw [ec]; exact (fun z => nomatch z)))
        · have hcD : c ≠ D := fun z => hc (z ▸ hD)
          have h2c : H2 c ≠ none := fun z => g2.alive c hc (by rw [hid_ne hcD]; exact z)
          exact g2.own c (g5.own c o h2c) hc
        · have hcD : c ≠ D := fun z => hc (z ▸ hD)
          have h2c : H2 c ≠ none := fun z => g2.alive c hc (by rw [hid_ne hcD]; exact z)
          rw [hid_ne hcD]
          exact g5.alive c h2c
      refine ha.m _ _ _ _ _ (ha.a x (wipe σ vs) H3 _ (hg P F3 H3 (wipe σ vs) ρi x ds[i] ρa (fun σ4 H4 => ∃ F4, Go K P F2 H2 (wipe σ vs) ρi F4 H4 σ4 ρa) g3.rep hv ea fun σ4 F4 H4 g4 => ⟨F4, g3.trans g4⟩)) fun σ4 H4 ⟨hw, F4, g4⟩ => ?_
      have wv := wipe_wipe σ vs fun v hv => by rw [g1.rep.len]; exact okV_lt hok v hv
      rw [wv] at hw
      refine ⟨hw, ?_⟩
      refine hc P F4 H4 σ4 ρa b ρb _ g4.rep eb fun F5 H5 g5 => ?_
      cases b with
      | false =>
        dsimp only at el
        split at el
        · rename_i ok5
          obtain ⟨n1, n2, n3⟩ := next (g4.trans g5) hw ok5
          obtain ⟨s1, s2, s3⟩ := stay (g4.trans g5)
          refine iteF ⟨F5, _, acc, as, n1, n2, s1, n3, s3, Nat.le_succ_of_le hal, dpa_mono (g4.trans g5).fro hda, ?_⟩
          rw [el]; exact elz
        · cases el
      | true =>
        dsimp only at el
        obtain ⟨xd, ρc, ec, el⟩ := Rb el
        refine iteT (he P F5 H5 σ4 ρb xd ρc _ g5.rep ec fun v F6 H6 g6 hv6 => ?_)
        split at el
        · rename_i ok6
          obtain ⟨es3, ρw, el, elw⟩ := Rb el
          cases elw
          have g46 := (g4.trans g5).trans g6
          obtain ⟨n1, n2, n3⟩ := next g46 hw ok6
          obtain ⟨s1, s2, s3⟩ := stay g46
          refine ⟨acc, s3, by have := w; omega, ?_⟩
          refine ⟨F6, _, acc ++ [v], as ++ [xd], ?_, n2.touch s1 n3, s1, n3, upd_same, by rw [List.length_append, List.length_singleton]; omega, dpa_app (dpa_mono g46.fro hda) (.cons hv6 .nil), ?_⟩
          · rw [hid_upd]; exact n1
          · rw [el]
            cases elz
            show R.ok (as ++ [xd] ++ es3) _ = R.ok (as ++ (xd :: es3)) _
            rw [List.append_assoc]; rfl
        · cases el
    · rintro H2 ⟨F2, ρi, acc, as, g2, r2, fD, nD, hDl, hal, hda, el⟩
      rw [List.drop_length] at el
      unfold lcl at el
      dsimp only [R.bind] at el
      rw [List.append_nil] at el
      cases el
      have lt1 := okV_lt hok
      have lt2 : ∀ v ∈ vs, v < ρ2.length := fun v hv => by rw [← r2.len, wipe_length, g1.rep.len]; exact lt1 v hv
      have ltσ : ∀ v ∈ vs, v < σ.length := fun v hv => by rw [g1.rep.len]; exact lt1 v hv
      have ow : ∀ j a, OwnAt σ (backV ρ1 ρ2 vs) j a → j ∉ vs ∧ OwnAt (wipe σ vs) ρ2 j a := fun j a ⟨q1, q2⟩ => by
        rw [backV_at ρ1 ρ2 j vs lt2] at q2
        by_cases z : j ∈ vs
        · rw [if_pos z] at q2
          have := List.all_eq_true.mp hno j z
          rw [q2] at this; cases this
        · rw [if_neg z] at q2
          exact ⟨z, by rw [wipe_at σ j vs ltσ, if_neg z]; exact q1, q2⟩
      have nD' : ¬ Owned σ (backV ρ1 ρ2 vs) D := fun ⟨j, o⟩ => nD ⟨j, (ow j D o).2⟩
      have gE : Go K P F1 H1 σ ρ1 F2 H2 σ (backV ρ1 ρ2 vs) := by
        refine ⟨⟨r2.sub, by rw [backV_len, ← r2.len, wipe_length], fun j => ?_, fun i j a x y => r2.inj i j a (ow i a x).2 (ow j a y).2, fun j a ej => ?_⟩, g2.fro, fun a ha na => ?_, fun a o ea na => ?_, fun a ⟨j, o⟩ ha => ?_, fun a ha z => ?_⟩
        · rw [backV_at ρ1 ρ2 j vs lt2]
          by_cases z : j ∈ vs
          · rw [if_pos z]
            have q := g1.rep.at_ j
            have hn := List.all_eq_true.mp hno j z
            cases es : slD ρ1 j with
            | none => trivial
            | some u =>
              rw [es] at q hn
              cases u with
              | val d => obtain ⟨x, e, h⟩ := q; exact ⟨x, e, dp_mono g2.fro h⟩
              | scr ns => obtain ⟨b, e, h⟩ := q; exact ⟨b, e, Same.seq g2.fro h⟩
              | own ds => cases hn
              | dct ds => cases hn
              | arg ds => cases hn
          · rw [if_neg z]
            have q := r2.at_ j
            rw [wipe_at σ j vs ltσ, if_neg z] at q
            exact q
        · obtain ⟨k, q⟩ := r2.pin j a ej
          rw [backV_at ρ1 ρ2 j vs lt2]
          by_cases z : j ∈ vs
          · obtain ⟨k1, q1⟩ := g1.rep.pin j a ej
            exact absurd q1 (okV_arg hok z k1)
          · rw [if_neg z]; exact ⟨k, q⟩
        · exact g2.old a ha fun ⟨j, o⟩ => na ⟨j, ((own_wipe g1.rep.len hok).mp o).2⟩
        · have q := g2.kept a o ea fun ⟨j, o⟩ => na ⟨j, ((own_wipe g1.rep.len hok).mp o).2⟩
          by_cases z : a = D
          · rw [z, hD] at ea; cases ea
          · rw [hid_ne z] at q; exact q
        · obtain ⟨i, q⟩ := g2.own a ⟨j, (ow j a o).2⟩ ha
          exact ⟨i, ((own_wipe g1.rep.len hok).mp q).2⟩
        · have q := g2.alive a ha
          by_cases y : a = D
          · rw [y, hD] at ha; exact ha rfl
          · rw [hid_ne y] at q; exact q z
      exact k D acc F2 H2 (g1.trans gE) (g1.fresh D hD) fD hDl hda nD'
  · cases e
section
variable {X : Cx} {pos : Pos}
structure Tss (X : Cx) (ifs : List Expr) (t : TT) (f : En → R Bool) : Prop where
  p : PTs X ifs t
  s : ST X.K t f
def dYes : En → R Bool := fun ρ => .ok true ρ
theorem ts_nil : Tss X [] tYes dYes := ⟨pts_nil, fun P F H σ ρ d ρ' Q r e k => by cases e; exact k F H (.refl r)⟩
theorem ts_one {c : Expr} {t : TT} {f : En → R Bool} (h : Ts X c t f) : Tss X [c] t f := ⟨pts_one h.p, h.s⟩
variable {elt tg iter : Expr} {ifs : List Expr} {scope : Scope} {wi : TI} {g : TG} {tt : TT} {te : TE} {fi : En → R (List D)} {ft : D → En → R Unit} {fc : En → R Bool} {fe : En → R D}
theorem n_lc {own : List (Str × Nat)} (vs : List Nat) (hv : own.map (·.2) = vs) (hN : X.N.Nodup) (hi : Wd X tg iter wi fi) (ok : blkC X.N X.env.scope scope own = true)
    (hg : ∀ (s : Shared) (H : Hp) (C : Addr) (cl : List (Str × Addr)) (fp : List Addr), Tg (X.blk s H scope (compEnvC scope cl C X.env) fp) tg g ft) (ha : AlG g vs) (ht : ∀ (s : Shared) (H : Hp) (C : Addr) (cl : List (Str × Addr)) (fp : List Addr), Tss (X.blk s H scope (compEnvC scope cl C X.env) fp) ifs tt fc)
    (he : ∀ (s : Shared) (H : Hp) (C : Addr) (cl : List (Str × Addr)) (fp : List Addr), Ex (X.blk s H scope (compEnvC scope cl C X.env) fp) elt te fe) (hc : X.calm = true := by rfl) (hs : ∀ x, foldedSetIterable iter X.env x = pure x := by intro _; rfl) :
    Nw X (.ListComp elt [⟨tg, iter, ifs, 0⟩] scope pos) (tLc wi g tt te vs) (dLc fi ft fc fe vs) := by
  subst hv
  have dummy : Shared := {}
  exact ⟨pe_lc hc hN hi.p (blkOk_by ok) (fun s H C cl fp => (hg s H C cl fp).p) (fun s H C cl fp => (ht s H C cl fp).p) (fun s H C cl fp => (he s H C cl fp).p) hs,
    sl_lc hi.s (hg dummy (fun _ => none) 0 [] []).s ha (ht dummy (fun _ => none) 0 [] []).s (he dummy (fun _ => none) 0 [] []).s⟩
end
end L2.G

namespace L2.G
open PySem PySem.Spec PyProof.Rows

/-! ## defs -/
/-- what a def's call gives: a datum, or a new dict -/
inductive Rt2 where
  | d (d : D)
  | k (kvs : List (Key × D))
inductive RF where
  | ok (r : Rt2) (ss : List Sl)
  | no
abbrev Fn := List Sl → RF
def isArg : Sl → Bool
  | .arg _ => true
  | _ => false
/-- the caller's dicts as they are behind the call -/
def outs (ρ : En) : Nat → List Sl → List Sl
  | _, [] => []
  | i, .arg k :: r => (match slD ρ i with
    | some (.arg l) => .arg l
    | _ => .arg k) :: outs ρ (i + 1) r
  | i, s :: r => s :: outs ρ (i + 1) r
def env0 (m : Nat) (ss : List Sl) : En := ss.map some ++ List.replicate m none
def fnOf (m : Nat) (g : En → RS) : Fn := fun ss => match g (env0 m ss) with
  | .ret d ρ => .ok (.d d) (outs ρ 0 ss)
  | .nx ρ => .ok (.d .none) (outs ρ 0 ss)
  | .retK kvs ρ => .ok (.k kvs) (outs ρ 0 ss)
  | _ => .no
/-- an argument's value -/
def SlArg (K : PySem.W.Frag) (F H : Hp) (v : V) : Sl → Prop
  | .val d => Dv K F v d
  | .scr ns => ∃ a, v = .ref a ∧ SqL K F a (ns.map V.int)
  | .arg kvs => ∃ a, v = .ref a ∧ DctAt K F H a kvs
  | _ => False
inductive ArgsOk (K : PySem.W.Frag) (F H : Hp) : List V → List Sl → Prop
  | nil : ArgsOk K F H [] []
  | cons {v : V} {vs : List V} {s : Sl} {ss : List Sl} : SlArg K F H v s → ArgsOk K F H vs ss → ArgsOk K F H (v :: vs) (s :: ss)
def ArgAt (vs : List V) (ss : List Sl) (i : Nat) (a : Addr) : Prop := vs[i]? = some (V.ref a) ∧ ∃ k, ss[i]? = some (Sl.arg k)
def ArgIn (vs : List V) (ss : List Sl) (a : Addr) : Prop := ∃ i, ArgAt vs ss i a
def RtOk (K : PySem.W.Frag) (F' H' H : Hp) (v : V) : Rt2 → Prop
  | .d d => Dv K F' v d
  | .k kvs => ∃ a, v = .ref a ∧ DctAt K F' H' a kvs ∧ H a = none
structure Aft (K : PySem.W.Frag) (F H F' H' : Hp) (vs : List V) (ss ss' : List Sl) : Prop where
  fro : Same F F'
  sub : Same F' H'
  args : ∀ (i : Nat) (kvs : List (Key × D)), ss'[i]? = some (Sl.arg kvs) → ∃ a, vs[i]? = some (V.ref a) ∧ DctAt K F' H' a kvs
  old : ∀ a, H a ≠ none → ¬ ArgIn vs ss a → F' a = F a
  kept : ∀ a o, H a = some o → ¬ ArgIn vs ss a → H' a = some o
  alive : ∀ a, H a ≠ none → H' a ≠ none
/-- the promise: it does what fn says -/
def spG (K : PySem.W.Frag) (n : Nat) (fn : Fn) : Sp := fun vs H Q _ => vs.length = n ∧ ∃ F ss r ss', Same F H ∧ ArgsOk K F H vs ss ∧ (∀ i j a, ArgAt vs ss i a → ArgAt vs ss j a → i = j) ∧ fn ss = .ok r ss' ∧
  ∀ v F' H', Aft K F H F' H' vs ss ss' → RtOk K F' H' H v r → Q v H'
theorem ArgsOk.len {K : PySem.W.Frag} {F H : Hp} : ∀ {vs : List V} {ss : List Sl}, ArgsOk K F H vs ss → vs.length = ss.length
  | _, _, .nil => rfl
  | _, _, .cons _ t => by rw [List.length_cons, List.length_cons, ArgsOk.len t]
theorem ArgsOk.at {K : PySem.W.Frag} {F H : Hp} : ∀ {vs : List V} {ss : List Sl} {i : Nat} {s : Sl}, ArgsOk K F H vs ss → ss[i]? = some s → ∃ v, vs[i]? = some v ∧ SlArg K F H v s
  | _, _, _, _, .nil, e => by simp at e
  | _, _, 0, _, .cons h _, e => by simp at e; subst e; exact ⟨_, rfl, h⟩
  | _, _, i + 1, s, .cons _ t, e => by
    obtain ⟨v, h1, h2⟩ := ArgsOk.at (i := i) (s := s) t (by simpa using e)
    exact ⟨v, by simpa using h1, h2⟩
theorem outs_at (ρ : En) : ∀ (ss : List Sl) (i j : Nat) (kvs : List (Key × D)), (outs ρ j ss)[i]? = some (Sl.arg kvs) → (∃ k, ss[i]? = some (Sl.arg k)) ∧ ((slD ρ (j + i) = some (Sl.arg kvs)) ∨ ∀ l, slD ρ (j + i) ≠ some (Sl.arg l))
  | [], i, j, kvs, e => by simp [outs] at e
  | s :: r, 0, j, kvs, e => by
    cases s with
    | arg k =>
      refine ⟨⟨k, rfl⟩, ?_⟩
      simp only [outs, List.getElem?_cons_zero, Option.some.injEq] at e
      rw [Nat.add_zero]
      split at e
      · rename_i l z
        cases e; exact .inl z
      · rename_i z
        exact .inr fun l w => z l w
    | val d => simp [outs] at e
    | own d => simp [outs] at e
    | dct d => simp [outs] at e
    | scr d => simp [outs] at e
  | s :: r, i + 1, j, kvs, e => by
    have e2 : (outs ρ (j + 1) r)[i]? = some (Sl.arg kvs) := by
      cases s <;> simpa [outs] using e
    obtain ⟨⟨k, h1⟩, h2⟩ := outs_at ρ r i (j + 1) kvs e2
    rw [show j + 1 + i = j + (i + 1) by omega] at h2
    exact ⟨⟨k, by simpa using h1⟩, h2⟩
def pnOf (vs : List V) (ss : List Sl) : Pn := fun i => match ss[i]?, vs[i]? with
  | some (.arg _), some (.ref a) => some a
  | _, _ => none
section
variable {K : PySem.W.Frag} {F H : Hp} {vs : List V} {ss : List Sl} {N : List Str}
theorem slD_env0 (m i : Nat) : slD (env0 m ss) i = ss[i]? := by
  unfold slD env0
  by_cases z : i < ss.length
  · rw [List.getElem?_append_left (by simpa using z), List.getElem?_map, List.getElem?_eq_getElem z]; rfl
  · rw [List.getElem?_append_right (by simp; omega), List.getElem?_replicate]
    rw [List.getElem?_eq_none (l := ss) (by omega)]
    split <;> rfl
theorem slV_start (i : Nat) : slV (start N vs) i = vs[i]? := by
  unfold slV start
  by_cases z : i < vs.length
  · rw [List.getElem?_append_left (by simpa using z), List.getElem?_map, List.getElem?_eq_getElem z]; rfl
  · rw [List.getElem?_append_right (by simp; omega), List.getElem?_replicate]
    rw [List.getElem?_eq_none (l := vs) (by omega)]
    split <;> rfl
theorem rep_start (s : Same F H) (a : ArgsOk K F H vs ss) (inj : ∀ i j a, ArgAt vs ss i a → ArgAt vs ss j a → i = j) (hN : vs.length ≤ N.length) : Rep K (pnOf vs ss) F H (start N vs) (env0 (N.length - vs.length) ss) := by
  have own : ∀ i b, OwnAt (start N vs) (env0 (N.length - vs.length) ss) i b → ArgAt vs ss i b := fun i b ⟨h1, h2⟩ => by
    rw [slV_start] at h1
    rw [slD_env0] at h2
    refine ⟨h1, ?_⟩
    cases e : ss[i]? with
    | none => rw [e] at h2; cases h2
    | some u =>
      rw [e] at h2
      obtain ⟨v, _, q⟩ := a.at e
      cases u with
      | arg k => exact ⟨k, rfl⟩
      | val d => cases h2
      | scr d => cases h2
      | own d => exact False.elim q
      | dct d => exact False.elim q
  refine ⟨s, ?_, fun i => ?_, fun i j b h1 h2 => inj i j b (own i b h1) (own j b h2), fun i b e => ?_⟩
  · unfold start env0
    rw [List.length_append, List.length_append, List.length_map, List.length_map, List.length_replicate, List.length_replicate, a.len]
  · rw [slV_start, slD_env0]
    cases e : ss[i]? with
    | none => trivial
    | some u =>
      obtain ⟨v, e1, q⟩ := a.at e
      rw [e1]
      cases u with
      | val d => exact ⟨v, rfl, q⟩
      | scr ns => obtain ⟨b, rfl, h⟩ := q; exact ⟨b, rfl, h⟩
      | own d => exact False.elim q
      | dct d => exact False.elim q
      | arg k =>
        obtain ⟨b, rfl, h⟩ := q
        exact ⟨b, rfl, by unfold pnOf; rw [e, e1], h⟩
  · rw [slD_env0]
    unfold pnOf at e
    split at e
    · rename_i k b2 e1 e2
      exact ⟨k, e1⟩
    · cases e
theorem aft_of {F' H' : Hp} {σ' : St} {ρ' : En} (a : ArgsOk K F H vs ss) (g : Go K (pnOf vs ss) F H (start N vs) (env0 (N.length - vs.length) ss) F' H' σ' ρ') : Aft K F H F' H' vs ss (outs ρ' 0 ss) := by
  have own : ∀ b, Owned (start N vs) (env0 (N.length - vs.length) ss) b → ArgIn vs ss b := fun b ⟨i, h1, h2⟩ => by
    rw [slV_start] at h1
    rw [slD_env0] at h2
    refine ⟨i, h1, ?_⟩
    cases e : ss[i]? with
    | none => rw [e] at h2; cases h2
    | some u =>
      rw [e] at h2
      obtain ⟨v, _, q⟩ := a.at e
      cases u with
      | arg k => exact ⟨k, rfl⟩
      | val d => cases h2
      | scr d => cases h2
      | own d => exact False.elim q
      | dct d => exact False.elim q
  refine ⟨g.fro, g.rep.sub, fun i kvs e => ?_, fun b h n => g.old b h fun o => n (own b o), fun b o h n => g.kept b o h fun o => n (own b o), g.alive⟩
  obtain ⟨⟨k, e1⟩, h2⟩ := outs_at ρ' ss i 0 kvs e
  rw [Nat.zero_add] at h2
  obtain ⟨v, e2, q⟩ := a.at e1
  obtain ⟨b, rfl, _⟩ := q
  have pb : pnOf vs ss i = some b := by unfold pnOf; rw [e1, e2]
  obtain ⟨l, e3⟩ := g.rep.pin i b pb
  rcases h2 with h2 | h2
  · have q := g.rep.at_ i
    rw [h2] at q
    obtain ⟨c, _, q2, q3⟩ := q
    rw [pb] at q2; cases q2
    exact ⟨b, e2, q3⟩
  · exact absurd e3 (h2 l)
end
/-- a def at f keeps the promise sp wherever nothing is being shown (A.guards) -/
structure FnA (P : Program) (w : World) (K : PySem.W.Frag) (mg : Str → Option Value) (base : Heap) (k : Nat) (f : Addr) (fd : FuncData) (ps : List Str) (sp : Sp) : Prop where
  len : ∀ vs H Q E, sp vs H Q E → vs.length = ps.length
  run : ∀ (A : Around) (outer : List Env) (s : Shared) (H : Hp) (args : Args) (us : List Value) (vs : List V) (Q : VK) (E : XK), A.guards = some [] → Room k A → Env0 P w K mg base A outer s H →
    BindsTo s fd args (ps.zip us) → Vals vs us → sp vs H Q E → codeAny (model P w) A (.call (.ref f) args) (CR CX0 outer P w H s Q E) s
theorem FnA.mono {P : Program} {w : World} {K : PySem.W.Frag} {mg : Str → Option Value} {base : Heap} {j k : Nat} {f : Addr} {fd : FuncData} {ps : List Str} {sp : Sp} (F : FnA P w K mg base j f fd ps sp) (h : j ≤ k) : FnA P w K mg base k f fd ps sp :=
  ⟨F.len, fun A outer s H args us vs Q E hg hr => F.run A outer s H args us vs Q E hg (hr.mono h)⟩
theorem fnA_of {P : Program} {w : World} {K : PySem.W.Frag} {mg : Str → Option Value} {base : Heap} {k : Nat} {f : Addr} {name qual : Str} {params : Arguments} {body : List Stmt} {scope : Scope} {dV kV doc pm cdv ct oc : Value} {an od : Option Addr}
    {osl : Array (Option Value)} {N ps : List Str} {sp : Sp} (lk : K.lookup f = some ⟨oc, od, .func (PySem.W.fnOf name qual params body scope dV kV doc pm an cdv ct), osl⟩) (hcd : PySem.W.codeIn K cdv qual = true) (S : FnScope N ps scope) (len : ∀ vs H Q E, sp vs H Q E → vs.length = ps.length)
    (hbody : ∀ (A : Around) (outer : List Env) (s : Shared) (H : Hp) (vs : List V) (Q : VK) (E : XK), A.guards = some [] → Room k (A.deeper (envOfC qual scope s.heap.objs.size f cdv)) → sp vs H Q E →
      ∃ t, PSs (cxOf CX0 P w K mg base N qual scope f cdv A outer s H E) body t ∧ t { nx := fun _ H' => Q .non H', rt := Q } (start N vs) H) :
    FnA P w K mg base (k + 1) f (PySem.W.fnOf name qual params body scope dV kV doc pm an cdv ct) ps sp := by
  constructor
  · exact len
  intro A outer s H args us vs Q E guard room e0 bnd vals want
  have lens := len vs H Q E want
  have inK : K.In s.heap := e0.mod.kin.keeps fun b o q => And.left (e0.bs b o q)
  have nolim : s.heap.NoLimit := e0.mod.nolimit.keeps fun b o q => And.left (e0.bs b o q)
  have places : ∀ y ∈ ps.zip us, scope.names.lookup y.1 = some .local ∨ (scope.names.lookup y.1 = some .cell ∧ ((cellsFrom (s.heap.objs.size + 1) scope.names []).lookup y.1).isSome = true) := by
    rintro ⟨n, v⟩ hy
    cases S.par n (List.of_mem_zip hy).1 with
    | inl q => exact Or.inl q
    | inr q => exact Or.inr ⟨q, PySem.W.cellsFrom_some _ _ _ (Or.inl q)⟩
  apply codeAny_call_function room.depth (inK _ _ lk) rfl S.co S.gen rfl (PySem.W.codeRec_of inK hcd)
  apply bnd
  apply wpAny_newFunctionEnv_cells S.kind places
  rintro env rfl s1 ic
  refine ⟨nolim.keeps ic.toInCall.keep, codeAny_func ?_⟩
  obtain ⟨t, ht, hq⟩ := hbody A outer s H vs Q E guard (Room.deeper room _) want
  have I := inv_start (CX := CX0) (mg := mg) (E := E) S room.hd e0 lens vals ic
  have fin : ∀ {σ' : St} {H' : Hp} {v : V} {u : Value} {s' : Shared}, Inv (cxOf CX0 P w K mg base N qual scope f cdv A outer s H E) [] σ' H' s' → RelV v u → Q v H' → CE outer P w H s Q u s' := by
    intro σ' H' v u s' J rv q
    exact ⟨v, H', J.os, J.bare, J.base, J.hok, rv, q⟩
  refine wpAny_mono (ht.run [] s1 (start N vs) H _ I hq) ?_ (fun e s' h => h)
  intro fl s' hs
  match fl, hs with
  | .ret u, ⟨v, σ', H', J, rv, q⟩ => exact fin J rv q
  | .next, ⟨σ', H', J, q⟩ => exact fin (v := V.non) (u := Value.none) J rfl q
  | .brk, ⟨_, _, _, q⟩ => exact q.elim
  | .cont, ⟨_, _, _, q⟩ => exact q.elim
/-- a def of the text, by its body's denotation -/
theorem fn_bl {P : Program} {w : World} {K : PySem.W.Frag} {mg : Str → Option Value} {base : Heap} {k : Nat} {f : Addr} {fd : FuncData} {x qual : Str} {params : Arguments} {body : List Stmt} {scope : Scope} {N ps : List Str} {g : En → RS}
    (F : ∃ (oc : Value) (od : Option Addr) (dV kV doc pm : Value) (an : Option Addr) (cdv ct : Value) (osl : Array (Option Value)), fd = PySem.W.fnOf x qual params body scope dV kV doc pm an cdv ct ∧ K.lookup f = some ⟨oc, od, .func fd, osl⟩ ∧ PySem.W.codeIn K cdv qual = true)
    (S : FnScope N ps scope) (hN : ps.length ≤ N.length)
    (hb : ∀ X : Cx, X.K = K → X.prog = P → X.w = w → X.mg = mg → X.base = base → X.N = N → X.env.scope = scope → X.calm = true → X.A.guards = some [] → Room k X.A → (X.fn = fun _ => true) → PassesOwn (model X.prog X.w) X.A X.env X.xe → ∃ t, Bl X body t g) :
    FnA P w K mg base (k + 1) f fd ps (spG K ps.length (fnOf (N.length - ps.length) g)) := by
  obtain ⟨oc, od, dV, kV, doc, pm, an, cdv, ct, osl, rfl, lk, hcd⟩ := F
  refine fnA_of lk hcd S (fun vs H Q E h => h.1) fun A outer s H vs Q E hg hr h => ?_
  obtain ⟨hl, F, ss, r, ss', s1, a, inj, e, kk⟩ := h
  obtain ⟨t, ht⟩ := hb (cxOf CX0 P w K mg base N qual scope f cdv A outer s H E).nox rfl rfl rfl rfl rfl rfl rfl rfl hg hr rfl PassesOwn.never
  refine ⟨t, ht.p.nox, ?_⟩
  refine ht.s (pnOf vs ss) F H (start N vs) _ _ (rep_start s1 a inj (by rw [hl]; exact hN)) ?_
  unfold fnOf at e
  rw [hl]
  cases z : g (env0 (N.length - ps.length) ss) with
  | nx ρ' =>
    rw [z] at e; cases e
    intro σ' F' H' go
    rw [← hl] at go
    exact kk .non F' H' (aft_of a go) .non
  | ret d ρ' =>
    rw [z] at e; cases e
    intro v σ' F' H' go hv
    rw [← hl] at go
    exact kk v F' H' (aft_of a go) hv
  | retK d ρ' =>
    rw [z] at e; cases e
    intro b σ' F' H' go hv hn h0
    rw [← hl] at go
    exact kk (.ref b) F' H' (aft_of a go) ⟨b, rfl, hv, h0⟩
  | bk ρ' => rw [z] at e; cases e
  | ct ρ' => rw [z] at e; cases e
  | no => rw [z] at e; cases e
end L2.G

namespace L2.G
open PySem PySem.Spec PyProof.Rows

/-! ## calls of defs -/
def pick {α : Type} (ord : List Nat) (l : List α) : List α := ord.filterMap fun i => l[i]?
theorem vals_pick {vs : List V} {us : List Value} (r : Vals vs us) : ∀ ord : List Nat, Vals (pick ord vs) (pick ord us)
  | [] => .nil
  | i :: ord => by
    unfold pick
    cases e : vs[i]? with
    | none =>
      rw [List.filterMap_cons_none e, List.filterMap_cons_none (r.none_of e)]
      exact vals_pick r ord
    | some v =>
      obtain ⟨u, e2, q⟩ := r.get e
      rw [List.filterMap_cons_some e, List.filterMap_cons_some e2]
      exact .cons q (vals_pick r ord)
section
variable {K : PySem.W.Frag} {P : Pn} {F H F1 H1 F2 H2 H0 : Hp} {σ : St} {ρ ρ1 : En}
theorem VsOk.len : ∀ {vs : List V} {as : List AV}, VsOk K F H σ ρ H0 vs as → vs.length = as.length
  | _, _, .nil => rfl
  | _, _, .cons _ t => by rw [List.length_cons, List.length_cons, VsOk.len t]
theorem VsOk.get : ∀ {vs : List V} {as : List AV} {i : Nat} {v : V}, VsOk K F H σ ρ H0 vs as → vs[i]? = some v → ∃ a, as[i]? = some a ∧ AvOk K F H σ ρ H0 v a
  | _, _, _, _, .nil, e => by simp at e
  | _, _, 0, _, .cons h _, e => by simp at e; subst e; exact ⟨_, rfl, h⟩
  | _, _, i + 1, v, .cons _ t, e => by
    obtain ⟨d, h1, h2⟩ := VsOk.get (i := i) (v := v) t (by simpa using e)
    exact ⟨d, by simpa using h1, h2⟩
theorem VsOk.pick {vs : List V} {as : List AV} (r : VsOk K F H σ ρ H0 vs as) : ∀ ord : List Nat, VsOk K F H σ ρ H0 (G.pick ord vs) (G.pick ord as)
  | [] => .nil
  | i :: ord => by
    unfold G.pick
    cases e : vs[i]? with
    | none =>
      have e2 : as[i]? = none := by
        rw [List.getElem?_eq_none_iff] at e ⊢
        rw [← r.len]; exact e
      rw [List.filterMap_cons_none e, List.filterMap_cons_none e2]
      exact VsOk.pick r ord
    | some v =>
      obtain ⟨u, e2, q⟩ := r.get e
      rw [List.filterMap_cons_some e, List.filterMap_cons_some e2]
      exact .cons q (VsOk.pick r ord)
theorem VsOk.app : ∀ {vs ws : List V} {as bs : List AV}, VsOk K F H σ ρ H0 vs as → VsOk K F H σ ρ H0 ws bs → VsOk K F H σ ρ H0 (vs ++ ws) (as ++ bs)
  | _, _, _, _, .nil, q => q
  | _, _, _, _, .cons h t, q => .cons h (VsOk.app t q)
end
def argOf (ρ : En) : AV → Option Sl
  | .d d => some (.val d)
  | .k kvs => some (.arg kvs)
  | .s i => match slD ρ i with
    | some (.val d) => some (.val d)
    | some (.scr ns) => some (.scr ns)
    | some (.dct kvs) => some (.arg kvs)
    | some (.arg kvs) => some (.arg kvs)
    | _ => none
def argsOf (ρ : En) : List AV → Option (List Sl)
  | [] => some []
  | a :: r => match argOf ρ a, argsOf ρ r with
    | some s, some ss => some (s :: ss)
    | _, _ => none
/-- one dict at most -/
def one : List Sl → Bool
  | [] => true
  | s :: r => if isArg s = true then r.all (fun t => !isArg t) else one r
theorem one_at : ∀ {ss : List Sl} {i j : Nat} {k l : List (Key × D)}, one ss = true → ss[i]? = some (Sl.arg k) → ss[j]? = some (Sl.arg l) → i = j
  | [], i, _, _, _, _, e, _ => by simp at e
  | s :: r, 0, 0, _, _, _, _, _ => rfl
  | s :: r, 0, j + 1, k, l, o, e1, e2 => by
    have e1 : s = .arg k := by simpa using e1
    subst e1
    have e2 : r[j]? = some (Sl.arg l) := by simpa using e2
    unfold one at o
    rw [if_pos (show isArg (Sl.arg _) = true from rfl)] at o
    have := List.all_eq_true.mp o _ (List.mem_of_getElem? e2)
    cases this
  | s :: r, i + 1, 0, k, l, o, e1, e2 => by
    have e2 : s = .arg l := by simpa using e2
    subst e2
    have e1 : r[i]? = some (Sl.arg k) := by simpa using e1
    unfold one at o
    rw [if_pos (show isArg (Sl.arg _) = true from rfl)] at o
    have := List.all_eq_true.mp o _ (List.mem_of_getElem? e1)
    cases this
  | s :: r, i + 1, j + 1, k, l, o, e1, e2 => by
    have e1 : r[i]? = some (Sl.arg k) := by simpa using e1
    have e2 : r[j]? = some (Sl.arg l) := by simpa using e2
    unfold one at o
    split at o
    · have := List.all_eq_true.mp o _ (List.mem_of_getElem? e1)
      cases this
    · rw [one_at o e1 e2]
/-- the slot whose dict the call has changed -/
def refOf : List AV → List Sl → List Sl → Option (Nat × List (Key × D))
  | .s i :: as, .arg _ :: ss, .arg kvs :: ss' => some (i, kvs)
  | _ :: as, _ :: ss, _ :: ss' => refOf as ss ss'
  | _, _, _ => none
def putBack (ρ : En) (as : List AV) (ss ss' : List Sl) : En := match refOf as ss ss' with
  | some (i, kvs) => dctTo ρ i kvs
  | none => ρ
def callR (fn : Fn) (ρ : En) (as : List AV) : R Rt2 := match argsOf ρ as with
  | some ss => if one ss = true then match fn ss with
    | .ok r ss' => if ss'.map isArg = ss.map isArg then .ok r (putBack ρ as ss ss') else .no
    | .no => .no
    else .no
  | none => .no
section
variable {K : PySem.W.Frag} {P : Pn} {F H F1 H1 : Hp} {σ : St} {ρ ρ1 : En}
theorem argOf_ok (r : Rep K P F1 H1 σ ρ1) {v : V} {a : AV} {s : Sl} {H0 : Hp} (h : AvOk K F1 H1 σ ρ1 H0 v a) (e : argOf ρ1 a = some s) : SlArg K F1 H1 v s := by
  cases a with
  | d d => cases e; exact h
  | k kvs => cases e; obtain ⟨b, rfl, h, _⟩ := h; exact ⟨b, rfl, h⟩
  | s i =>
    have h : slV σ i = some v := h
    have q := r.at_ i
    rw [h] at q
    unfold argOf at e
    cases z : slD ρ1 i with
    | none => simp only [z] at e; cases e
    | some u =>
      rw [z] at q
      simp only [z] at e
      cases u with
      | val d => cases e; obtain ⟨x, q1, q2⟩ := q; cases q1; exact q2
      | own ds => cases e
      | scr ns => cases e; obtain ⟨b, q1, q2⟩ := q; cases q1; exact ⟨b, rfl, q2⟩
      | dct ds => cases e; obtain ⟨b, q1, q2⟩ := q; cases q1; exact ⟨b, rfl, q2⟩
      | arg ds => cases e; obtain ⟨b, q1, _, q2⟩ := q; cases q1; exact ⟨b, rfl, q2⟩
theorem argsOf_ok (r : Rep K P F1 H1 σ ρ1) {H0 : Hp} : ∀ {vs : List V} {as : List AV} {ss : List Sl}, VsOk K F1 H1 σ ρ1 H0 vs as → argsOf ρ1 as = some ss → ArgsOk K F1 H1 vs ss
  | _, _, _, .nil, e => by cases e; exact .nil
  | _, _, _, .cons h t, e => by
    unfold argsOf at e
    split at e
    · rename_i b cs e1 e2
      cases e
      exact .cons (argOf_ok r h e1) (argsOf_ok r t e2)
    · cases e
/-- which dict is at stake -/
theorem refOf_some : ∀ {as : List AV} {ss ss' : List Sl} {i : Nat} {kvs : List (Key × D)}, refOf as ss ss' = some (i, kvs) → ∃ (p : Nat) (k : List (Key × D)), as[p]? = some (AV.s i) ∧ ss[p]? = some (Sl.arg k) ∧ ss'[p]? = some (Sl.arg kvs)
  | a :: as, s :: ss, s' :: ss', i, kvs, e => by
    have rest : refOf as ss ss' = some (i, kvs) → ∃ (p : Nat) (k : List (Key × D)), (a :: as)[p]? = some (AV.s i) ∧ (s :: ss)[p]? = some (Sl.arg k) ∧ (s' :: ss')[p]? = some (Sl.arg kvs) := fun e => by
      obtain ⟨p, k, h1, h2, h3⟩ := refOf_some e
      exact ⟨p + 1, k, by simpa using h1, by simpa using h2, by simpa using h3⟩
    unfold refOf at e
    split at e
    · rename_i h1 h2 h3
      cases h1; cases h2; cases h3; cases e
      exact ⟨0, _, rfl, rfl, rfl⟩
    · rename_i h1 h2 h3
      cases h1; cases h2; cases h3
      exact rest e
    · cases e
  | [], ss, ss', i, kvs, e => by
    have : refOf [] ss ss' = none := by cases ss <;> rfl
    rw [this] at e; cases e
  | a :: as, [], ss', i, kvs, e => by
    have : refOf (a :: as) [] ss' = none := by cases a <;> rfl
    rw [this] at e; cases e
  | a :: as, s :: ss, [], i, kvs, e => by
    have : refOf (a :: as) (s :: ss) [] = none := by cases a <;> cases s <;> rfl
    rw [this] at e; cases e
theorem refOf_none : ∀ {as : List AV} {ss ss' : List Sl} {p i : Nat} {k kvs : List (Key × D)}, refOf as ss ss' = none → as[p]? = some (AV.s i) → ss[p]? = some (Sl.arg k) → ss'[p]? = some (Sl.arg kvs) → False
  | [], _, _, p, _, _, _, _, h, _, _ => by simp at h
  | _ :: _, [], _, p, _, _, _, _, _, h, _ => by simp at h
  | _ :: _, _ :: _, [], p, _, _, _, _, _, _, h => by simp at h
  | a :: as, s :: ss, s' :: ss', 0, i, k, kvs, e, h1, h2, h3 => by
    have h1 : a = .s i := by simpa using h1
    have h2 : s = .arg k := by simpa using h2
    have h3 : s' = .arg kvs := by simpa using h3
    subst h1 h2 h3
    simp [refOf] at e
  | a :: as, s :: ss, s' :: ss', p + 1, i, k, kvs, e, h1, h2, h3 => by
    refine refOf_none (as := as) (ss := ss) (ss' := ss') (p := p) ?_ (by simpa using h1) (by simpa using h2) (by simpa using h3)
    unfold refOf at e
    split at e
    · cases e
    · rename_i q1 q2 q3
      cases q1; cases q2; cases q3
      exact e
    · rename_i q
      exact absurd rfl (q a as s ss s' ss' rfl rfl)
theorem arg_back {ss ss' : List Sl} (h : ss'.map isArg = ss.map isArg) {p : Nat} {k : List (Key × D)} (e : ss[p]? = some (Sl.arg k)) : ∃ l, ss'[p]? = some (Sl.arg l) := by
  have q : (ss'.map isArg)[p]? = some true := by rw [h, List.getElem?_map, e]; rfl
  rw [List.getElem?_map] at q
  cases z : ss'[p]? with
  | none => rw [z] at q; cases q
  | some u =>
    rw [z] at q
    cases u with
    | arg l => exact ⟨l, rfl⟩
    | _ => cases q
theorem argsOf_at : ∀ {as : List AV} {ss : List Sl} {p : Nat} {s : Sl}, argsOf ρ1 as = some ss → ss[p]? = some s → ∃ a, as[p]? = some a ∧ argOf ρ1 a = some s
  | [], _, p, _, e, h => by cases e; simp at h
  | a :: as, ss, p, s, e, h => by
    unfold argsOf at e
    split at e
    · rename_i b cs e1 e2
      cases e
      cases p with
      | zero => exact ⟨a, rfl, by rw [e1]; simpa using h⟩
      | succ p =>
        obtain ⟨c, h1, h2⟩ := argsOf_at (p := p) e2 (by simpa using h)
        exact ⟨c, by simpa using h1, h2⟩
    · cases e
/-- behind the call -/
theorem call_go (g : Go K P F H σ ρ F1 H1 σ ρ1) {vs : List V} {as : List AV} {ss ss' : List Sl} {F' H' : Hp} (h : VsOk K F1 H1 σ ρ1 H vs as) (e : argsOf ρ1 as = some ss) (o : one ss = true) (eq : ss'.map isArg = ss.map isArg) (a : Aft K F1 H1 F' H' vs ss ss') :
    Go K P F H σ ρ F' H' σ (putBack ρ1 as ss ss') := by
  have hargs := argsOf_ok g.rep h e
  -- who stands at stake: the address, whose it is
  have keep : ∀ b, H1 b ≠ none → ¬ ArgIn vs ss b → F' b = F1 b ∧ H' b = H1 b := fun b hb n => by
    refine ⟨a.old b hb n, ?_⟩
    cases z : H1 b with
    | none => exact absurd z hb
    | some u => exact a.kept b u z n
  have slot : ∀ j, (∀ b, OwnAt σ ρ1 j b → ¬ ArgIn vs ss b) → SlOk K P F' H' j (slV σ j) (slD ρ1 j) := fun j hn => by
    have q := g.rep.at_ j
    have nb : ∀ b, slV σ j = some (.ref b) → isOwn (slD ρ1 j) = true → H1 b ≠ none → F' b = F1 b ∧ H' b = H1 b := fun b e1 e2 hb => keep b hb (hn b ⟨e1, e2⟩)
    cases es : slD ρ1 j with
    | none => trivial
    | some u =>
      rw [es] at q nb
      cases u with
      | val d => obtain ⟨x, e, h⟩ := q; exact ⟨x, e, dp_mono a.fro h⟩
      | scr ns => obtain ⟨b, e, h⟩ := q; exact ⟨b, e, Same.seq a.fro h⟩
      | own ds => obtain ⟨b, e, f, xs, h, t⟩ := q; obtain ⟨q1, q2⟩ := nb b e rfl (by rw [h]; exact (fun z => nomatch z)); exact ⟨b, e, by rw [q1]; exact f, xs, by rw [q2]; exact h, dpa_mono a.fro t⟩
      | dct ds => obtain ⟨b, e, f, xs, h, t⟩ := q; obtain ⟨q1, q2⟩ := nb b e rfl (by rw [h]; exact (fun z => nomatch z)); exact ⟨b, e, by rw [q1]; exact f, xs, by rw [q2]; exact h, kvd_mono a.fro t⟩
      | arg ds => obtain ⟨b, e, p, f, xs, h, t⟩ := q; obtain ⟨q1, q2⟩ := nb b e rfl (by rw [h]; exact (fun z => nomatch z)); exact ⟨b, e, p, by rw [q1]; exact f, xs, by rw [q2]; exact h, kvd_mono a.fro t⟩
  -- an argument that is a dict: a slot's, or new
  have who : ∀ b, ArgIn vs ss b → (∃ p i, as[p]? = some (AV.s i) ∧ OwnAt σ ρ1 i b ∧ vs[p]? = some (V.ref b) ∧ (∃ k, ss[p]? = some (Sl.arg k))) ∨ (¬ Owned σ ρ1 b ∧ H b = none) := fun b ⟨p, h1, k, h2⟩ => by
    obtain ⟨c, e1, e2⟩ := argsOf_at e h2
    obtain ⟨c', e3, hav⟩ := h.get h1
    rw [e1] at e3; cases e3
    cases c with
    | d d => cases e2
    | k kvs => obtain ⟨b', eb, _, n, z⟩ := hav; cases eb; exact .inr ⟨n, z⟩
    | s i =>
      have hav : slV σ i = some (.ref b) := hav
      refine .inl ⟨p, i, e1, ⟨hav, ?_⟩, h1, k, h2⟩
      unfold argOf at e2
      cases z : slD ρ1 i with
      | none => simp only [z] at e2; cases e2
      | some u =>
        simp only [z] at e2
        cases u with
        | val d => cases e2
        | own ds => cases e2
        | scr ns => cases e2
        | dct ds => rfl
        | arg ds => rfl
  have argOne : ∀ p q b c, ArgAt vs ss p b → ArgAt vs ss q c → p = q := fun p q b c ⟨_, k, h1⟩ ⟨_, l, h2⟩ => one_at o h1 h2
  unfold putBack
  cases rf : refOf as ss ss' with
  | none =>
    -- no slot's dict is at stake
    have noOwn : ∀ j b, OwnAt σ ρ1 j b → ¬ ArgIn vs ss b := fun j b oj hb => by
      rcases who b hb with ⟨p, i, e1, _, _, k, h2⟩ | ⟨n, _⟩
      · obtain ⟨l, h3⟩ := arg_back eq h2
        exact refOf_none rf e1 h2 h3
      · exact n ⟨j, oj⟩
    refine ⟨⟨a.sub, g.rep.len, fun j => slot j (noOwn j), g.rep.inj, g.rep.pin⟩, g.fro.trans a.fro, fun b hb n => ?_, fun b u hb n => ?_, g.own, fun b hb => a.alive b (g.alive b hb)⟩
    · have h1 : H1 b ≠ none := g.alive b hb
      have n1 : ¬ ArgIn vs ss b := fun q => by
        rcases who b q with ⟨p, i, e1, oi, _, k, h2⟩ | ⟨_, z⟩
        · exact noOwn i b oi q
        · exact hb z
      rw [(keep b h1 n1).1, g.old b hb n]
    · have n1 : ¬ ArgIn vs ss b := fun q => by
        rcases who b q with ⟨p, i, e1, oi, _, k, h2⟩ | ⟨_, z⟩
        · exact noOwn i b oi q
        · rw [hb] at z; cases z
      exact a.kept b u (g.kept b u hb n) n1
  | some ik =>
    obtain ⟨i, kvs⟩ := ik
    obtain ⟨p, k, e1, e2, e3⟩ := refOf_some rf
    obtain ⟨b, ev, hd⟩ := a.args p kvs e3
    have hat : ArgAt vs ss p b := ⟨ev, k, e2⟩
    have only : ∀ c, ArgIn vs ss c → c = b := fun c ⟨q, hc⟩ => by
      have := argOne q p c b hc hat
      subst this
      have h1 := hc.1
      rw [ev] at h1
      cases h1; rfl
    have ob : OwnAt σ ρ1 i b := by
      rcases who b ⟨p, hat⟩ with ⟨p', i', e1', oi, ev', k', h2'⟩ | ⟨n, z⟩
      · have := one_at o h2' e2
        subst this
        rw [e1] at e1'; cases e1'
        exact oi
      · obtain ⟨c, e4, hav⟩ := h.get ev
        rw [e1] at e4; cases e4
        have hav : slV σ i = some (.ref b) := hav
        obtain ⟨c, e5, e6⟩ := argsOf_at e e2
        rw [e1] at e5; cases e5
        refine ⟨hav, ?_⟩
        unfold argOf at e6
        cases w : slD ρ1 i with
        | none => simp only [w] at e6; cases e6
        | some u =>
          simp only [w] at e6
          cases u with
          | val d => cases e6
          | own ds => cases e6
          | scr ns => cases e6
          | dct ds => rfl
          | arg ds => rfl
    have hi : i < ρ1.length := by
      have q := ob.2
      cases w : slD ρ1 i with
      | none => rw [w] at q; cases q
      | some u => exact slD_lt w
    have kind : ∃ s, dctTo ρ1 i kvs = ρ1.set i (some s) ∧ isOwn (some s) = true ∧ SlOk K P F' H' i (some (.ref b)) (some s) ∧ (∀ c, P i = some c → ∃ l, s = .arg l) := by
      have q := g.rep.at_ i
      rw [ob.1] at q
      obtain ⟨c, e5, e6⟩ := argsOf_at e e2
      rw [e1] at e5; cases e5
      unfold argOf at e6
      unfold dctTo
      cases w : slD ρ1 i with
      | none => simp only [w] at e6; cases e6
      | some u =>
        rw [w] at q
        simp only [w] at e6
        cases u with
        | val d => cases e6
        | own ds => cases e6
        | scr ns => cases e6
        | dct ds =>
          refine ⟨.dct kvs, rfl, rfl, ⟨b, rfl, hd⟩, fun c pc => ?_⟩
          obtain ⟨l, q2⟩ := g.rep.pin i c pc
          rw [w] at q2; cases q2
        | arg ds =>
          obtain ⟨c, q1, q2, _⟩ := q
          cases q1
          exact ⟨.arg kvs, rfl, rfl, ⟨b, rfl, q2, hd⟩, fun c pc => ⟨kvs, rfl⟩⟩
    obtain ⟨s, es, os, hs, hp⟩ := kind
    show Go K P F H σ ρ F' H' σ (dctTo ρ1 i kvs)
    rw [es]
    have ow : ∀ j c, OwnAt σ (ρ1.set i (some s)) j c ↔ OwnAt σ ρ1 j c := fun j c => by
      unfold OwnAt
      rw [slD_set i j _ hi]
      by_cases z : j = i
      · subst z
        rw [if_pos rfl, os]
        exact ⟨fun h => ⟨h.1, ob.2⟩, fun h => ⟨h.1, rfl⟩⟩
      · rw [if_neg z]
    refine ⟨⟨a.sub, by rw [List.length_set]; exact g.rep.len, fun j => ?_, fun j l c x y => g.rep.inj j l c ((ow j c).mp x) ((ow l c).mp y), fun j c pc => ?_⟩, g.fro.trans a.fro, fun c hc n => ?_, fun c u hc n => ?_, fun c ⟨j, x⟩ hc => g.own c ⟨j, (ow j c).mp x⟩ hc, fun c hc => a.alive c (g.alive c hc)⟩
    · rw [slD_set i j _ hi]
      by_cases z : j = i
      · subst z; rw [if_pos rfl, ob.1]; exact hs
      · rw [if_neg z]
        exact slot j fun c oc hc => z (g.rep.inj j i c oc (by rw [only c hc]; exact ob))
    · rw [slD_set i j _ hi]
      by_cases z : j = i
      · subst z
        obtain ⟨l, q⟩ := hp c pc
        exact ⟨l, by rw [if_pos rfl, q]⟩
      · rw [if_neg z]; exact g.rep.pin j c pc
    · have h1 : H1 c ≠ none := g.alive c hc
      have n1 : ¬ ArgIn vs ss c := fun q => n (g.own c ⟨i, (only c q) ▸ ob⟩ hc)
      rw [(keep c h1 n1).1, g.old c hc n]
    · have n1 : ¬ ArgIn vs ss c := fun q => n (g.own c ⟨i, (only c q) ▸ ob⟩ (by rw [hc]; exact (fun z => nomatch z)))
      exact a.kept c u (g.kept c u hc n) n1
end
end L2.G

namespace L2.G
open PySem PySem.Spec PyProof.Rows

/-! ## the rules for calls -/
theorem VsOk.go {K : PySem.W.Frag} {P : Pn} {F H F1 H1 H0 : Hp} {σ : St} {ρ ρ1 : En} (g : Go K P F H σ ρ F1 H1 σ ρ1) : ∀ {vs : List V} {as : List AV}, VsOk K F H σ ρ H0 vs as → VsOk K F1 H1 σ ρ1 H0 vs as
  | _, _, .nil => .nil
  | _, _, .cons h t => .cons (h.go g) (VsOk.go g t)
/-- how a call with n positional and the keyword arguments ks binds: ord says for each parameter which of them (positional, keyword, default) it is -/
def BindK (K : PySem.W.Frag) (fd : FuncData) (ps ks : List Str) (n : Nat) (ord : List Nat) (ds : List Value) : Prop :=
  ∀ (s : Shared) (us ws : List Value), K.In s.heap → us.length = n → ws.length = ks.length → BindsTo s fd ⟨us, ks.zip ws⟩ (ps.zip (pick ord (us ++ ws ++ ds)))
/-- a callee as it is known: its address, its contract, and where its name stands -/
structure Fk (X : Cx) (x : Str) (k : Nat) (fd : FuncData) (ps : List Str) (fn : Fn) : Prop where
  ex : ∃ f : Addr, FnA X.prog X.w X.K X.mg X.base k f fd ps (spG X.K ps.length fn) ∧ X.mg x = some (.ref f) ∧ PySem.W.keepIn X.K (.ref f) = true
/-- arguments: positional, then by keywords -/
structure Ks (X : Cx) (kws : List Keyword) (t : TA) (f : En → R (List AV)) : Prop where
  p : PK X kws t
  s : SA X.K t f
def tCallG (sp : Sp) (n m : Nat) (ord : List Nat) (dvs : List V) (t tk : TA) : TE := fun σ H Q => t σ H fun vs H1 => tk σ H1 fun zs H2 => vs.length = n ∧ zs.length = m ∧ sp (pick ord (vs ++ zs ++ dvs)) H2 Q E0
def dArgs (fa fk : En → R (List AV)) (ord : List Nat) (dds : List D) : En → R (List AV) := fun ρ => (fa ρ).bind fun as ρ1 => (fk ρ1).bind fun bs ρ2 => .ok (pick ord (as ++ bs ++ dds.map .d)) ρ2
def dCall (fn : Fn) (fa : En → R (List AV)) : En → R Rt2 := fun ρ => (fa ρ).bind fun as ρ' => callR fn ρ' as
def dCallD (fn : Fn) (fa : En → R (List AV)) : En → R D := fun ρ => (dCall fn fa ρ).bind fun r ρ' => match r with
  | .d d => .ok d ρ'
  | .k _ => .no
def dCallK (fn : Fn) (fa : En → R (List AV)) : En → R (List (Key × D)) := fun ρ => (dCall fn fa ρ).bind fun r ρ' => match r with
  | .k d => .ok d ρ'
  | .d _ => .no
section
variable {X : Cx} {k : Nat} {fd : FuncData} {ps ks : List Str} {fn : Fn} {x : Str} {p pos : Pos} {e : Expr} {es : List Expr} {kws : List Keyword} {t tk : TA} {fa fk : En → R (List AV)} {n : Nat} {ord : List Nat} {ds : List Value} {dvs : List V} {dds : List D}
theorem k_nil : Ks X [] tNil dNil := ⟨pk_nil, fun P F H σ ρ d ρ' Q r e k => by cases e; exact k [] F H (.refl r) .nil⟩
theorem k_cons {te : TE} {nm : Option Str} {kpos : Pos} {f : En → R D} (ha : Ex X e te f) (hb : Ks X kws t fk) : Ks X (⟨nm, e, kpos⟩ :: kws) (tCons te t) (dConsD f fk) := by
  refine ⟨pk_cons ha.p hb.p, fun P F H σ ρ d ρ' Q r e k => ?_⟩
  obtain ⟨x, ρ1, e1, e⟩ := Rb e
  obtain ⟨xs, ρ2, e2, e⟩ := Rb e
  cases e
  refine ha.s P F H σ ρ x ρ1 _ r e1 fun v F1 H1 g1 h1 => ?_
  exact hb.s P F1 H1 σ ρ1 xs _ _ g1.rep e2 fun vs F2 H2 g2 h2 => k _ F2 H2 (g1.trans g2) (.cons (show AvOk _ _ _ _ _ _ _ (.d x) from dp_mono (show Same F1 F2 from g2.fro) h1) (h2.weak g1.fresh))
theorem k_op {te : TE} {nm : Option Str} {kpos : Pos} {f : En → R AV} (ha : Op X e te f) (hb : Ks X kws t fk) : Ks X (⟨nm, e, kpos⟩ :: kws) (tCons te t) (dCons f fk) := ⟨pk_cons ha.p hb.p, sa_cons ha.s hb.s⟩
theorem run_fnA {f : Addr} {sp : Sp} {pins : List (Addr × Obj)} {σ : St} {H : Hp} {s : Shared} {Q : VK} {us ws : List Value} {vs zs : List V} (F : FnA X.prog X.w X.K X.mg X.base k f fd ps sp) (hg : X.A.guards = some []) (hr : Room k X.A) (hb : BindK X.K fd ps ks n ord ds) (hd : Vals dvs ds)
    (I : Inv X pins σ H s) (r : Vals vs us) (rz : Vals zs ws) (hn : vs.length = n) (hm : zs.length = ks.length) (h : sp (pick ord (vs ++ zs ++ dvs)) H Q E0) : wpAny (model X.prog X.w) X.A (call (.ref f) us (ks.zip ws)) (EP X pins σ Q) X.xe s := by
  have rr : Vals (pick ord (vs ++ zs ++ dvs)) (pick ord (us ++ ws ++ ds)) := vals_pick ((r.append rz).append hd) ord
  apply wpAny_call
  refine codeAny_mono (F.run X.A X.stack s H ⟨us, ks.zip ws⟩ _ _ Q E0 hg hr I.env0 (hb s us ws I.kIn (by rw [← r.length]; exact hn) (by rw [← rz.length]; exact hm)) rr h) ?_
  intro res s' hq
  match res, hq with
  | .ok (.ret u), hq => exact I.after hq
theorem se_call {f : Addr} {tt : TE} (ht : tt = tCallG (spG X.K ps.length fn) n ks.length ord dvs t tk) (ha : SA X.K t fa) (hk : SA X.K tk fk) (hn : ∀ ρ as ρ', fa ρ = .ok as ρ' → as.length = n) (hm : ∀ ρ as ρ', fk ρ = .ok as ρ' → as.length = ks.length) (ho : ord.length = ps.length) (hor : ∀ i ∈ ord, i < n + ks.length + dds.length) (hd : ∀ F, DvA X.K F dvs dds)
    (P : Pn) (F H : Hp) (σ : St) (ρ ρ' : En) (r : Rt2) (Q : VK) (rep : Rep X.K P F H σ ρ) (e : dCall fn (dArgs fa fk ord dds) ρ = .ok r ρ') (kk : ∀ v F' H', Go X.K P F H σ ρ F' H' σ ρ' → (match r with
      | .d d => Dv X.K F' v d
      | .k kvs => ∃ a, v = .ref a ∧ DctAt X.K F' H' a kvs ∧ H a = none ∧ ¬ Owned σ ρ' a) → Q v H') : tt σ H Q := by
  subst ht
  obtain ⟨as, ρ2, e1, e⟩ := Rb e
  obtain ⟨as1, ρ1, e2, e1⟩ := Rb e1
  obtain ⟨as2, ρ3, e3, e1⟩ := Rb e1
  cases e1
  refine ha P F H σ ρ as1 ρ1 _ rep e2 fun vs F1 H1 g1 h1 => ?_
  refine hk P F1 H1 σ ρ1 as2 ρ2 _ g1.rep e3 fun zs F2 H2 g2 h2 => ?_
  have hvs := hn _ _ _ e2
  have hzs := hm _ _ _ e3
  refine ⟨by rw [h1.len]; exact hvs, by rw [h2.len]; exact hzs, ?_⟩
  have g12 := g1.trans g2
  have hdf : VsOk X.K F2 H2 σ ρ2 H dvs (dds.map .d) := by
    have gen : ∀ {vs : List V} {ds : List D}, DvA X.K F2 vs ds → VsOk X.K F2 H2 σ ρ2 H vs (ds.map .d) := fun {vs ds} h => by
      induction ds generalizing vs with
      | nil => cases h; exact .nil
      | cons d ds ih => cases h with | cons a b => exact .cons a (ih b)
    exact gen (hd F2)
  have h1' : VsOk X.K F2 H2 σ ρ2 H vs as1 := VsOk.go g2 h1
  have hall : VsOk X.K F2 H2 σ ρ2 H (pick ord (vs ++ zs ++ dvs)) (pick ord (as1 ++ as2 ++ dds.map .d)) := ((h1'.app (h2.weak g1.fresh)).app hdf).pick ord
  unfold callR at e
  split at e
  · rename_i ss ea
    split at e
    · rename_i on
      split at e
      · rename_i r' ss' ef
        split at e
        · rename_i eq
          cases e
          have hlen : (pick ord (vs ++ zs ++ dvs)).length = ps.length := by
            rw [← ho]
            have gen : ∀ (o : List Nat) (l : List V), (∀ i ∈ o, i < l.length) → (pick o l).length = o.length := by
              intro o l
              induction o with
              | nil => intro _; rfl
              | cons i o ih =>
                intro h
                unfold pick
                rw [List.filterMap_cons_some (List.getElem?_eq_getElem (h i List.mem_cons_self))]
                show (pick o l).length + 1 = o.length + 1
                rw [ih fun j hj => h j (List.mem_cons_of_mem _ hj)]
            refine gen ord _ fun i hi => ?_
            have q := hor i hi
            rw [List.length_append, List.length_append, h1.len, h2.len, hvs, hzs, dpa_len (hd F2)]
            exact q
          refine ⟨hlen, F2, ss, _, ss', g2.rep.sub, argsOf_ok g2.rep hall ea, fun i j a ⟨_, k1, h3⟩ ⟨_, k2, h4⟩ => one_at on h3 h4, ef, fun v F' H' aft hv => ?_⟩
          have go := call_go g12 hall ea on eq aft
          refine kk v F' H' go ?_
          cases r with
          | d d => exact hv
          | k kvs =>
            obtain ⟨a, rfl, hd2, hz⟩ := hv
            refine ⟨a, rfl, hd2, g12.fresh a hz, fun ow => ?_⟩
            have hne : H2 a ≠ none := by
              have q : Owned σ (putBack ρ2 (pick ord (as1 ++ as2 ++ dds.map .d)) ss ss') a := ow
              have q2 : Owned σ ρ2 a := by
                unfold putBack at q
                split at q
                · rename_i i kvs2 rf
                  obtain ⟨j, q3, q4⟩ := q
                  refine ⟨j, q3, ?_⟩
                  obtain ⟨p1, k1, e5, e6, e7⟩ := refOf_some rf
                  obtain ⟨c, e8, e9⟩ := argsOf_at ea e6
                  rw [e5] at e8; cases e8
                  unfold argOf at e9
                  have hi : i < ρ2.length := by
                    cases w : slD ρ2 i with
                    | none => simp only [w] at e9; cases e9
                    | some u => exact slD_lt w
                  by_cases z : j = i
                  · subst z
                    cases w : slD ρ2 j with
                    | none => simp only [w] at e9; cases e9
                    | some u =>
                      simp only [w] at e9
                      cases u with
                      | val d => cases e9
                      | own ds => cases e9
                      | scr ns => cases e9
                      | dct ds => rfl
                      | arg ds => rfl
                  · unfold dctTo at q4
                    split at q4
                    · rw [slD_set i j _ hi, if_neg z] at q4; exact q4
                    · rw [slD_set i j _ hi, if_neg z] at q4; exact q4
                · exact q
              obtain ⟨j, q3⟩ := q2
              exact (g2.rep.own_some q3).1
            exact hne hz
        · cases e
      · cases e
    · cases e
  · cases e
/-- f(e, ..) -/
theorem p_call (h : Fk X x k fd ps fn) (hG : X.A.guards = some []) (hr : Room k X.A) (hb : BindK X.K fd ps [] n ord ds) (hd : Vals dvs ds) (ha : PA X (e :: es) t) (hg : Gl X x) (hdb : (x == ("__debug__" : Str)) = false)
    (he : starEach (e :: es) X.env = (false, eval e X.env) :: starEach es X.env) (hpl : (backTo pos (starEach es X.env)).any (·.1) = false) : PE X (.Call (.Name x p) (e :: es) [] pos) (tCallG (spG X.K ps.length fn) n 0 ord dvs t tNil) := by
  obtain ⟨f, F, hm, hk⟩ := h.ex
  refine ⟨fun pins s σ H Q I h => ?_⟩
  apply wpAny_Call_Name_kw (ld_glob I hg hm ?_ hdb)
  refine PySem.W.callWith_K (h₀ := X.base) I.ok.mod.kin hk (thn (ha.run pos pins s σ H _ I h) ?_) he hpl
  rintro us s1 ⟨vs, H1, I1, r, hn, hm, q⟩
  exact ⟨I1.kIn, run_fnA (ks := []) (ws := []) (zs := []) F hG hr hb hd I1 r .nil hn rfl q⟩
theorem p_callK (h : Fk X x k fd ps fn) (hG : X.A.guards = some []) (hr : Room k X.A) (hb : BindK X.K fd ps ks 0 ord ds) (hd : Vals dvs ds) (hkw : PK X kws tk) (hg : Gl X x) (hdb : (x == ("__debug__" : Str)) = false)
    (hall : (backToKw pos (keywordEach kws X.env)).all (·.1.isSome) = true) (hks : (backToKw pos (keywordEach kws X.env)).filterMap (·.1) = ks)
    (hpl : ((backTo pos (starEach [] X.env)).any (·.1) || (backToKw pos (keywordEach kws X.env)).any (·.1.isNone)) = false) : PE X (.Call (.Name x p) [] kws pos) (tCallG (spG X.K ps.length fn) 0 ks.length ord dvs tNil tk) := by
  obtain ⟨f, F, hm, hk⟩ := h.ex
  refine ⟨fun pins s σ H Q I h => ?_⟩
  apply wpAny_Call_Name_kw (ld_glob I hg hm ?_ hdb)
  refine PySem.W.callWith_KW0 (h₀ := X.base) I.ok.mod.kin hk hall ?_ hpl
  refine thn (hkw.run pos pins s σ H _ I h) ?_
  rintro ws s2 ⟨zs, H2, I2, rz, hn, hm, q2⟩
  refine ⟨I2.kIn, ?_⟩
  rw [hks]
  exact run_fnA (us := []) (vs := []) F hG hr hb hd I2 .nil rz hn hm q2
theorem p_callM (h : Fk X x k fd ps fn) (hG : X.A.guards = some []) (hr : Room k X.A) (hb : BindK X.K fd ps ks n ord ds) (hd : Vals dvs ds) (ha : PA X (e :: es) t) (hkw : PK X kws tk) (hg : Gl X x) (hdb : (x == ("__debug__" : Str)) = false)
    (hall : (backToKw pos (keywordEach kws X.env)).all (·.1.isSome) = true) (hks : (backToKw pos (keywordEach kws X.env)).filterMap (·.1) = ks) (he : starEach (e :: es) X.env = (false, eval e X.env) :: starEach es X.env)
    (hpl : ((backTo pos (starEach (e :: es) X.env)).any (·.1) || (backToKw pos (keywordEach kws X.env)).any (·.1.isNone)) = false) : PE X (.Call (.Name x p) (e :: es) kws pos) (tCallG (spG X.K ps.length fn) n ks.length ord dvs t tk) := by
  obtain ⟨f, F, hm, hk⟩ := h.ex
  refine ⟨fun pins s σ H Q I h => ?_⟩
  apply wpAny_Call_Name_kw (ld_glob I hg hm ?_ hdb)
  refine PySem.W.callWith_KW (h₀ := X.base) I.ok.mod.kin hk hall (thn (ha.run pos pins s σ H _ I h) ?_) hpl he
  rintro us s1 ⟨vs, H1, I1, r, q⟩
  refine thn (hkw.run pos pins s1 σ H1 _ I1 q) ?_
  rintro ws s2 ⟨zs, H2, I2, rz, hn, hm, q2⟩
  refine ⟨I2.kIn, ?_⟩
  rw [hks]
  exact run_fnA F hG hr hb hd I2 r rz hn hm q2
/-- a call's expression is known: its value, a datum or a new dict -/
theorem x_of {ee : Expr} {tt : TE} (hp : PE X ee tt) (ht : tt = tCallG (spG X.K ps.length fn) n ks.length ord dvs t tk) (ha : SA X.K t fa) (hk : SA X.K tk fk) (hn : ∀ ρ as ρ', fa ρ = .ok as ρ' → as.length = n) (hm : ∀ ρ as ρ', fk ρ = .ok as ρ' → as.length = ks.length) (ho : ord.length = ps.length) (hor : ∀ i ∈ ord, i < n + ks.length + dds.length) (hd : ∀ F, DvA X.K F dvs dds) :
    Ex X ee tt (dCallD fn (dArgs fa fk ord dds)) := by
  refine ⟨hp, fun P F H σ ρ d ρ' Q r e k => ?_⟩
  obtain ⟨r2, ρ2, e1, e⟩ := Rb e
  cases r2 with
  | k kvs => cases e
  | d d' => cases e; exact se_call (f := 0) ht ha hk hn hm ho hor hd P F H σ ρ _ (.d d) Q r e1 fun v F' H' g h => k v F' H' g h
theorem nk_of {ee : Expr} {tt : TE} (hp : PE X ee tt) (ht : tt = tCallG (spG X.K ps.length fn) n ks.length ord dvs t tk) (ha : SA X.K t fa) (hk : SA X.K tk fk) (hn : ∀ ρ as ρ', fa ρ = .ok as ρ' → as.length = n) (hm : ∀ ρ as ρ', fk ρ = .ok as ρ' → as.length = ks.length) (ho : ord.length = ps.length) (hor : ∀ i ∈ ord, i < n + ks.length + dds.length) (hd : ∀ F, DvA X.K F dvs dds) :
    Nk X ee tt (dCallK fn (dArgs fa fk ord dds)) := by
  refine ⟨hp, fun P F H σ ρ d ρ' Q r e k => ?_⟩
  obtain ⟨r2, ρ2, e1, e⟩ := Rb e
  cases r2 with
  | d d' => cases e
  | k kvs =>
    cases e
    refine se_call (f := 0) ht ha hk hn hm ho hor hd P F H σ ρ _ (.k d) Q r e1 fun v F' H' g h => ?_
    obtain ⟨a, rfl, h1, h2, h3⟩ := h
    exact k a F' H' g h2 h1 h3
/-! ### how many arguments -/
theorem ln_nil : ∀ ρ as ρ', dNil ρ = .ok as ρ' → as.length = 0 := fun ρ as ρ' e => by cases e; rfl
theorem ln_cons {f : En → R AV} {g : En → R (List AV)} {m : Nat} (h : ∀ ρ as ρ', g ρ = .ok as ρ' → as.length = m) : ∀ ρ as ρ', dCons f g ρ = .ok as ρ' → as.length = m + 1 := fun ρ as ρ' e => by
  obtain ⟨x, ρ1, e1, e⟩ := Rb e
  obtain ⟨xs, ρ2, e2, e⟩ := Rb e
  cases e
  rw [List.length_cons, h _ _ _ e2]
theorem ln_consD {f : En → R D} {g : En → R (List AV)} {m : Nat} (h : ∀ ρ as ρ', g ρ = .ok as ρ' → as.length = m) : ∀ ρ as ρ', dConsD f g ρ = .ok as ρ' → as.length = m + 1 := fun ρ as ρ' e => by
  obtain ⟨x, ρ1, e1, e⟩ := Rb e
  obtain ⟨xs, ρ2, e2, e⟩ := Rb e
  cases e
  rw [List.length_cons, h _ _ _ e2]
end
end L2.G

namespace L2.G
open PySem PySem.Spec PyProof.Rows

/-! ## texts of data -/
theorem dv_clean {K : PySem.W.Frag} {F : Hp} : ∀ {v : V} {d : D}, Dv K F v d → d.hasDict = false := by
  intro v d h
  exact Dv.rec (motive_1 := fun v d _ => d.hasDict = false) (motive_2 := fun vs ds _ => PyData.hasDictAll ds = false) rfl (fun _ => rfl) (fun _ => rfl) (fun _ => rfl)
    (fun _ _ q => by simpa only [PyData.hasDict] using q) (fun _ _ q => by simpa only [PyData.hasDict] using q) rfl (fun _ _ q r => by simp only [PyData.hasDictAll, q, r, Bool.or_false]) h
def shows (d : D) : Bool := d.showable && (decide (d.shown.length ≤ sizeLine) && decide (d.depth ≤ 64))
theorem shows_ok {d : D} (h : shows d = true) : d.showable = true ∧ d.shown.length ≤ sizeLine ∧ d.depth ≤ 64 := by
  unfold shows at h
  rw [Bool.and_eq_true, Bool.and_eq_true] at h
  exact ⟨h.1, of_decide_eq_true h.2.1, of_decide_eq_true h.2.2⟩
section
variable {X : Cx}
/-- str(x) of a list or tuple, of an int, of a text -/
def rStr3 (K : PySem.W.Frag) : List V → Hp → VK → Prop := fun xs H Q => (∃ a d, xs = [.ref a] ∧ Dp K H (.ref a) d ∧ d.hasDict = false ∧ shows d = true ∧ Q (.str d.shown) H) ∨ ((∃ i, xs = [.int i] ∧ i.natAbs.log2 < 1920 ∧ Q (.str (toString i)) H) ∨ (∃ a, xs = [.str a] ∧ Q (.str a) H))
theorem cStr {k : Nat} (hg : X.A.guards = some []) (hr : Room k X.A) : CallR X (.type "str") (rStr3 X.K) := by
  refine CallR.or ?_ (CallR.or call_str_int SkE.call_str_str)
  intro pins s σ H xs us Q I r h
  obtain ⟨a, d, rfl, hd, hD, hs, q⟩ := h
  obtain ⟨u, rfl, ru⟩ := vals1 r
  obtain ⟨as, rd⟩ := Dp.reads I d _ _ hd ru
  cases ru
  obtain ⟨h1, h2, h3⟩ := shows_ok hs
  have hu := hr.un
  exact str_of_reads rd h1 (PyData.noDict_hsm hD) hg (by omega) (fun _ _ e => e) (fun h' u tk hk => ⟨.str d.shown, H, I.kept (t' := tk) hk, ⟨_, rfl⟩, q⟩) h2
def gStr : List Ar → Option D
  | [.val (.int i)] => if i.natAbs.log2 < 1920 then some (.str (toString i)) else none
  | [.val (.str z)] => some (.str z)
  | [.val (.list ds)] => if shows (.list ds) = true then some (.str (PyData.shown (.list ds))) else none
  | [.val (.tuple ds)] => if shows (.tuple ds) = true then some (.str (PyData.shown (.tuple ds))) else none
  | _ => none
theorem sc_str {K : PySem.W.Frag} : SC K (rStr3 K) gStr := by
  intro F H vs bs z Q s h e k
  unfold gStr at e
  split at e
  · split at e
    · rename_i hl
      cases e
      cases h with
      | cons h1 t =>
        cases t
        obtain rfl := val_int h1
        exact .inr (.inl ⟨_, rfl, hl, k _ _ _ (.refl s) (.str _)⟩)
    · cases e
  · cases e
    cases h with
    | cons h1 t =>
      cases t
      obtain rfl := val_str h1
      exact .inr (.inr ⟨_, rfl, k _ _ _ (.refl s) (.str _)⟩)
  · split at e
    · rename_i ds hs
      cases e
      cases h with
      | cons h1 t =>
        cases t
        have h2 : Dv K F _ (.list ds) := h1
        have hc := dv_clean h2
        have hp := dv_dp s h2
        cases h2
        exact .inl ⟨_, _, rfl, hp, hc, hs, k _ _ _ (.refl s) (.str _)⟩
    · cases e
  · split at e
    · rename_i ds hs
      cases e
      cases h with
      | cons h1 t =>
        cases t
        have h2 : Dv K F _ (.tuple ds) := h1
        have hc := dv_clean h2
        have hp := dv_dp s h2
        cases h2
        exact .inl ⟨_, _, rfl, hp, hc, hs, k _ _ _ (.refl s) (.str _)⟩
    · cases e
  · cases e
/-- {x!r} alone -/
def tRp (K : PySem.W.Frag) (te : TE) : TE := fun σ H Q => te σ H fun x H1 => ∃ d, Dp K H1 x d ∧ d.hasDict = false ∧ shows d = true ∧ Q (.str d.shown) H1
theorem rp_any {A : Around} {s : Shared} {v : Value} {d : D} {as : List Addr} {prog : Program} {w : World} {E : Value → Shared → Prop} {Q : Value → Shared → Prop} (rd : Reads s.heap v d as) (h1 : d.showable = true) (hD : d.hasDict = false) (hz : d.shown.length ≤ sizeLine) (hg : A.guards = some []) (hu : A.units + (d.depth + 2) < cLine)
    (hQ : ∀ h' u tk, (∀ b o, s.heap.get? b = some o → h'.get? b = some o) → Q (.str d.shown u) { s with heap := h', toks := tk }) : wpAny (model prog w) A (pyReprObj v) Q E s := by
  cases rd with
  | none => exact pyReprObj_none (hQ s.heap _ _ fun _ _ e => e)
  | bool b => exact pyReprObj_bool (hQ s.heap _ _ fun _ _ e => e)
  | int i t => exact pyReprObj_int (by simpa [PyData.showable] using h1) (hQ s.heap _ _ fun _ _ e => e)
  | str x t => exact pyReprObj_str (hQ s.heap _ _ fun _ _ e => e) (by simpa only [PyData.shown] using hz)
  | list a b c d => exact pyReprObj_of_reads (.list a b c d) h1 (PyData.noDict_hsm hD) hg (by omega) (fun _ _ e => e) hQ hz
  | tuple a b c d => exact pyReprObj_of_reads (.tuple a b c d) h1 (PyData.noDict_hsm hD) hg (by omega) (fun _ _ e => e) hQ hz
  | dict a b c d e => cases hD
theorem p_rp {k : Nat} {e : Expr} {te : TE} {pos : Pos} (hg : X.A.guards = some []) (hr : Room k X.A) (he : PE X e te) : PE X (.FormattedValue e 114 none pos) (tRp X.K te) := by
  refine ⟨fun pins s σ H Q I h => ?_⟩
  refine wpAny_FormattedValue_repr (thn (he.run pins s σ H _ I h) fun v s1 hv => ?_)
  obtain ⟨x, H1, I1, r1, d, hd, hD, hs, q⟩ := hv
  obtain ⟨as, rd⟩ := Dp.reads I1 d _ _ hd r1
  obtain ⟨h1, h2, h3⟩ := shows_ok hs
  have hu := hr.un
  refine rp_any rd h1 hD h2 hg (by omega) fun h' u tk hk => ?_
  have I2 := I1.kept (t' := tk) hk
  exact wpAny_formatField_str ⟨.str d.shown, H1, I2, ⟨_, rfl⟩, q⟩ ⟨.str d.shown, H1, I2.tok _, ⟨_, rfl⟩, q⟩ h2
def dRp (f : En → R D) : En → R D := fun ρ => (f ρ).bind fun d ρ' => if shows d = true then .ok (.str d.shown) ρ' else .no
theorem x_rp {k : Nat} {e : Expr} {te : TE} {f : En → R D} {pos pos2 : Pos} (hg : X.A.guards = some []) (hr : Room k X.A) (he : Ex X e te f) : Ex X (.JoinedStr [.FormattedValue e 114 none pos] pos2) (tRp X.K te) (dRp f) := by
  refine ⟨pe_joined1 (p_rp hg hr he.p), fun P F H σ ρ d ρ' Q r e kk => ?_⟩
  obtain ⟨x, ρ1, e1, e⟩ := Rb e
  refine he.s P F H σ ρ x ρ1 _ r e1 fun v F1 H1 g1 h1 => ?_
  split at e
  · rename_i hs
    cases e
    exact ⟨x, dv_dp g1.rep.sub h1, dv_clean h1, hs, kk _ F1 H1 g1 (.str _)⟩
  · cases e

/-! ## new dicts with written text keys -/
inductive DPs (X : Cx) : Pos → List (Option Expr) → List Expr → List (TE × TE) → (En → R (List (Key × D))) → Prop
  | nil {pos : Pos} : DPs X pos [] [] [] fun ρ => .ok [] ρ
  | cons {pos : Pos} {k : Str} {j : Nat} {p : Pos} {v : Expr} {ks : List (Option Expr)} {vs : List Expr} {tv : TE} {trs : List (TE × TE)} {f : En → R D} {g : En → R (List (Key × D))} (hv : Ex X v tv f) (hr : DPs X pos ks vs trs g) :
    DPs X pos (some (.Constant (.str k) j p) :: ks) (v :: vs) ((tC (.str k), tv) :: trs) fun ρ => (f ρ).bind fun d ρ1 => (g ρ1).bind fun l ρ2 => .ok ((Sum.inr k, d) :: l) ρ2
theorem dps_p {pos : Pos} {ks : List (Option Expr)} {vs : List Expr} {trs : List (TE × TE)} {f : En → R (List (Key × D))} (h : DPs X pos ks vs trs f) : PPs X pos ks vs trs := by
  induction h with
  | nil => exact pps_nil
  | cons hv _ ih => exact pps_cons pe_str hv.p ih
def PsOk (K : PySem.W.Frag) (F : Hp) : List (V × V) → List (Key × D) → Prop := Paired fun (p : V × V) (q : Key × D) => p.1 = kV q.1 ∧ Dv K F p.2 q.2
theorem dps_s {pos : Pos} {ks : List (Option Expr)} {vs : List Expr} {trs : List (TE × TE)} {f : En → R (List (Key × D))} (h : DPs X pos ks vs trs f) : ∀ (P : Pn) (F H : Hp) (σ : St) (ρ : En) (l : List (Key × D)) (ρ' : En) (Q : List (V × V) → Hp → Prop), Rep X.K P F H σ ρ → f ρ = .ok l ρ' →
    (∀ ps F' H', Go X.K P F H σ ρ F' H' σ ρ' → PsOk X.K F' ps l → Q ps H') → tPairs trs σ H Q := by
  induction h with
  | nil => exact fun P F H σ ρ l ρ' Q r e k => by cases e; exact k [] F H (.refl r) .nil
  | cons hv _ ih =>
    intro P F H σ ρ l ρ' Q r e k
    obtain ⟨d, ρ1, e1, e⟩ := Rb e
    obtain ⟨l2, ρ2, e2, e⟩ := Rb e
    cases e
    refine hv.s P F H σ ρ d ρ1 _ r e1 fun v F1 H1 g1 h1 => ?_
    refine ih P F1 H1 σ ρ1 l2 _ _ g1.rep e2 fun ps F2 H2 g2 h2 => ?_
    exact k _ F2 H2 (g1.trans g2) (.cons ⟨rfl, dp_mono (show Same F1 F2 from g2.fro) h1⟩ h2)
def kvMerge (l : List (Key × D)) : List (Key × D) := l.foldl (fun acc kv => kvP acc kv.1 kv.2) []
def dDict (f : En → R (List (Key × D))) : En → R (List (Key × D)) := fun ρ => (f ρ).bind fun l ρ' => if l.length ≤ 15 then .ok (kvMerge l) ρ' else .no
theorem merge_ok {K : PySem.W.Frag} {F : Hp} : ∀ {ps : List (V × V)} {l : List (Key × D)}, PsOk K F ps l → ∃ kvs : List (Key × V), ps = kvs.map (fun kv => (kV kv.1, kv.2)) ∧ KvD K F kvs l
  | _, _, .nil => ⟨[], rfl, .nil⟩
  | p :: ps, q :: l, .cons ⟨h1, h2⟩ t => by
    obtain ⟨kvs, rfl, h3⟩ := merge_ok t
    exact ⟨(q.1, p.2) :: kvs, by rw [List.map_cons, ← h1], .cons ⟨rfl, h2⟩ h3⟩
theorem merge_kvd {K : PySem.W.Frag} {F : Hp} : ∀ {kvs : List (Key × V)} {l : List (Key × D)} {as : List (Key × V)} {bs : List (Key × D)}, KvD K F kvs l → KvD K F as bs → KvD K F (mergeK as kvs) (l.foldl (fun acc kv => kvP acc kv.1 kv.2) bs)
  | _, _, as, bs, .nil, h => h
  | p :: kvs, q :: l, as, bs, .cons ⟨h1, h2⟩ t, h => by
    show KvD K F (mergeK (putK as p.1 p.2) kvs) (l.foldl _ (kvP bs q.1 q.2))
    refine merge_kvd t ?_
    rw [h1]
    exact kvd_put h2 h
theorem k_dict {pos : Pos} {keys : List (Option Expr)} {values : List Expr} {trs : List (TE × TE)} {f : En → R (List (Key × D))} (h : DPs X pos keys values trs f) (hall : keys.all (·.isSome) = true := by rfl) (hl : keys.length = values.length := by rfl) (h0 : keys ≠ [] := by exact (fun z => by cases z)) (h15 : keys.length ≤ 15 := by decide) :
    Nk X (.Dict keys values pos) (tDisp trs) (dDict f) := by
  refine ⟨pe_disp (dps_p h) hall hl h0 h15, fun P F H σ ρ kvs ρ' Q r e k => ?_⟩
  obtain ⟨l, ρ1, e1, e⟩ := Rb e
  intro p hp
  have gr : Grow F H F (upd H p (.dK [])) := .lay r.sub hp
  have g0 := Go.grow r gr
  have Fp : F p = none := by
    cases z : F p with
    | none => rfl
    | some o => rw [r.sub _ _ z] at hp; cases hp
  refine dps_s h P F _ σ ρ l ρ1 _ g0.rep e1 fun ps F2 H2 g2 h2 => ?_
  split at e
  · rename_i h15'
    cases e
    have np : ¬ Owned σ ρ p := fun o => Go.ownOf r (.refl r) o hp
    have hne : upd H p (.dK []) p ≠ none := by rw [upd_same]; exact (fun z => nomatch z)
    have e2 : H2 p = some (.dK []) := g2.kept p _ upd_same np
    have f2 : F2 p = none := by rw [g2.old p hne np]; exact Fp
    have n2 : ¬ Owned σ ρ' p := fun o => np (g2.own p o hne)
    obtain ⟨kk, rfl, hk⟩ := merge_ok h2
    refine ⟨e2, kk, rfl, by rw [kvd_len hk]; exact h15', ?_⟩
    refine k p F2 _ ?_ hp ⟨f2, _, upd_same, merge_kvd hk .nil⟩ n2
    have g3 := g0.trans g2
    exact ⟨g3.rep.touch f2 n2, g3.fro, g3.old, fun b u eb nb => by rw [upd_ne (ne_of_none eb hp)]; exact g3.kept b u eb nb, g3.own, fun b hb => by
      by_cases z : b = p
      · exact absurd hp (z ▸ hb)
      · rw [upd_ne z]; exact g3.alive b hb⟩
  · cases e

/-! ## sorted, of ints -/
theorem pairwise_uniq : ∀ {l m : List Int}, l.Perm m → l.Pairwise (· ≤ ·) → m.Pairwise (· ≤ ·) → l = m := fun h1 h2 h3 => h1.eq_of_pairwise (fun a b _ _ x y => Int.le_antisymm x y) h2 h3
def sortI (ns : List Int) : List Int := ns.mergeSort
theorem sortI_perm (ns : List Int) : (sortI ns).Perm ns := List.mergeSort_perm ns _
theorem sortI_sorted (ns : List Int) : (sortI ns).Pairwise (· ≤ ·) := by
  have h := List.pairwise_mergeSort (le := fun a b : Int => decide (a ≤ b)) (fun a b c h1 h2 => by simp only [decide_eq_true_eq] at *; omega) (fun a b => by simp only [Bool.or_eq_true, decide_eq_true_eq]; omega) ns
  exact h.imp fun x => of_decide_eq_true x
def rSortS (K : PySem.W.Frag) : List V → Hp → VK → Prop := fun vs H Q => ∃ (a : Addr) (ns : List Int), vs = [V.ref a] ∧ (SqL K H a (ns.map V.int) ∨ SqT K H a (ns.map V.int)) ∧
  ∀ p, H p = none → Q (.ref p) (upd H p (.lst ((sortI ns).map V.int)))
theorem cSorted : CallR X (.builtin "sorted") (rSortS X.K) := by
  intro pins s σ H xs us Q I r h
  obtain ⟨a, ns, rfl, hs, q⟩ := h
  obtain ⟨u, rfl, ru⟩ := vals1 r
  obtain rfl : u = Value.ref a := ru
  obtain ⟨its, rv, o, T, hT, ho, hc, n, hd, hz⟩ : ∃ its : List Value, Vals (ns.map V.int) its ∧ ∃ (o : Obj) (T : String), (T = "list" ∨ T = "tuple") ∧ s.heap.get? a = some o ∧ o.cls = .type T ∧ ∃ n, o.data = .seq its.toArray n ∧ its.length ≤ sizeLine := by
    rcases hs with hs | hs
    · obtain ⟨its, rv, p, hz⟩ := I.list hs
      obtain ⟨o, n, ho, hc, _, hd⟩ := p
      exact ⟨its, rv, o, "list", .inl rfl, ho, hc, n, hd, by rw [← rv.length]; exact hz⟩
    · obtain ⟨its, rv, p, hz⟩ := I.tuple hs
      obtain ⟨o, ho, hc, n, hd⟩ := p
      exact ⟨its, rv, o, "tuple", .inr rfl, ho, hc, n, hd, by rw [← rv.length]; exact hz⟩
  have hI : IntsAre its ns := intsAre_of rv
  refine Calls.call_function_entry kind_sorted plain_sorted entry_sorted (args_sorted1 _) ?_
  unfold Builtin.«sorted»
  refine wpAny_bind (m := checkCount "sorted" 1 1 _) (wpAny_pure ?_)
  refine wpAny_bind (wpAny_collect_seq a hT ho hc hd (fun h' hk => ?_) (by rw [List.size_toArray]; exact hz))
  rw [List.toList_toArray]
  refine wpAny_bind (wpAny_newList ?_ hz)
  have hoL : (h'.push (seqObj "list" its.toArray 0)).get? h'.objs.size = some (seqObj "list" its.toArray 0) := Heap.get?_push_size _ rfl
  refine wpAny_bind (wpAny_holding (wpAny_call_entry slot_list_sort ⟨_, hoL, rfl⟩ entry_list_sort (SrtO.list_sort_ord (s := { s with heap := h'.push (seqObj "list" its.toArray 0) }) SrtO.swo_int hoL hz (fun h2 => SrtO.ints_sortable hI h2) fun out h1 hb => ⟨_, rfl, ?_⟩) (args_list_sort _)))
  refine wpAny_pure ⟨_, rfl, ?_⟩
  obtain ⟨o1, o2, o3⟩ := SrtO.ints_out hI h1 hb
  have eo : out.map SrtO.iv = sortI ns := pairwise_uniq (o2.trans (sortI_perm ns).symm) o3 (sortI_sorted ns)
  rw [eo] at o1
  have I2 : Inv X pins σ H { s with heap := h' } := I.kept (t' := s.toks) hk
  have hn := I2.hok.fresh (Nat.le_refl h'.objs.size)
  have kp : ∀ b u, h'.get? b = some u → (sortedHeap (h'.push (seqObj "list" its.toArray 0)) h'.objs.size its out.toArray).get? b = some u := fun b u e => by
    have hlt := Heap.lt_size e
    rw [sortedHeap_old (Nat.ne_of_lt hlt) (by rw [size_push']; exact Nat.lt_succ_of_lt hlt)]
    exact Heap.get?_push_of_some _ e
  obtain ⟨m, hm⟩ := sortedHeap_at (out := out.toArray) hoL
  have vals : Vals ((sortI ns).map V.int) out := by
    have gen : ∀ {l : List Int} {us : List Value}, IntsAre us l → Vals (l.map V.int) us := by
      intro l us h
      induction h with
      | nil => exact .nil
      | cons n t r ih => exact .cons ⟨t, rfl⟩ ih
    exact gen o1
  refine ⟨.ref h'.objs.size, _, I2.laid (o := .lst ((sortI ns).map V.int)) (t' := s.toks) kp (Nat.le_refl _) ⟨?_, out, m, vals, hm⟩, rfl, q _ hn⟩
  rw [List.length_map, (sortI_perm ns).length_eq]
  have := rv.length
  rw [List.length_map] at this
  omega
def gSortI : List Ar → Option (List D)
  | [a] => match asSeq a with
    | some ds => match asInts ds with
      | some ns => some ((sortI ns).map .int)
      | none => none
    | none => none
  | _ => none
theorem sc_sortI {K : PySem.W.Frag} : SCL K (rSortS K) gSortI := by
  intro F H vs bs z Q s h e k
  unfold gSortI at e
  split at e
  · split at e
    · rename_i ds q
      split at e
      · rename_i ns q2
        cases e
        cases h with
        | cons h1 t =>
          cases t
          obtain ⟨p, xs, rfl, h2, t2⟩ := asSeq_ok s h1 q
          obtain rfl := ints_ok t2 q2
          exact ⟨p, ns, rfl, h2, fun l hl => k l _ _ (Grow.lay s hl).heap hl upd_same (dva_ints _)⟩
      · cases e
    · cases e
  · cases e
end
end L2.G

namespace L2.G
open PySem PySem.Spec PyProof.Rows

/-! ## enumerate over a tuple -/
def ItE (K : PySem.W.Frag) (a : Addr) : It where
  go i H := ∃ (xs : List V) (x : V), SqT K H a xs ∧ xs[i]? = some x
  yld i H v H' := ∃ T x, v = .ref T ∧ H T = none ∧ H' = upd H T (.tup [.int (i : Nat), x]) ∧ ∀ xs, SqT K H a xs → xs[i]? = some x
  stop i H := ∃ xs : List V, SqT K H a xs ∧ xs.length ≤ i
theorem turnE {P : Program} {w : World} {K : PySem.W.Frag} {elts : List Expr} {kk : Nat} {tpos : Pos} (a e it : Addr) :
    Turn P w K (.Tuple elts kk tpos) (ItE K a) [e, it] e (fun i h => (∃ old, IsEnum h e it (0 + (i : Int)) old) ∧ h.IsTupleIter it a i ∧ e ≠ it ∧ a ≠ it ∧ e ≠ a) := by
  constructor
  case mem => exact List.mem_cons_self
  case obj =>
    rintro i h ⟨⟨old, he⟩, ⟨o, ho, hc, hd⟩, _⟩ b hb
    rcases List.mem_cons.mp hb with z | z
    · subst z; exact ⟨_, he, fun v q => nomatch q⟩
    · cases List.mem_singleton.mp z
      exact ⟨o, ho, fun v q => by rw [hd] at q; cases q⟩
  case keep =>
    rintro i h h' ⟨⟨old, he⟩, hi, hne⟩ k
    exact ⟨⟨old, k e List.mem_cons_self _ he⟩, hi.at fun o q => k it (List.mem_cons_of_mem _ List.mem_cons_self) o q, hne⟩
  case item =>
    rintro X rfl rfl rfl hc i pins s σ H E I hf ⟨⟨old, he⟩, hit, hne, hai, hea⟩ ⟨xs, x, hq, hx⟩
    obtain ⟨its, rv, p, hz⟩ := I.tuple hq
    obtain ⟨u, hu, ru⟩ := rv.get hx
    have tp : s.heap.IsTuple a its.toArray := p
    have hel : e < s.heap.objs.size := Heap.lt_size he
    have hil : it < s.heap.objs.size := by
      obtain ⟨_, q, _⟩ := hit
      exact Heap.lt_size q
    have hlt : i < its.toArray.size := by
      rw [List.size_toArray]
      by_cases z : i < its.length
      · exact z
      · rw [List.getElem?_eq_none (by omega)] at hu; cases hu
    refine wpAny_pyNext_enum_itemC (Draws.tuple (A := X.A.in1) (I.ok.hd hc) it a hai its.toArray) he ⟨hit, tp⟩ hlt hne (by simp [hne, hea]) fun y h' tk hy ho hst hT hsz hk => ?_
    have ey : y = u := by
      have h1 : its.toArray[i]? = some y := hy
      rw [List.getElem?_toArray, hu] at h1
      exact (Option.some.inj h1).symm
    subst ey
    refine ⟨_, rfl, wpAny_letOwnedTupleGo_enum (s := { s with heap := h', toks := tk + 1 }) ho fun h2 he2 sb => ?_⟩
    have hT2 : h2.get? s.heap.objs.size = some { cls := .type "tuple", data := .seq #[.int (0 + (i : Int)) tk, y] } := (sb.2 _ (Nat.ne_of_gt hel)).trans hT
    have e0 : (0 : Int) + (i : Int) = (i : Int) := Int.zero_add _
    rw [e0] at hT2
    have new : ObjOk X.prog X.w (upd H s.heap.objs.size (.tup [.int (i : Nat), x])) h2 s.heap.objs.size (.tup [.int (i : Nat), x]) :=
      And.intro (by show 2 ≤ sizeLine; decide) ⟨[.int i tk, y], Paired.cons ⟨_, rfl⟩ (Paired.cons ru .nil), _, hT2, rfl, _, rfl⟩
    have I1 : Inv X pins σ (upd H s.heap.objs.size (.tup [.int (i : Nat), x])) { s with heap := h2, toks := tk + 1 } := by
      refine I.turnedNew (ch := [e, it]) (fun b ob hb q => ?_) hf (Nat.le_refl _) new
      have b1 : b ≠ e := fun z => hb (by rw [z]; exact List.mem_cons_self)
      have b2 : b ≠ it := fun z => hb (by rw [z]; exact List.mem_cons_of_mem _ List.mem_cons_self)
      exact (sb.2 b b1).trans (hk b ob b1 b2 q)
    refine ⟨V.ref s.heap.objs.size, _, I1, rfl, ⟨_, x, rfl, I.hok.fresh (Nat.le_refl _), rfl, fun ys hy => ?_⟩, ⟨⟨y, ?_⟩, hst.1.at fun o q => (sb.2 it (Ne.symm hne)).trans q, hne, hai, hea⟩, fun b hb => ?_⟩
    · rw [I.tuple_inj hy hq]; exact hx
    · have e1 : (0 : Int) + ((i + 1 : Nat) : Int) = 0 + (i : Int) + 1 := by omega
      rw [e1]; exact he2
    · have hb' : b < s.heap.objs.size := by
        rcases List.mem_cons.mp hb with z | z
        · rw [z]; exact hel
        · rw [List.mem_singleton.mp z]; exact hil
      rw [upd_ne (Nat.ne_of_lt hb')]
      exact (hf b hb).1
  case done =>
    rintro X rfl rfl rfl hc i pins s σ H E I hf ⟨⟨old, he⟩, hit, hne, hai, hea⟩ ⟨xs, hq, hx⟩
    obtain ⟨its, rv, p, hz⟩ := I.tuple hq
    have tp : s.heap.IsTuple a its.toArray := p
    obtain ⟨f0, f1, f2, f3, f4, f5⟩ := hf it (List.mem_cons_of_mem _ List.mem_cons_self)
    have hl := rv.length
    have T : s.TypeIs (.ref e) "enumerate" := ⟨_, he, rfl⟩
    unfold pyNext
    refine wpAny_bind (wpAny_attempt (wpAny_callSpecial?_slot (name := Str.ofString "__next__") T F.slot_enumerate_next (wpAny_call_entry F.slot_enumerate_next T F.entry_enumerate_next ?_ (F.args_enumerate_next_1 _))))
    show wpAny _ _ (field (.ref e) 2 >>= _) _ _ _
    refine wpAny_bind (wpAny_field he rfl (x := .ref it) rfl ?_)
    refine wpAny_bind (wpAny_nextOf_tuple_end (I.ok.hd hc) hit tp (by simp; omega) fun h' x he' hx' => ?_)
    obtain ⟨o, ho, hcl⟩ := hx'
    refine wpAny_bind (wpAny_isInstance (T := "StopIteration") (b := true) ⟨o, ho, hcl⟩ isSubtype_stop ?_)
    exact wpAny_pure ⟨rfl, I.turned (t' := s.toks) (fun b o hb q => he' b o hb q) f0 f1 f3 f4 f5⟩
  case self =>
    rintro A i s Q E ⟨⟨_, he⟩, _⟩ h
    exact wpAny_pyIter_enum he h
set_option maxHeartbeats 1000000 in
theorem meets_enum1 {v : Value} {o : Obj} {H : Heap → Prop} (B : Begins v o H) :
    Meets (Builtin.«enumerate.__new__» ⟨[.type "enumerate", v], []⟩) (fun _ R s => H s.heap ∧
      R (.ok (.ret (.ref (s.heap.push o).objs.size))) { s with heap := (s.heap.push o).push { cls := .type "enumerate", data := .fields #[.none, .bool false, .ref s.heap.objs.size, rawInt 0, .none, .none] } }) :=
  .of_wp fun prog w A R s h => by
    obtain ⟨hp, g, d, tk, os⟩ := s
    obtain ⟨h1, h⟩ := h
    have hsub := sub_enumerate
    have q1 : ∀ {A' : Around} {E : Value → Shared → Prop} {Q : Value → Shared → Prop}, Q (.ref hp.objs.size) ⟨hp.push o, g, d, tk, os⟩ → wpAny (model prog w) A' (pyIter v) Q E ⟨hp, g, d, tk, os⟩ :=
      fun q => B.iter prog w _ _ ⟨hp, g, d, tk, os⟩ _ h1 q
    wp_walk using q1
    refine wpAny_stack_any fun st => wpAny_pure ?_
    split
    · rename_i c _ _ _ _ _
      cases (c == Value.type "enumerate") <;> (wp_walk using q1; exact ⟨_, rfl, h⟩)
    · wp_walk using q1
      exact ⟨_, rfl, h⟩
theorem enum_tuple {prog : Program} {w : World} {A : Around} {E : Value → Shared → Prop} {s : Shared} {t : Addr} {items : Array Value} {Q : Value → Shared → Prop} (ht : s.heap.IsTuple t items)
    (h : ∀ h', IsEnum h' (s.heap.objs.size + 1) s.heap.objs.size 0 .none → h'.IsTupleIter s.heap.objs.size t 0 → (∀ b o, s.heap.get? b = some o → h'.get? b = some o) → Q (.ref (s.heap.objs.size + 1)) { s with heap := h' }) :
    wpAny (model prog w) A (call (.type "enumerate") [.ref t]) Q E s := by
  have B := begins_tuple t items
  refine callType_new F.called_enumerate (by decide) (F.typeCall_enumerate_1 _) (F.newCall_enumerate_1 _) (fun obj => F.args_object_init_2 obj _) F.entry_enumerate_new (meets_enum1 B) ⟨ht, ?_⟩
  generalize ho : ({ cls := .type "tuple_iterator", data := .fields #[.ref t, .int 0 0] } : Obj) = ob
  have hz : (s.heap.push ob).objs.size = s.heap.objs.size + 1 := Heap.size_push ..
  show _ ∧ _
  rw [hz]
  have he : IsEnum ((s.heap.push ob).push { cls := .type "enumerate", data := .fields #[.none, .bool false, .ref s.heap.objs.size, rawInt 0, .none, .none] }) (s.heap.objs.size + 1) s.heap.objs.size 0 .none := by
    have q := Heap.get?_push_size (s.heap.push ob) (o := { cls := .type "enumerate", data := .fields #[.none, .bool false, .ref s.heap.objs.size, rawInt 0, .none, .none] }) rfl
    rw [hz] at q
    exact q
  subst ho
  exact ⟨⟨_, he, rfl⟩, h _ he ⟨_, Heap.get?_push_of_some _ (Heap.get?_push_size _ rfl), rfl, rfl⟩ fun b o x => Heap.get?_push_of_some _ (Heap.get?_push_of_some _ x)⟩
def iEnT (K : PySem.W.Frag) (ta : TA) : TI := fun σ H R => ta σ H fun vs H1 => ∃ a xs, vs = [.ref a] ∧ SqT K H1 a xs ∧ R (ItE K a) H1
section
variable {X : Cx} {e : Expr} {ta : TA} {p pos tpos : Pos} {elts : List Expr} {kk : Nat}
theorem pi_enT (hg : Gl X "enumerate") (hm : X.mg "enumerate" = none) (ha : PA X [e] ta) (hs : starEach [e] X.env = [(false, eval e X.env)]) : PI X (.Tuple elts kk tpos) (.Call (.Name "enumerate" p) [e] [] pos) (iEnT X.K ta) := by
  constructor
  intro pins s σ H R I h
  refine Call_ (ld_blt I hg hm boot_enumerate (PyProof.Rows.callWith_type1 (thn (ha.run pos pins s σ H _ I h) ?_) hs rfl))
  rintro us s1 ⟨vs, H1, I1, r1, a, xs, rfl, hq, q⟩
  obtain ⟨u, rfl, ru⟩ := vals1 r1
  cases ru
  obtain ⟨its, rv, tp, hz⟩ := I1.tuple hq
  have tp : s1.heap.IsTuple a its.toArray := tp
  have al : a < s1.heap.objs.size := by
    obtain ⟨o, ho, _⟩ := tp
    exact Heap.lt_size ho
  refine enum_tuple tp fun h' he hit hk => wpAny_pyIter_enum he ?_
  have I2 : Inv X pins σ H1 { s1 with heap := h' } := I1.kept (t' := s1.toks) hk
  refine ⟨s1.heap.objs.size + 1, [s1.heap.objs.size + 1, s1.heap.objs.size], _, _, H1, rfl, I2, turnE a (s1.heap.objs.size + 1) s1.heap.objs.size, ⟨⟨.none, he⟩, hit, Nat.succ_ne_self _, Nat.ne_of_lt al, fun z => absurd al (by rw [← z]; exact Nat.not_lt.mpr (Nat.le_succ _))⟩, fun b hb => ?_, q⟩
  have hle : s1.heap.objs.size ≤ b := by
    rcases List.mem_cons.mp hb with z | z
    · rw [z]; exact Nat.le_succ _
    · rw [List.mem_singleton.mp z]; exact Nat.le_refl _
  exact I1.fpOk hle (I1.hok.fresh hle)
/-- pairs (i, d) -/
def enumD (ds : List D) : List D := ds.zipIdx.map fun p => .tuple [.int (p.2 : Nat), p.1]
theorem enumD_at {ds : List D} {i : Nat} {d : D} (h : (enumD ds)[i]? = some d) : ∃ x, ds[i]? = some x ∧ d = .tuple [.int (i : Nat), x] := by
  unfold enumD at h
  rw [List.getElem?_map, List.getElem?_zipIdx] at h
  cases z : ds[i]? with
  | none => rw [z] at h; cases h
  | some x =>
    rw [z] at h
    simp only [Option.map_some, Nat.zero_add, Option.some.injEq] at h
    exact ⟨x, rfl, h.symm⟩
theorem enumD_len (ds : List D) : (enumD ds).length = ds.length := by unfold enumD; rw [List.length_map, List.length_zipIdx]
theorem pair_new {K : PySem.W.Frag} {F H : Hp} {T : Addr} {x y : V} {d e : D} (s : Same F H) (hT : H T = none) (hx : Dv K F x d) (hy : Dv K F y e) : ∃ F2, Grow F H F2 (upd H T (.tup [x, y])) ∧ Dv K F2 (.ref T) (.tuple [d, e]) := by
  have g : Grow F H (upd F T (.tup [x, y])) (upd H T (.tup [x, y])) := .new s hT
  exact ⟨_, g, .tup (.of upd_same) (.cons (dp_mono g.fro hx) (.cons (dp_mono g.fro hy) .nil))⟩
theorem wk_enumT {K : PySem.W.Frag} {F : Hp} {a : Addr} {xs : List V} {ds : List D} (h : SqT K F a xs) (t : DvA K F xs ds) : Wk K F (ItE K a) (enumD ds) := by
  refine ⟨fun H => SqT K H a xs, YPair (fun i => some (.int (i : Nat))) (fun i => xs[i]?), ⟨fun i H hi q => ?_, fun H q => ?_, fun i H v H' _ q y => ?_⟩, fun H s => same_tup s h, fun i d F1 H x H' e s1 s2 y => ?_⟩
  · rw [enumD_len, ← dpa_len t] at hi
    exact ⟨xs, xs[i], q, by simp [hi]⟩
  · exact ⟨xs, q, by rw [enumD_len, ← dpa_len t]; exact Nat.le_refl _⟩
  · obtain ⟨T, x, h1, h2, h3, h4⟩ := y
    exact ⟨T, .int (i : Nat), x, h1, h2, h3, rfl, h4 xs q⟩
  · obtain ⟨T, u, z, rfl, hT, rfl, h1, h2⟩ := y
    cases h1
    obtain ⟨dx, e1, rfl⟩ := enumD_at e
    obtain ⟨v, e2, hv⟩ := dpa_get' t e1
    have h2 : xs[i]? = some z := h2
    rw [h2] at e2; cases e2
    exact pair_new s2 hT (.int _) (dp_mono s1 hv)
theorem wk_enumL {K : PySem.W.Frag} {F : Hp} {a : Addr} {xs : List V} {ds : List D} (h : F a = some (.lst xs)) (t : DvA K F xs ds) : Wk K F (Ite K a) (enumD ds) := by
  refine ⟨_, _, by rw [enumD_len, ← dpa_len t]; exact walk_enum, fun H s => SqL.of (s _ _ h), fun i d F1 H x H' e s1 s2 y => ?_⟩
  obtain ⟨T, u, z, rfl, hT, rfl, h1, h2⟩ := y
  cases h1
  obtain ⟨dx, e1, rfl⟩ := enumD_at e
  obtain ⟨v, e2, hv⟩ := dpa_get' t e1
  have h2 : xs[i]? = some z := h2
  rw [h2] at e2; cases e2
  exact pair_new s2 hT (.int _) (dp_mono s1 hv)
variable {te : TE} {f : En → R D}
def dItEL (f : En → R D) : En → R (List D) := fun ρ => (f ρ).bind fun d ρ' => match d with
  | .list ds => .ok (enumD ds) ρ'
  | _ => .no
def dItET (f : En → R D) : En → R (List D) := fun ρ => (f ρ).bind fun d ρ' => match d with
  | .tuple ds => .ok (enumD ds) ρ'
  | _ => .no
theorem i_enumL (he : Ex X e te f) (hm : X.mg "enumerate" = none) (hg : Gl X "enumerate" := by rfl) (h1 : starEach [e] X.env = (false, eval e X.env) :: starEach [] X.env := by rfl) (hs : starEach [e] X.env = [(false, eval e X.env)] := by rfl) :
    Wd X (.Tuple elts kk tpos) (.Call (.Name "enumerate" p) [e] [] pos) (iEnum X.K (tCons te tNil)) (dItEL f) := by
  refine ⟨pi_enum hg hm (pa_cons he.p pa_nil h1) hs, fun P F H σ ρ ds ρ' Q r e k => ?_⟩
  obtain ⟨d, ρ1, e1, e⟩ := Rb e
  refine he.s P F H σ ρ d ρ1 _ r e1 fun v F1 H1 g1 h1 => ?_
  split at e
  · cases e
    cases h1 with
    | lst h2 t2 => exact ⟨_, _, rfl, SqL.of (g1.rep.sub _ _ h2), k _ F1 H1 g1 (wk_enumL h2 t2)⟩
  · cases e
theorem i_enumT (he : Ex X e te f) (hm : X.mg "enumerate" = none) (hg : Gl X "enumerate" := by rfl) (h1 : starEach [e] X.env = (false, eval e X.env) :: starEach [] X.env := by rfl) (hs : starEach [e] X.env = [(false, eval e X.env)] := by rfl) :
    Wd X (.Tuple elts kk tpos) (.Call (.Name "enumerate" p) [e] [] pos) (iEnT X.K (tCons te tNil)) (dItET f) := by
  refine ⟨pi_enT hg hm (pa_cons he.p pa_nil h1) hs, fun P F H σ ρ ds ρ' Q r e k => ?_⟩
  obtain ⟨d, ρ1, e1, e⟩ := Rb e
  refine he.s P F H σ ρ d ρ1 _ r e1 fun v F1 H1 g1 h1 => ?_
  split at e
  · cases e
    cases h1 with
    | tup h2 t2 => exact ⟨_, _, rfl, same_tup g1.rep.sub h2, k _ F1 H1 g1 (wk_enumT h2 t2)⟩
  · cases e
/-! ## zip -/
def zipD (ds es : List D) : List D := (ds.zip es).map fun p => .tuple [p.1, p.2]
theorem zipD_at {ds es : List D} {i : Nat} {d : D} (h : (zipD ds es)[i]? = some d) : ∃ x y, ds[i]? = some x ∧ es[i]? = some y ∧ d = .tuple [x, y] := by
  unfold zipD at h
  rw [List.getElem?_map] at h
  cases z : (ds.zip es)[i]? with
  | none => rw [z] at h; cases h
  | some q =>
    rw [z] at h
    simp only [Option.map_some, Option.some.injEq] at h
    rw [List.getElem?_zip_eq_some] at z
    exact ⟨_, _, z.1, z.2, h.symm⟩
theorem zipD_len (ds es : List D) : (zipD ds es).length = min ds.length es.length := by unfold zipD; rw [List.length_map, List.length_zip]
theorem wk_zipT {K : PySem.W.Frag} {F : Hp} {a b : Addr} {xs ys : List V} {ds es : List D} (h : SqT K F a xs) (t : DvA K F xs ds) (h' : SqT K F b ys) (t' : DvA K F ys es) : Wk K F (RZ.ItzT K a b) (zipD ds es) := by
  refine ⟨fun H => SqT K H a xs ∧ SqT K H b ys, YPair (fun i => xs[i]?) (fun i => ys[i]?), ⟨fun i H hi q => ?_, fun H q => ?_, fun i H v H' _ q y => ?_⟩, fun H s => ⟨same_tup s h, same_tup s h'⟩, fun i d F1 H x H' e s1 s2 y => ?_⟩
  · rw [zipD_len, ← dpa_len t, ← dpa_len t'] at hi
    have h1 : i < xs.length := by omega
    have h2 : i < ys.length := by omega
    exact ⟨xs, ys, xs[i], ys[i], q.1, q.2, by simp [h1], by simp [h2]⟩
  · exact ⟨xs, ys, q.1, q.2, by rw [zipD_len, ← dpa_len t, ← dpa_len t']; omega⟩
  · obtain ⟨T, x, z, h1, h2, h3, h4, h5⟩ := y
    exact ⟨T, x, z, h1, h2, h3, h4 xs q.1, h5 ys q.2⟩
  · obtain ⟨T, u, z, rfl, hT, rfl, h1, h2⟩ := y
    obtain ⟨dx, dy, e1, e2, rfl⟩ := zipD_at e
    obtain ⟨v, e3, hv⟩ := dpa_get' t e1
    obtain ⟨w, e4, hw⟩ := dpa_get' t' e2
    have h1 : xs[i]? = some u := h1
    have h2 : ys[i]? = some z := h2
    rw [h1] at e3; cases e3
    rw [h2] at e4; cases e4
    exact pair_new s2 hT (dp_mono s1 hv) (dp_mono s1 hw)
theorem wk_zipL {K : PySem.W.Frag} {F : Hp} {a b : Addr} {xs ys : List V} {ds es : List D} (h : F a = some (.lst xs)) (t : DvA K F xs ds) (h' : F b = some (.lst ys)) (t' : DvA K F ys es) : Wk K F (Itz K a b) (zipD ds es) := by
  refine ⟨_, _, walk_zip (by rw [zipD_len, ← dpa_len t, ← dpa_len t']), fun H s => ⟨SqL.of (s _ _ h), SqL.of (s _ _ h')⟩, fun i d F1 H x H' e s1 s2 y => ?_⟩
  obtain ⟨T, u, z, rfl, hT, rfl, h1, h2⟩ := y
  obtain ⟨dx, dy, e1, e2, rfl⟩ := zipD_at e
  obtain ⟨v, e3, hv⟩ := dpa_get' t e1
  obtain ⟨w, e4, hw⟩ := dpa_get' t' e2
  have h1 : xs[i]? = some u := h1
  have h2 : ys[i]? = some z := h2
  rw [h1] at e3; cases e3
  rw [h2] at e4; cases e4
  exact pair_new s2 hT (dp_mono s1 hv) (dp_mono s1 hw)
variable {e2 : Expr} {te2 : TE} {f2 : En → R D}
/-- two tuples, or two lists -/
def dItZ (f f2 : En → R D) : En → R (List D) := fun ρ => (f ρ).bind fun d ρ1 => (f2 ρ1).bind fun d2 ρ2 => match d with
  | .tuple ds => match d2 with
    | .tuple es => .ok (zipD ds es) ρ2
    | _ => .no
  | .list ds => match d2 with
    | .list es => .ok (zipD ds es) ρ2
    | _ => .no
  | _ => .no
theorem i_zip (he : Ex X e te f) (he2 : Ex X e2 te2 f2) (hm : X.mg "zip" = none) (hg : Gl X "zip" := by rfl) (h1 : starEach [e, e2] X.env = (false, eval e X.env) :: starEach [e2] X.env := by rfl) (h2 : starEach [e2] X.env = (false, eval e2 X.env) :: starEach [] X.env := by rfl) (hpl : (backTo pos (starEach [e2] X.env)).any (·.1) = false := by rfl) :
    Wd X (.Tuple elts kk tpos) (.Call (.Name "zip" p) [e, e2] [] pos) (RZ.iZipA X.K (tCons te (tCons te2 tNil))) (dItZ f f2) := by
  refine ⟨RZ.pi_zipA hg hm (pa_cons he.p (pa_cons he2.p pa_nil h2) h1) h1 hpl, fun P F H σ ρ ds ρ' Q r e k => ?_⟩
  obtain ⟨d, ρ1, e1, e⟩ := Rb e
  obtain ⟨d2, ρ2, e3, e⟩ := Rb e
  refine he.s P F H σ ρ d ρ1 _ r e1 fun v F1 H1 g1 q1 => ?_
  refine he2.s P F1 H1 σ ρ1 d2 ρ2 _ g1.rep e3 fun v2 F2 H2 g2 q2 => ?_
  have q1 := dp_mono (show Same F1 F2 from g2.fro) q1
  split at e
  · split at e
    · cases e
      cases q1 with
      | tup a1 t1 =>
        cases q2 with
        | tup a2 t2 => exact ⟨_, _, _, _, rfl, .inr ⟨same_tup g2.rep.sub a1, same_tup g2.rep.sub a2, k _ F2 H2 (g1.trans g2) (wk_zipT a1 t1 a2 t2)⟩⟩
    · cases e
  · split at e
    · cases e
      cases q1 with
      | lst a1 t1 =>
        cases q2 with
        | lst a2 t2 => exact ⟨_, _, _, _, rfl, .inl ⟨SqL.of (g2.rep.sub _ _ a1), SqL.of (g2.rep.sub _ _ a2), k _ F2 H2 (g1.trans g2) (wk_zipL a1 t1 a2 t2)⟩⟩
    · cases e
  · cases e
end
end L2.G

namespace L2.G
open PySem PySem.Spec PyProof.Rows

/-! ## a row of either kind is walked -/
def iSeq (K : PySem.W.Frag) (tl : TE) : TI := fun σ H R => tl σ H fun x H1 => ∃ a, x = .ref a ∧ (((∃ xs, SqL K H1 a xs) ∧ R (Itl K a) H1) ∨ ((∃ xs, SqT K H1 a xs) ∧ R (Itt K a) H1))
section
variable {X : Cx} {tg l e : Expr} {tl t te : TE} {f : En → R D}
theorem pi_seq (hl : PE X l tl) : PI X tg l (iSeq X.K tl) := by
  constructor
  intro pins s σ H R I h
  refine thn (hl.run pins s σ H _ I h) ?_
  rintro v s1 ⟨x, H1, I1, r1, a, rfl, q⟩
  cases r1
  have fp : ∀ b ∈ [s1.heap.objs.size], FpOk X pins H1 b := fun b hb => by
    cases List.mem_singleton.mp hb
    exact I1.fpOk (Nat.le_refl _) (I1.hok.fresh (Nat.le_refl _))
  rcases q with ⟨⟨xs, hq⟩, q⟩ | ⟨⟨xs, hq⟩, q⟩
  · obtain ⟨its, rv, p, hz⟩ := I1.list hq
    apply wpAny_pyIter_list p.isList
    exact ⟨_, [s1.heap.objs.size], _, _, H1, rfl, I1.kept (t' := s1.toks) (fun b o e => Heap.get?_push_of_some _ e), turn_list a _, ⟨_, Heap.get?_push_size _ rfl, rfl, rfl⟩, fp, q⟩
  · obtain ⟨its, rv, p, hz⟩ := I1.tuple hq
    apply wpAny_pyIter_tuple p
    exact ⟨_, [s1.heap.objs.size], _, _, H1, rfl, I1.kept (t' := s1.toks) (fun b o e => Heap.get?_push_of_some _ e), turn_tuple a _, ⟨_, Heap.get?_push_size _ rfl, rfl, rfl⟩, fp, q⟩
def dIt (f : En → R D) : En → R (List D) := fun ρ => (f ρ).bind fun d ρ' => match d with
  | .list ds => .ok ds ρ'
  | .tuple ds => .ok ds ρ'
  | _ => .no
theorem i_seq (h : Ex X e t f) : Wd X tg e (iSeq X.K t) (dIt f) := by
  refine ⟨pi_seq h.p, fun P F H σ ρ ds ρ' Q r e k => ?_⟩
  obtain ⟨d, ρ1, e1, e⟩ := Rb e
  refine h.s P F H σ ρ d ρ1 _ r e1 fun v F1 H1 g1 h1 => ?_
  split at e
  · cases e
    cases h1 with
    | lst h2 t2 => exact ⟨_, rfl, .inl ⟨⟨_, SqL.of (g1.rep.sub _ _ h2)⟩, k _ F1 H1 g1 (wk_list h2 t2)⟩⟩
  · cases e
    cases h1 with
    | tup h2 t2 => exact ⟨_, rfl, .inr ⟨⟨_, same_tup g1.rep.sub h2⟩, k _ F1 H1 g1 (wk_tup h2 t2)⟩⟩
  · cases e
def iEnumA (K : PySem.W.Frag) (ta : TA) : TI := fun σ H R => ta σ H fun vs H1 => ∃ a xs, vs = [.ref a] ∧ ((SqL K H1 a xs ∧ R (Ite K a) H1) ∨ (SqT K H1 a xs ∧ R (ItE K a) H1))
variable {ta : TA} {p pos tpos : Pos} {elts : List Expr} {kk : Nat}
theorem pi_enumA (hg : Gl X "enumerate") (hm : X.mg "enumerate" = none) (ha : PA X [e] ta) (hs : starEach [e] X.env = [(false, eval e X.env)]) : PI X (.Tuple elts kk tpos) (.Call (.Name "enumerate" p) [e] [] pos) (iEnumA X.K ta) := by
  constructor
  intro pins s σ H R I h
  refine Call_ (ld_blt I hg hm boot_enumerate (PyProof.Rows.callWith_type1 (thn (ha.run pos pins s σ H _ I h) ?_) hs rfl))
  rintro us s1 ⟨vs, H1, I1, r1, a, xs, rfl, q⟩
  obtain ⟨u, rfl, ru⟩ := vals1 r1
  cases ru
  have fp : ∀ {h' : Heap}, (∀ b o, s1.heap.get? b = some o → h'.get? b = some o) → ∀ b ∈ [s1.heap.objs.size + 1, s1.heap.objs.size], FpOk X pins H1 b := fun hk b hb => by
    have hle : s1.heap.objs.size ≤ b := by
      rcases List.mem_cons.mp hb with z | z
      · rw [z]; exact Nat.le_succ _
      · rw [List.mem_singleton.mp z]; exact Nat.le_refl _
    exact I1.fpOk hle (I1.hok.fresh hle)
  rcases q with ⟨hq, q⟩ | ⟨hq, q⟩
  · obtain ⟨its, rv, lp, hz⟩ := I1.list hq
    refine call_enumerate_list lp.isList fun h' he hit hsz hk => wpAny_pyIter_enum he ?_
    exact ⟨s1.heap.objs.size + 1, _, _, _, H1, rfl, I1.kept (t' := s1.toks) hk, turn_enum a (s1.heap.objs.size + 1) s1.heap.objs.size, ⟨⟨.none, he⟩, hit, Nat.succ_ne_self _⟩, fp hk, q⟩
  · obtain ⟨its, rv, tp, hz⟩ := I1.tuple hq
    have tp : s1.heap.IsTuple a its.toArray := tp
    have al : a < s1.heap.objs.size := by
      obtain ⟨o, ho, _⟩ := tp
      exact Heap.lt_size ho
    refine enum_tuple tp fun h' he hit hk => wpAny_pyIter_enum he ?_
    exact ⟨s1.heap.objs.size + 1, _, _, _, H1, rfl, I1.kept (t' := s1.toks) hk, turnE a (s1.heap.objs.size + 1) s1.heap.objs.size, ⟨⟨.none, he⟩, hit, Nat.succ_ne_self _, Nat.ne_of_lt al, fun z => absurd al (by rw [← z]; exact Nat.not_lt.mpr (Nat.le_succ _))⟩, fp hk, q⟩
theorem i_enum (he : Ex X e te f) (hm : X.mg "enumerate" = none) (hg : Gl X "enumerate" := by rfl) (h1 : starEach [e] X.env = (false, eval e X.env) :: starEach [] X.env := by rfl) (hs : starEach [e] X.env = [(false, eval e X.env)] := by rfl) :
    Wd X (.Tuple elts kk tpos) (.Call (.Name "enumerate" p) [e] [] pos) (iEnumA X.K (tCons te tNil)) (fun ρ => (dIt f ρ).bind fun ds ρ' => .ok (enumD ds) ρ') := by
  refine ⟨pi_enumA hg hm (pa_cons he.p pa_nil h1) hs, fun P F H σ ρ ds ρ' Q r e k => ?_⟩
  obtain ⟨ds0, ρ0, e0, e⟩ := Rb e
  cases e
  obtain ⟨d, ρ1, e1, e⟩ := Rb e0
  refine he.s P F H σ ρ d ρ1 _ r e1 fun v F1 H1 g1 h1 => ?_
  split at e
  · cases e
    cases h1 with
    | lst h2 t2 => exact ⟨_, _, rfl, .inl ⟨SqL.of (g1.rep.sub _ _ h2), k _ F1 H1 g1 (wk_enumL h2 t2)⟩⟩
  · cases e
    cases h1 with
    | tup h2 t2 => exact ⟨_, _, rfl, .inr ⟨same_tup g1.rep.sub h2, k _ F1 H1 g1 (wk_enumT h2 t2)⟩⟩
  · cases e
/-! ## truth of any datum -/
def truD : D → Option Bool
  | .none => some false
  | .bool b => some b
  | .int i => some (i != 0)
  | .str z => if z.length ≤ sizeLine then some (z.length != 0) else none
  | .list ds => some (!ds.isEmpty)
  | .tuple ds => some (!ds.isEmpty)
  | .dict _ => none
def dTru (f : En → R D) : En → R Bool := fun ρ => (f ρ).bind fun d ρ' => match truD d with
  | some b => .ok b ρ'
  | none => .no
theorem dva_empty {K : PySem.W.Frag} {F : Hp} {xs : List V} {ds : List D} (t : DvA K F xs ds) : xs.isEmpty = ds.isEmpty := by cases t <;> rfl
/-! ## y = [e for ..] -/
variable {elt iter : Expr} {ifs : List Expr} {scope : Scope} {wi : TI} {g : TG} {tt : TT} {fi : En → R (List D)} {ft : D → En → R Unit} {fc : En → R Bool} {fe : En → R D} {spos py : Pos} {y : Str} {i : Nat}
theorem p_setLc {own : List (Str × Nat)} (vs : List Nat) (hv : own.map (·.2) = vs) (hN : X.N.Nodup) (hy : X.N[i]? = some y) (hyl : X.env.scope.names.lookup y = some .local) (hsw : swapsWith (.ListComp elt [⟨tg, iter, ifs, 0⟩] scope pos) (some (.Name y py)) spos.line X.env = pure true) (hi : Wd X tg iter wi fi) (ok : blkC X.N X.env.scope scope own = true)
    (hg : ∀ (s : Shared) (H : Hp) (C : Addr) (cl : List (Str × Addr)) (fp : List Addr), Tg (X.blk s H scope (compEnvC scope cl C X.env) fp) tg g ft) (ha : AlG g vs) (ht : ∀ (s : Shared) (H : Hp) (C : Addr) (cl : List (Str × Addr)) (fp : List Addr), Tss (X.blk s H scope (compEnvC scope cl C X.env) fp) ifs tt fc)
    (he : ∀ (s : Shared) (H : Hp) (C : Addr) (cl : List (Str × Addr)) (fp : List Addr), Ex (X.blk s H scope (compEnvC scope cl C X.env) fp) elt te fe) (hc : X.calm = true) (hs : ∀ x, foldedSetIterable iter X.env x = pure x) :
    PS X (.Assign [.Name y py] (.ListComp elt [⟨tg, iter, ifs, 0⟩] scope pos) spos) (tAsg (tLc wi g tt te vs) (gName i)) ∧ SL X.K (tLc wi g tt te vs) (dLc fi ft fc fe vs) := by
  subst hv
  have dummy : Shared := {}
  exact ⟨ps_setLc hc hN hy hyl hsw hi.p (blkOk_by ok) (fun s H C cl fp => (hg s H C cl fp).p) (fun s H C cl fp => (ht s H C cl fp).p) (fun s H C cl fp => (he s H C cl fp).p) hs,
    sl_lc hi.s (hg dummy (fun _ => none) 0 [] []).s ha (ht dummy (fun _ => none) 0 [] []).s (he dummy (fun _ => none) 0 [] []).s⟩
theorem ss_asgL {K : PySem.W.Frag} {t : TE} {f : En → R (List D)} (h : SL K t f) : SS K (tAsg t (gName i)) (dAsgL i f) := by
  intro P F H σ ρ E r q
  obtain ⟨d, ρ1, e1, q⟩ := Rt q
  refine h P F H σ ρ d ρ1 _ r e1 fun a xs F1 H1 g1 h0 hF hH hd hn => ?_
  split at q
  · rename_i hfr
    exact q _ F1 H1 (g1.hold h0 hfr (fun _ z => nomatch z) ⟨a, rfl, hF, xs, hH, hd⟩ hn)
  · exact False.elim q
theorem se_new {K : PySem.W.Frag} {t : TE} {f : En → R (List D)} (h : SL K t f) : SE K t (dLst f) := by
  intro P F H σ ρ d ρ' Q r e k
  obtain ⟨ds, ρ1, e1, e⟩ := Rb e
  cases e
  refine h P F H σ ρ ds _ _ r e1 fun a xs F1 H1 g1 h0 hf hh hd hn => ?_
  have s1 : Same F1 (upd F1 a (.lst xs)) := fun b u e => by rw [upd_ne (ne_of_none e hf)]; exact e
  exact k _ _ _ (g1.freeze h0 hf hh hn) (.lst upd_same (dpa_mono s1 hd))
theorem ss_asg {K : PySem.W.Frag} {t : TE} {f : En → R D} (h : SE K t f) : SS K (tAsg t (gName i)) (dAsg i f) := by
  intro P F H σ ρ E r q
  obtain ⟨d, ρ1, e1, q⟩ := Rt q
  refine h P F H σ ρ d ρ1 _ r e1 fun v F1 H1 g1 h1 => ?_
  split at q
  · rename_i hfr
    exact q _ F1 H1 (g1.trans (Go.store g1.rep hfr (show isOwn (some (.val d)) = false from rfl) ⟨v, rfl, h1⟩))
  · exact False.elim q
theorem s_lcL {own : List (Str × Nat)} (vs : List Nat) (hv : own.map (·.2) = vs) (hN : X.N.Nodup) (hy : X.N[i]? = some y) (hyl : X.env.scope.names.lookup y = some .local) (hsw : swapsWith (.ListComp elt [⟨tg, iter, ifs, 0⟩] scope pos) (some (.Name y py)) spos.line X.env = pure true) (hi : Wd X tg iter wi fi) (ok : blkC X.N X.env.scope scope own = true)
    (hg : ∀ (s : Shared) (H : Hp) (C : Addr) (cl : List (Str × Addr)) (fp : List Addr), Tg (X.blk s H scope (compEnvC scope cl C X.env) fp) tg g ft) (ha : AlG g vs) (ht : ∀ (s : Shared) (H : Hp) (C : Addr) (cl : List (Str × Addr)) (fp : List Addr), Tss (X.blk s H scope (compEnvC scope cl C X.env) fp) ifs tt fc)
    (he : ∀ (s : Shared) (H : Hp) (C : Addr) (cl : List (Str × Addr)) (fp : List Addr), Ex (X.blk s H scope (compEnvC scope cl C X.env) fp) elt te fe) (hc : X.calm = true := by rfl) (hs : ∀ x, foldedSetIterable iter X.env x = pure x := by intro _; rfl) :
    Sm X (.Assign [.Name y py] (.ListComp elt [⟨tg, iter, ifs, 0⟩] scope pos) spos) (tAsg (tLc wi g tt te vs) (gName i)) (dAsgL i (dLc fi ft fc fe vs)) :=
  let q := p_setLc vs hv hN hy hyl hsw hi ok hg ha ht he hc hs
  ⟨q.1, ss_asgL q.2⟩
theorem s_lc {own : List (Str × Nat)} (vs : List Nat) (hv : own.map (·.2) = vs) (hN : X.N.Nodup) (hy : X.N[i]? = some y) (hyl : X.env.scope.names.lookup y = some .local) (hsw : swapsWith (.ListComp elt [⟨tg, iter, ifs, 0⟩] scope pos) (some (.Name y py)) spos.line X.env = pure true) (hi : Wd X tg iter wi fi) (ok : blkC X.N X.env.scope scope own = true)
    (hg : ∀ (s : Shared) (H : Hp) (C : Addr) (cl : List (Str × Addr)) (fp : List Addr), Tg (X.blk s H scope (compEnvC scope cl C X.env) fp) tg g ft) (ha : AlG g vs) (ht : ∀ (s : Shared) (H : Hp) (C : Addr) (cl : List (Str × Addr)) (fp : List Addr), Tss (X.blk s H scope (compEnvC scope cl C X.env) fp) ifs tt fc)
    (he : ∀ (s : Shared) (H : Hp) (C : Addr) (cl : List (Str × Addr)) (fp : List Addr), Ex (X.blk s H scope (compEnvC scope cl C X.env) fp) elt te fe) (hc : X.calm = true := by rfl) (hs : ∀ x, foldedSetIterable iter X.env x = pure x := by intro _; rfl) :
    Sm X (.Assign [.Name y py] (.ListComp elt [⟨tg, iter, ifs, 0⟩] scope pos) spos) (tAsg (tLc wi g tt te vs) (gName i)) (dAsg i (dLst (dLc fi ft fc fe vs))) :=
  let q := p_setLc vs hv hN hy hyl hsw hi ok hg ha ht he hc hs
  ⟨q.1, ss_asg (se_new q.2)⟩
/-! ## comparisons in a chain -/
def dCh (g : Ar → Ar → Option D) (x : D) (fb : En → R D) (k : D → En → R D) : En → R D := fun ρ => (fb ρ).bind fun y ρ1 => match g (.val x) (.val y) with
  | some (.bool true) => k y ρ1
  | some (.bool false) => .ok (.bool false) ρ1
  | _ => .no
def dChE (g : Ar → Ar → Option D) (x : D) (fb : En → R D) : En → R D := fun ρ => (fb ρ).bind fun y ρ1 => match g (.val x) (.val y) with
  | some z => .ok z ρ1
  | none => .no
def dChain2 (g g' : Ar → Ar → Option D) (fa fb fc : En → R D) : En → R D := fun ρ => (fa ρ).bind fun x ρ1 => dCh g x fb (fun y => dChE g' y fc) ρ1
def dChain3 (g g' g2 : Ar → Ar → Option D) (fa fb fc fd : En → R D) : En → R D := fun ρ => (fa ρ).bind fun x ρ1 => dCh g x fb (fun y => dCh g' y fc (fun z => dChE g2 z fd)) ρ1
variable {a b c d : Expr} {ta tb tc td : TE} {op op' op2 : CmpOp} {r r' r2 : R2} {gg gg' gg2 : Ar → Ar → Option D} {fa fb fc2 fd : En → R D}
theorem ch_bool {K : PySem.W.Frag} {F : Hp} {v : V} {z : D} {Y : Prop} (h : Dv K F v z) (hz : z = .bool true ∨ z = .bool false) (k : ∀ b, v = .bl b → z = .bool b → Y) : Y := by
  rcases hz with e | e <;> subst e <;> cases h <;> exact k _ rfl rfl
/-- one link: the answer is False, or the chain goes on -/
theorem ch_step {K : PySem.W.Frag} {rr : R2} {g : Ar → Ar → Option D} (hr : S2 K rr g) {tb : TE} {fb : En → R D} (hb : SE K tb fb) {P : Pn} {F H : Hp} {σ : St} {ρ ρ' : En} {x : V} {dx z : D} {kf : D → En → R D} {Q : VK} {Kt : V → Hp → Prop} (q : Rep K P F H σ ρ) (hx : Dv K F x dx) (e : dCh g dx fb kf ρ = .ok z ρ')
    (kk : ∀ v F' H', Go K P F H σ ρ F' H' σ ρ' → Dv K F' v z → Q v H')
    (next : ∀ dy ρ1, (∀ y F1 H1, Go K P F H σ ρ F1 H1 σ ρ1 → Dv K F1 y dy → kf dy ρ1 = .ok z ρ' → Kt y H1)) :
    tb σ H fun y H2 => rr x y H2 fun w H3 => ∃ k, w = .bl k ∧ (if k = true then Kt y H3 else Q (.bl false) H3) := by
  obtain ⟨dy, ρ1, e1, e⟩ := Rb e
  refine hb P F H σ ρ dy ρ1 _ q e1 fun y F1 H1 g1 h1 => ?_
  cases ez : g (.val dx) (.val dy) with
  | none => rw [ez] at e; cases e
  | some zz =>
    rw [ez] at e
    refine hr F1 H1 x y (.val dx) (.val dy) zz _ g1.rep.sub (dp_mono (show Same F F1 from g1.fro) hx) h1 ez fun w F2 H2 gr hw => ?_
    have g2 := g1.trans (Go.grow g1.rep gr)
    cases zz with
    | bool k =>
      cases hw
      refine ⟨k, rfl, ?_⟩
      cases k with
      | true => exact iteT (next dy ρ1 y F2 H2 g2 (dp_mono (show Same F1 F2 from gr.fro) h1) e)
      | false => cases e; exact iteF (kk _ F2 H2 g2 (.bl false))
    | _ => cases e
theorem ch_end {K : PySem.W.Frag} {rr : R2} {g : Ar → Ar → Option D} (hr : S2 K rr g) {tb : TE} {fb : En → R D} (hb : SE K tb fb) {P : Pn} {F H : Hp} {σ : St} {ρ ρ' : En} {x : V} {dx z : D} {Q : VK} (q : Rep K P F H σ ρ) (hx : Dv K F x dx) (e : dChE g dx fb ρ = .ok z ρ')
    (kk : ∀ v F' H', Go K P F H σ ρ F' H' σ ρ' → Dv K F' v z → Q v H') : tb σ H fun y H2 => rr x y H2 Q := by
  obtain ⟨dy, ρ1, e1, e⟩ := Rb e
  refine hb P F H σ ρ dy ρ1 _ q e1 fun y F1 H1 g1 h1 => ?_
  cases ez : g (.val dx) (.val dy) with
  | none => rw [ez] at e; cases e
  | some zz =>
    rw [ez] at e
    cases e
    refine hr F1 H1 x y (.val dx) (.val dy) _ _ g1.rep.sub (dp_mono (show Same F F1 from g1.fro) hx) h1 ez fun w F2 H2 gr hw => ?_
    exact kk w F2 H2 (g1.trans (Go.grow g1.rep gr)) hw
theorem se_ch2 {K : PySem.W.Frag} (hr : S2 K r gg) (hr' : S2 K r' gg') (ha : SE K ta fa) (hb : SE K tb fb) (hc : SE K tc fc2) : SE K (tChain r r' ta tb tc) (dChain2 gg gg' fa fb fc2) := by
  intro P F H σ ρ z ρ' Q q e kk
  obtain ⟨dx, ρ1, e1, e⟩ := Rb e
  refine ha P F H σ ρ dx ρ1 _ q e1 fun x F1 H1 g1 h1 => ?_
  exact ch_step (Kt := fun y H3 => tc σ H3 fun w' H4 => r' y w' H4 Q) hr hb g1.rep h1 e (fun v F' H' g => kk v F' H' (g1.trans g)) fun dy ρ2 y F2 H2 g2 h2 e2 => ch_end hr' hc g2.rep h2 e2 fun v F' H' g => kk v F' H' ((g1.trans g2).trans g)
theorem x_ch2 (ho : OpR X (compareOp op) r) (hr : S2 X.K r gg) (ho' : OpR X (compareOp op') r') (hr' : S2 X.K r' gg') (ha : Ex X a ta fa) (hb : Ex X b tb fb) (hc : Ex X c tc fc2) (hm : lastMarks [op, op'] [b, c] = false := by with_unfolding_all rfl) :
    Ex X (.Compare a [op, op'] [b, c] pos) (tChain r r' ta tb tc) (dChain2 gg gg' fa fb fc2) := ⟨pe_chain ho ho' ha.p hb.p hc.p hm, se_ch2 hr hr' ha.s hb.s hc.s⟩
theorem t_ch2 (ho : OpR X (compareOp op) r) (hr : S2 X.K r gg) (ho' : OpR X (compareOp op') r') (hr' : S2 X.K r' gg') (ha : Ex X a ta fa) (hb : Ex X b tb fb) (hc : Ex X c tc fc2) (hm : lastMarks [op, op'] [b, c] = false := by with_unfolding_all rfl) :
    Ts X (.Compare a [op, op'] [b, c] pos) (tTest (tChain r r' ta tb tc)) (dB (dChain2 gg gg' fa fb fc2)) := ⟨pt_chain ho ho' ha.p hb.p hc.p hm, st_test (se_ch2 hr hr' ha.s hb.s hc.s)⟩
def tCh3 (r r' r2 : R2) (ta tb tc td : TE) : TE := fun σ H Q => ta σ H fun x H1 => tb σ H1 fun y H2 => r x y H2 fun z H3 => ∃ k, z = .bl k ∧ (if k = true then (tc σ H3 fun w H4 => r' y w H4 fun z H5 => ∃ k, z = .bl k ∧ (if k = true then (td σ H5 fun u H6 => r2 w u H6 Q) else Q (.bl false) H5)) else Q (.bl false) H3)
theorem pe_ch3 (ho : OpR X (compareOp op) r) (ho' : OpR X (compareOp op') r') (ho2 : OpR X (compareOp op2) r2) (ha : PE X a ta) (hb : PE X b tb) (hc : PE X c tc) (hd : PE X d td) (hm : lastMarks [op, op', op2] [b, c, d] = false) : PE X (.Compare a [op, op', op2] [b, c, d] pos) (tCh3 r r' r2 ta tb tc td) := by
  constructor
  intro pins s σ H Q I h
  refine Compare_chain (thn (ha.run pins s σ H _ I h) ?_) hm
  rintro v s1 ⟨x, H1, I1, r1, q1⟩
  refine chain_link (thn (hb.run pins s1 σ H1 _ I1 q1) ?_)
  rintro u s2 ⟨y, H2, I2, ry, q2⟩
  refine thn (ho pins s2 σ H2 x y v u _ I2 r1 ry q2) ?_
  rintro c1 s3 ⟨z, H3, I3, r3, k, rfl, q3⟩
  cases r3
  refine wpAny_truthy_bool ?_
  cases k with
  | false => exact ite_ff ⟨.bl false, H3, I3, rfl, q3⟩
  | true =>
    refine ite_tt (chain_link (thn (hc.run pins s3 σ H3 _ I3 q3) ?_))
    rintro w s4 ⟨y2, H4, I4, rw4, q4⟩
    refine thn (ho' pins s4 σ H4 y y2 u w _ I4 ry rw4 q4) ?_
    rintro c2 s5 ⟨z2, H5, I5, r5, k2, rfl, q5⟩
    cases r5
    refine wpAny_truthy_bool ?_
    cases k2 with
    | false => exact ite_ff ⟨.bl false, H5, I5, rfl, q5⟩
    | true =>
      refine ite_tt (chain_last (thn (hd.run pins s5 σ H5 _ I5 q5) ?_))
      rintro w' s6 ⟨y3, H6, I6, r6, q6⟩
      exact ho2 pins s6 σ H6 y2 y3 w w' Q I6 rw4 r6 q6
theorem x_ch3 (ho : OpR X (compareOp op) r) (hr : S2 X.K r gg) (ho' : OpR X (compareOp op') r') (hr' : S2 X.K r' gg') (ho2 : OpR X (compareOp op2) r2) (hr2 : S2 X.K r2 gg2) (ha : Ex X a ta fa) (hb : Ex X b tb fb) (hc : Ex X c tc fc2) (hd : Ex X d td fd) (hm : lastMarks [op, op', op2] [b, c, d] = false := by with_unfolding_all rfl) :
    Ex X (.Compare a [op, op', op2] [b, c, d] pos) (tCh3 r r' r2 ta tb tc td) (dChain3 gg gg' gg2 fa fb fc2 fd) := by
  refine ⟨pe_ch3 ho ho' ho2 ha.p hb.p hc.p hd.p hm, fun P F H σ ρ z ρ' Q q e kk => ?_⟩
  obtain ⟨dx, ρ1, e1, e⟩ := Rb e
  refine ha.s P F H σ ρ dx ρ1 _ q e1 fun x F1 H1 g1 h1 => ?_
  exact ch_step (Kt := fun y H3 => tc σ H3 fun w H4 => r' y w H4 fun z H5 => ∃ k, z = .bl k ∧ (if k = true then (td σ H5 fun u H6 => r2 w u H6 Q) else Q (.bl false) H5)) hr hb.s g1.rep h1 e (fun v F' H' g => kk v F' H' (g1.trans g)) fun dy ρ2 y F2 H2 g2 h2 e2 =>
    ch_step (Kt := fun w H5 => td σ H5 fun u H6 => r2 w u H6 Q) hr' hc.s g2.rep h2 e2 (fun v F' H' g => kk v F' H' ((g1.trans g2).trans g)) fun dz ρ3 w F3 H3 g3 h3 e3 => ch_end hr2 hd.s g3.rep h3 e3 fun v F' H' g => kk v F' H' (((g1.trans g2).trans g3).trans g)
end
/-! ## a def as it stands, without defaults or with -/
section
variable {P : Program} {w : World} {K : PySem.W.Frag} {mg : Str → Option Value} {base : Heap}
/-- a def whose body is known -/
theorem fn_den {k : Nat} {f : Addr} {fd : FuncData} {x qual : Str} {params : Arguments} {body : List Stmt} {scope : Scope} {N ps : List Str} {g : En → RS}
    (F : ∃ (oc : Value) (od : Option Addr) (dV kV doc pm : Value) (an : Option Addr) (cdv ct : Value) (osl : Array (Option Value)), fd = PySem.W.fnOf x qual params body scope dV kV doc pm an cdv ct ∧ K.lookup f = some ⟨oc, od, .func fd, osl⟩ ∧ PySem.W.codeIn K cdv qual = true)
    (S : FnScope N ps scope) (hN : ps.length ≤ N.length)
    (hb : ∀ (cdv : Value) (A : Around) (outer : List Env) (s : Shared) (H : Hp) (E : XK), A.guards = some [] → Room k (A.deeper (envOfC qual scope s.heap.objs.size f cdv)) → ∃ t, Bl (cxOf CX0 P w K mg base N qual scope f cdv A outer s H E).nox body t g) :
    FnA P w K mg base (k + 1) f fd ps (spG K ps.length (fnOf (N.length - ps.length) g)) := by
  obtain ⟨oc, od, dV, kV, doc, pm, an, cdv, ct, osl, rfl, lk, hcd⟩ := F
  refine fnA_of lk hcd S (fun vs H Q E h => h.1) fun A outer s H vs Q E hg hr h => ?_
  obtain ⟨hl, F, ss, r, ss', s1, a, inj, e, kk⟩ := h
  obtain ⟨t, ht⟩ := hb cdv A outer s H E hg hr
  refine ⟨t, ht.p.nox, ?_⟩
  refine ht.s (pnOf vs ss) F H (start N vs) _ _ (rep_start s1 a inj (by rw [hl]; exact hN)) ?_
  unfold fnOf at e
  rw [hl]
  cases z : g (env0 (N.length - ps.length) ss) with
  | nx ρ' =>
    rw [z] at e; cases e
    intro σ' F' H' go
    rw [← hl] at go
    exact kk .non F' H' (aft_of a go) .non
  | ret d ρ' =>
    rw [z] at e; cases e
    intro v σ' F' H' go hv
    rw [← hl] at go
    exact kk v F' H' (aft_of a go) hv
  | retK d ρ' =>
    rw [z] at e; cases e
    intro b σ' F' H' go hv hn h0
    rw [← hl] at go
    exact kk (.ref b) F' H' (aft_of a go) ⟨b, rfl, hv, h0⟩
  | bk ρ' => rw [z] at e; cases e
  | ct ρ' => rw [z] at e; cases e
  | no => rw [z] at e; cases e
/-- a callee, for all callers -/
structure Cal (P : Program) (w : World) (K : PySem.W.Frag) (mg : Str → Option Value) (base : Heap) (x : Str) (k : Nat) (fd : FuncData) (ps : List Str) (fn : Fn) : Prop where
  ex : ∃ f : Addr, FnA P w K mg base k f fd ps (spG K ps.length fn) ∧ mg x = some (.ref f) ∧ PySem.W.keepIn K (.ref f) = true
/-- where a def of the text stands -/
structure Dfn (K : PySem.W.Frag) (mg : Str → Option Value) (x : Str) (st : Stmt) (f : Addr) (fd : FuncData) : Prop where
  ex : ∃ (oc : Value) (od : Option Addr) (dV kV doc pm : Value) (an : Option Addr) (cdv ct : Value) (osl : Array (Option Value)), fd = PySem.W.fnOf x x (defArgs st) (defBody st) (defScope st) dV kV doc pm an cdv ct ∧ K.lookup f = some ⟨oc, od, .func fd, osl⟩ ∧ PySem.W.codeIn K cdv x = true
  kp : PySem.W.keepIn K (.ref f) = true
  at_ : mg x = some (.ref f)
theorem Dfn.cal {x : Str} {st : Stmt} {f : Addr} {fd : FuncData} {N ps : List Str} {k : Nat} {g : En → RS} (F : Dfn K mg x st f fd) (S : FnScope N ps (defScope st)) (hN : ps.length ≤ N.length)
    (hb : ∀ (cdv : Value) (A : Around) (outer : List Env) (s : Shared) (H : Hp) (E : XK), A.guards = some [] → Room k (A.deeper (envOfC x (defScope st) s.heap.objs.size f cdv)) → ∃ t, Bl (cxOf CX0 P w K mg base N x (defScope st) f cdv A outer s H E).nox (defBody st) t g) :
    Cal P w K mg base x (k + 1) fd ps (fnOf (N.length - ps.length) g) := ⟨f, fn_den F.ex S hN hb, F.at_, F.kp⟩
theorem Cal.fk {X : Cx} {x : Str} {j k : Nat} {fd : FuncData} {ps : List Str} {fn : Fn} (c : Cal X.prog X.w X.K X.mg X.base x j fd ps fn) (h : j ≤ k) : Fk X x k fd ps fn := by
  obtain ⟨f, F, e, q⟩ := c.ex
  exact ⟨f, F.mono h, e, q⟩
end
end L2.G

namespace L2.G
open PySem PySem.Spec PyProof.Rows

/-! ## the law's def, called from the top -/
/-- the one call that the row asks for -/
theorem top_call {P : Program} {w : World} {K : PySem.W.Frag} {m1 m2 : Str → Option Value} {k : Nat} {f p : Addr} {fd : FuncData} {x : Str} {fn : Fn} {t : Shared} {us : List Value} {ks : List Int}
    (inK : K.In t.heap) (n1 : t.heap.Ns mainGlobals m1) (n2 : t.heap.Ns builtinsNs m2) (boot : ∀ y : Str, y ≠ "__name__" → m2 y = bootBuiltins y) (free : t.heap.NoLimit) (noG : t.gens = #[])
    (at_ : t.heap.get? p = some { cls := .type "list", data := .seq us.toArray }) (nums : IntsAre us ks) (few : ks.length ≤ sizeLine) (room : Room k callerA) (g0 : callerA.guards = some [])
    (F : ∀ b : Heap, K.In b → b.Ns mainGlobals m1 → FnA P w K m1 b k f fd [x] (spG K 1 fn)) (bd : ∀ (s : Shared) (u : Value), BindsTo s fd ⟨[u], []⟩ [(x, u)])
    (good : ∃ ss, fn [.scr ks] = .ok (.d (.bool true)) ss) :
    codeAny (model P w) callerA (.call (.ref f) ⟨[.ref p], []⟩) (fun r s' => r = .ok (.ret (.bool true)) ∧ OldK t.heap s'.heap ∧ s'.os = t.os ∧ AllBare s'.gens) t := by
  have vv := vals_ints nums
  have len := nums.length
  obtain ⟨so, eo⟩ := good
  have main : ∀ H : Hp, (∀ c, H c = none ∨ ∃ ob zs, H c = some (.frz ob (.lst zs))) → SqL K H p (ks.map V.int) → HOk P w H t.heap → (∀ c, H c ≠ none → c = p) → (H p ≠ none → K.lookup p = none) →
      codeAny (model P w) callerA (.call (.ref f) ⟨[.ref p], []⟩) (fun r s' => r = .ok (.ret (.bool true)) ∧ OldK t.heap s'.heap ∧ s'.os = t.os ∧ AllBare s'.gens) t := by
    intro H only sq hk alone out
    have seen : ∀ {c : Addr} {ob : Obj}, t.heap.get? c = some ob → H c = none → (hidT t.heap H).get? c = some ob := fun z1 z2 => hidT_get z1 z2
    have dct : ∀ {c : Addr} {ob : Obj} {es : Array DictEntry} {z : Nat}, t.heap.get? c = some ob → ob.data = .dict es z → H c = none := by
      intro c ob es z z1 z2
      by_cases nn : H c = none
      · exact nn
      · cases alone c nn
        rw [at_] at z1
        cases z1
        exact absurd (show Data.seq us.toArray _ = Data.dict es z from z2) (fun bad => by cases bad)
    have spaces : ∀ {c : Addr} {mm : Str → Option Value}, t.heap.Ns c mm → (hidT t.heap H).Ns c mm := by
      rintro c mm ⟨ob, es, z, z1, z2, z3⟩
      exact ⟨ob, es, z, seen z1 (dct z1 z2), z2, z3⟩
    have kb : K.In (hidT t.heap H) := by
      intro c ob z
      refine seen (inK c ob z) ?_
      by_cases nn : H c = none
      · exact nn
      · cases alone c nn
        rw [out nn] at z
        cases z
    obtain ⟨mc, l1, l2⟩ := free
    have md : Mod K m1 (hidT t.heap H) := ⟨kb, spaces n1, ⟨m2, spaces n2, boot⟩, mc, spaces l1, l2⟩
    have nil_ : ∀ c, c ∈ ([] : List Addr) → False := fun c z => by cases z
    have env : Env0 P w K m1 (hidT t.heap H) callerA [] t H := ⟨rfl, md, fun c ob z => of_hidT z, Nat.le_of_eq (hidT_size _ _), trivial, fun c z => (nil_ c z).elim, hk, .of_eq noG⟩
    have want : spG K 1 fn [.ref p] H (fun v _ => v = .bl true) (fun _ _ _ => False) := by
      refine ⟨rfl, H, [.scr ks], _, _, fun c u z => z, .cons ⟨p, rfl, sq⟩ .nil, ?_, eo, fun v F' H' _ rv => ?_⟩
      · rintro i j a ⟨_, k1, z⟩
        cases i with
        | zero => cases z
        | succ i => cases z
      · cases (show Dv K F' v (.bool true) from rv)
        rfl
    refine codeAny_mono ((F _ kb (spaces n1)).run callerA [] t H ⟨[.ref p], []⟩ [.ref p] [.ref p] _ _ g0 room env (bd t (.ref p)) (.cons rfl .nil) want) fun r s' got => ?_
    rcases r with e | fl
    · exact False.elim got
    · cases fl with
      | ret u =>
        obtain ⟨v, H', o1, o2, un, hk', rv, q⟩ := got
        cases (show v = .bl true from q)
        cases (show u = Value.bool true from rv)
        refine ⟨rfl, OldK.of_keep fun c ob z => ?_, o1, o2⟩
        rcases only c with nn | ⟨o', zs, nn⟩
        · exact un.keep c ob z nn (fun bad => nil_ c bad) (by simp)
        · obtain ⟨z1, _⟩ := hk c _ nn
          obtain ⟨z2, _⟩ := hk' c _ (un.frzs c o' _ nn)
          rw [z] at z1
          cases z1
          exact z2
      | _ => exact False.elim got
  by_cases kp : K.lookup p = none
  · have same : (fun c => if c = p then some (HO.frz { cls := .type "list", data := .seq us.toArray } (.lst (ks.map V.int))) else none) p = some (HO.frz { cls := .type "list", data := .seq us.toArray } (.lst (ks.map V.int))) := if_pos rfl
    refine main (fun c => if c = p then some (.frz { cls := .type "list", data := .seq us.toArray } (.lst (ks.map V.int))) else none) (fun c => ?_) (.inl (.inr ⟨_, same⟩)) (fun c u z => ?_) (fun c z => Decidable.byContradiction fun ne => z (if_neg ne)) (fun _ => kp)
    · by_cases e : c = p
      · exact .inr ⟨_, _, if_pos e⟩
      · exact .inl (if_neg e)
    · have e : c = p := Decidable.byContradiction fun ne => by
        have z' := (if_neg ne).symm.trans z
        cases z'
      subst e
      cases same.symm.trans z
      exact ⟨at_, by rw [List.length_map]; exact few, us, _, vv, at_⟩
  · obtain ⟨ob, kp⟩ := Option.ne_none_iff_exists'.mp kp
    cases at_.symm.trans (inK p ob kp)
    exact main (fun _ => none) (fun _ => .inl rfl) (.inr ⟨_, us.toArray, _, kp, rfl, rfl, rfl, by rw [List.size_toArray, len]; exact few, by simpa using vv⟩) (fun c u z => by cases (show none = some u from z)) (fun c z => (z rfl).elim) fun z => (z rfl).elim
/-- what the head's tactic leaves -/
theorem top_walk {l : PySem.W.OpenLaw} {n k : Nat} {q : Program} {loose : List Str} {XP : (Str → Option Value) → Heap → Prop} {YP : World → Heap → Prop} {d : DefRec} {K : Params → PySem.W.Frag} {x : Str} {fn : Fn}
    (most : l.most = some n) (few : n ≤ sizeLine) (df : d.params.defaults = []) (room : Room k callerA) (g0 : callerA.guards = some [])
    (hY : ∀ (w : World) (h : Heap), YP w h → (K w.params).In h)
    (good : ∀ ks : List Int, ks.length ≤ n → ∃ ss, fn [.scr ks] = .ok (.d (.bool true)) ss)
    (F : ∀ (w : World) (mg : Str → Option Value) (f : Addr) (h : Heap), (K w.params).In h → h.Ns mainGlobals mg → mg d.name = some (.ref f) →
      ∃ fd : FuncData, (∀ (s : Shared) (u : Value), BindsTo s fd ⟨[u], []⟩ [(x, u)]) ∧ ∀ b : Heap, (K w.params).In b → b.Ns mainGlobals mg → FnA l.prog w (K w.params) mg b k f fd [x] (spG (K w.params) 1 fn)) :
    PySem.W.WalkO q loose XP YP l.row.toRowW d [] (fun f vs => PySem.call f vs) := by
  refine Att.attach_call most df fun w _ t m1 m2 f _ _ _ _ p us ks G Y _ _ _ hf at_ nums le noG => ?_
  have inK := hY w _ Y
  obtain ⟨fd, bd, ff⟩ := F w m1 f _ inK G.T.g hf
  exact top_call inK G.T.g G.T.b G.T.builtins G.T.nolimit noG at_ nums (Nat.le_trans le few) room g0 ff bd (good ks le)
end L2.G

namespace L2.G
open PySem PySem.Spec PyProof.Rows
/-! ## short names for what the printer prints -/
def oS (i : Nat) : En → R AV := fun ρ => match slD ρ i with | some _ => .ok (.s i) ρ | none => .no
def oK (f : En → R (List (Key × D))) : En → R AV := fun ρ => (f ρ).bind fun kvs ρ' => .ok (.k kvs) ρ'
def rN : En → RS := fun ρ => .ret .none ρ
def rK (f : En → R (List (Key × D))) : En → RS := fun ρ => (f ρ).then fun d ρ' => .retK d ρ'
def dEn (f : En → R D) : En → R (List D) := fun ρ => (dIt f ρ).bind fun ds ρ' => .ok (enumD ds) ρ'
def pNil : En → R (List (Key × D)) := fun ρ => .ok [] ρ
def pCons (k : Str) (f : En → R D) (g : En → R (List (Key × D))) : En → R (List (Key × D)) := fun ρ => (f ρ).bind fun d ρ1 => (g ρ1).bind fun l ρ2 => .ok ((Sum.inr k, d) :: l) ρ2
def gSum : List Ar → Option D := gInts fun ns => some (.int ns.sum)
def gAny : List Ar → Option D := gBools fun ns => .bool (ns.any id)
def gAll : List Ar → Option D := gBools fun ns => .bool (ns.all id)
section
variable {X : Cx} {x : Str} {p pos : Pos} {e : Expr} {es : List Expr} {kws : List Keyword} {j k n : Nat} {fd : FuncData} {ps ks : List Str} {fn : Fn} {ord : List Nat} {ds : List Value} {dvs : List V} {dds : List D} {t tk : TA} {fa fk : En → R (List AV)}
def dCl (fn : Fn) (fa fk : En → R (List AV)) (ord : List Nat) (dds : List D) : En → R D := dCallD fn (dArgs fa fk ord dds)
def dClK (fn : Fn) (fa fk : En → R (List AV)) (ord : List Nat) (dds : List D) : En → R (List (Key × D)) := dCallK fn (dArgs fa fk ord dds)
theorem x_call {K0 : PySem.W.Frag} {P0 : Program} {w0 : World} {mg0 : Str → Option Value} {b0 : Heap} (c : Cal P0 w0 K0 mg0 b0 x j fd ps fn) (hj : j ≤ k) (hG : X.A.guards = some []) (hr : Room k X.A) (hb : BindK K0 fd ps [] n ord ds) (hd : Vals dvs ds) (hD : ∀ F, DvA K0 F dvs dds) (ha : As X (e :: es) t fa) (hn : ∀ ρ as ρ', fa ρ = .ok as ρ' → as.length = n)
    (e0 : X.prog = P0 ∧ X.w = w0 ∧ X.K = K0 ∧ X.mg = mg0 ∧ X.base = b0 := by exact ⟨rfl, rfl, rfl, rfl, rfl⟩) (ho : ord.length = ps.length := by rfl) (hor : ∀ i ∈ ord, i < n + 0 + dds.length := by decide) (hg : Gl X x := by rfl) (hdb : (x == ("__debug__" : Str)) = false := by decide)
    (he : starEach (e :: es) X.env = (false, eval e X.env) :: starEach es X.env := by rfl) (hpl : (backTo pos (starEach es X.env)).any (·.1) = false := by rfl) : Ex X (.Call (.Name x p) (e :: es) [] pos) (tCallG (spG K0 ps.length fn) n 0 ord dvs t tNil) (dCl fn fa dNil ord dds) := by
  obtain ⟨rfl, rfl, rfl, rfl, rfl⟩ := e0
  exact x_of (ks := []) (p_call (c.fk hj) hG hr hb hd ha.p hg hdb he hpl) rfl ha.s (k_nil (X := X)).s hn ln_nil ho hor hD
theorem n_call {K0 : PySem.W.Frag} {P0 : Program} {w0 : World} {mg0 : Str → Option Value} {b0 : Heap} (c : Cal P0 w0 K0 mg0 b0 x j fd ps fn) (hj : j ≤ k) (hG : X.A.guards = some []) (hr : Room k X.A) (hb : BindK K0 fd ps [] n ord ds) (hd : Vals dvs ds) (hD : ∀ F, DvA K0 F dvs dds) (ha : As X (e :: es) t fa) (hn : ∀ ρ as ρ', fa ρ = .ok as ρ' → as.length = n)
    (e0 : X.prog = P0 ∧ X.w = w0 ∧ X.K = K0 ∧ X.mg = mg0 ∧ X.base = b0 := by exact ⟨rfl, rfl, rfl, rfl, rfl⟩) (ho : ord.length = ps.length := by rfl) (hor : ∀ i ∈ ord, i < n + 0 + dds.length := by decide) (hg : Gl X x := by rfl) (hdb : (x == ("__debug__" : Str)) = false := by decide)
    (he : starEach (e :: es) X.env = (false, eval e X.env) :: starEach es X.env := by rfl) (hpl : (backTo pos (starEach es X.env)).any (·.1) = false := by rfl) : Nk X (.Call (.Name x p) (e :: es) [] pos) (tCallG (spG K0 ps.length fn) n 0 ord dvs t tNil) (dClK fn fa dNil ord dds) := by
  obtain ⟨rfl, rfl, rfl, rfl, rfl⟩ := e0
  exact nk_of (ks := []) (p_call (c.fk hj) hG hr hb hd ha.p hg hdb he hpl) rfl ha.s (k_nil (X := X)).s hn ln_nil ho hor hD
theorem x_callK {K0 : PySem.W.Frag} {P0 : Program} {w0 : World} {mg0 : Str → Option Value} {b0 : Heap} (c : Cal P0 w0 K0 mg0 b0 x j fd ps fn) (hj : j ≤ k) (hG : X.A.guards = some []) (hr : Room k X.A) (hb : BindK K0 fd ps ks 0 ord ds) (hd : Vals dvs ds) (hD : ∀ F, DvA K0 F dvs dds) (hk : Ks X kws tk fk) (hm : ∀ ρ as ρ', fk ρ = .ok as ρ' → as.length = ks.length)
    (e0 : X.prog = P0 ∧ X.w = w0 ∧ X.K = K0 ∧ X.mg = mg0 ∧ X.base = b0 := by exact ⟨rfl, rfl, rfl, rfl, rfl⟩) (ho : ord.length = ps.length := by rfl) (hor : ∀ i ∈ ord, i < 0 + ks.length + dds.length := by decide) (hg : Gl X x := by rfl) (hdb : (x == ("__debug__" : Str)) = false := by decide)
    (hall : (backToKw pos (keywordEach kws X.env)).all (·.1.isSome) = true := by rfl) (hks : (backToKw pos (keywordEach kws X.env)).filterMap (·.1) = ks := by rfl)
    (hpl : ((backTo pos (starEach [] X.env)).any (·.1) || (backToKw pos (keywordEach kws X.env)).any (·.1.isNone)) = false := by rfl) : Ex X (.Call (.Name x p) [] kws pos) (tCallG (spG K0 ps.length fn) 0 ks.length ord dvs tNil tk) (dCl fn dNil fk ord dds) := by
  obtain ⟨rfl, rfl, rfl, rfl, rfl⟩ := e0
  exact x_of (p_callK (c.fk hj) hG hr hb hd hk.p hg hdb hall hks hpl) rfl (a_nil (X := X)).s hk.s ln_nil hm ho hor hD
theorem x_callM {K0 : PySem.W.Frag} {P0 : Program} {w0 : World} {mg0 : Str → Option Value} {b0 : Heap} (c : Cal P0 w0 K0 mg0 b0 x j fd ps fn) (hj : j ≤ k) (hG : X.A.guards = some []) (hr : Room k X.A) (hb : BindK K0 fd ps ks n ord ds) (hd : Vals dvs ds) (hD : ∀ F, DvA K0 F dvs dds) (ha : As X (e :: es) t fa) (hn : ∀ ρ as ρ', fa ρ = .ok as ρ' → as.length = n) (hk : Ks X kws tk fk) (hm : ∀ ρ as ρ', fk ρ = .ok as ρ' → as.length = ks.length)
    (e0 : X.prog = P0 ∧ X.w = w0 ∧ X.K = K0 ∧ X.mg = mg0 ∧ X.base = b0 := by exact ⟨rfl, rfl, rfl, rfl, rfl⟩) (ho : ord.length = ps.length := by rfl) (hor : ∀ i ∈ ord, i < n + ks.length + dds.length := by decide) (hg : Gl X x := by rfl) (hdb : (x == ("__debug__" : Str)) = false := by decide)
    (hall : (backToKw pos (keywordEach kws X.env)).all (·.1.isSome) = true := by rfl) (hks : (backToKw pos (keywordEach kws X.env)).filterMap (·.1) = ks := by rfl) (he : starEach (e :: es) X.env = (false, eval e X.env) :: starEach es X.env := by rfl)
    (hpl : ((backTo pos (starEach (e :: es) X.env)).any (·.1) || (backToKw pos (keywordEach kws X.env)).any (·.1.isNone)) = false := by rfl) : Ex X (.Call (.Name x p) (e :: es) kws pos) (tCallG (spG K0 ps.length fn) n ks.length ord dvs t tk) (dCl fn fa fk ord dds) := by
  obtain ⟨rfl, rfl, rfl, rfl, rfl⟩ := e0
  exact x_of (p_callM (c.fk hj) hG hr hb hd ha.p hk.p hg hdb hall hks he hpl) rfl ha.s hk.s hn hm ho hor hD
theorem u1 {u c : Nat} (h : u + 64 < c) : u + 1 < c := by omega
theorem valsI {i : Int} {t : Tok} {vs : List V} {us : List Value} (h : Vals vs us) : Vals (.int i :: vs) (.int i t :: us) := .cons ⟨t, rfl⟩ h
/-- the targets -/
theorem g_subL {i : Nat} {x : Str} {e : Expr} {t : TE} {f : En → R D} {p1 : Pos} (hr : PE X (.Name x p1) (tVar i)) (h : Ex X e t f)
    (ha : ∀ v, assign (.Subscript (.Name x p1) e pos) X.env v = (do
      let ov ← holding [v] (eval (.Name x p1) X.env)
      let iv ← holding [v, ov] (eval e X.env)
      standAt pos
      holding [v, ov, iv] (setItem ov iv v)
      release [v, ov, iv] []) := by intro _; rfl) : Tg X (.Subscript (.Name x p1) e pos) (gSub (tVar i) t rSetL) (tgSub i f) :=
  g_sub h hr fun a b => pg_sub a b set_list ha
theorem g_getD {i : Nat} {x k' : Str} {p1 p2 : Pos} {j : Nat} (hr : PE X (.Name x p1) (tVar i)) (hu : X.A.units + 64 < cLine)
    (ha : ∀ v, assign (.Subscript (.Name x p1) (.Constant (.str k') j p2) pos) X.env v = (do
      let ov ← holding [v] (eval (.Name x p1) X.env)
      let iv ← holding [v, ov] (eval (.Constant (.str k') j p2) X.env)
      standAt pos
      holding [v, ov, iv] (setItem ov iv v)
      release [v, ov, iv] []) := by intro _; rfl) : Tg X (.Subscript (.Name x p1) (.Constant (.str k') j p2) pos) (gSub (tVar i) (tC (.str k')) rSetD) (tgGet i k') :=
  g_get hr (by omega) fun a b => pg_sub a b (set_dict (by omega)) ha
theorem g_tupN {es : List Expr} {k : Nat} {t : TGs} {f : List D → En → R Unit} {n : Nat} (h : Tgs X es t f) (hc : X.calm = true := by rfl) (hn : (assignEach es X.env).length = n := by rfl) (hst : (assignEach es X.env).findIdx? (·.1) = none := by rfl) : Tg X (.Tuple es k pos) (gTup X.K n t) (tgT n f) :=
  g_tup h fun z => pg_tup hc z hn hst
theorem s_app {i : Nat} {x : Str} {e : Expr} {t : TE} {f : En → R D} {p1 p2 p3 : Pos} (hr : PE X (.Name x p1) (tVar i)) (h : Ex X e t f) (hs1 : starEach [e] X.env = (false, eval e X.env) :: starEach [] X.env := by rfl)
    (hs : swapsWith (.Call (.Attribute (.Name x p1) "append" p2) [e] [] p3) none pos.line X.env = pure false := by rfl)
    (hp : ∀ {ta : TE} {tb : TA}, PE X (.Name x p1) ta → PA X [e] tb → PE X (.Call (.Attribute (.Name x p1) "append" p2) [e] [] p3) (tBM X.K "list" rAppend ta tb) := by exact fun a b => pe_bm PySem.F.plainAttrs_list PySem.F.slot_list_append PySem.F.type_list_append mt_append a b) :
    Sm X (.Expr (.Call (.Attribute (.Name x p1) "append" p2) [e] [] p3) pos) (tDrop (tBM X.K "list" rAppend (tVar i) (tCons t tNil))) (dApp i f) := s_append h hr hp hs1 hs
end
/-! ## the same with the written part named -/
section
variable {X : Cx} {pos p p2 : Pos} {K0 : PySem.W.Frag} {a b e e2 l tg : Expr} {ta tb te te2 : TE} {tl th : TO} {f f2 fa fb : En → R D} {elts : List Expr} {kk : Nat} {tpos : Pos}
theorem x_ix2 (ha : Ex X a ta fa) (hb : Ex X b tb fb) (e0 : X.K = K0 := by rfl) (hs : PlainIx b := by exact fun _ _ => rfl) : Ex X (.Subscript a b pos) (tOp (rIx K0) ta tb) (dBin gIx fa fb) := by subst e0; exact x_ix ha hb hs
theorem x_ixO2 {ga gb : En → R AV} (ha : Op X a ta ga) (hb : Op X b tb gb) (e0 : X.K = K0 := by rfl) (hs : PlainIx b := by exact fun _ _ => rfl) : Ex X (.Subscript a b pos) (tOp (rIx K0) ta tb) (dOp gIx ga gb) := by subst e0; exact x_ixO ha hb hs
theorem x_sl2 {lo hi : Option Expr} {ga : En → R AV} {fl fh : En → R (Option Int)} (ha : Op X a ta ga) (hl : Pt X lo tl fl) (hh : Pt X hi th fh) (e0 : X.K = K0 := by rfl) : Ex X (.Subscript a (.Slice lo hi none p2) pos) (tSl (rSl3 K0) ta tl th) (dSl ga fl fh) := by subst e0; exact x_sl ha hl hh
theorem x_rp2 {k : Nat} {pos2 : Pos} (hg : X.A.guards = some []) (hr : Room k X.A) (he : Ex X e te f) (e0 : X.K = K0 := by rfl) : Ex X (.JoinedStr [.FormattedValue e 114 none pos] pos2) (tRp K0 te) (dRp f) := by subst e0; exact x_rp hg hr he
theorem i_seq2 (h : Ex X e te f) (e0 : X.K = K0 := by rfl) : Wd X tg e (iSeq K0 te) (dIt f) := by subst e0; exact i_seq h
theorem i_enum2 (he : Ex X e te f) (hm : X.mg "enumerate" = none) (e0 : X.K = K0 := by rfl) (hg : Gl X "enumerate" := by rfl) (h1 : starEach [e] X.env = (false, eval e X.env) :: starEach [] X.env := by rfl) (hs : starEach [e] X.env = [(false, eval e X.env)] := by rfl) :
    Wd X (.Tuple elts kk tpos) (.Call (.Name "enumerate" p) [e] [] pos) (iEnumA K0 (tCons te tNil)) (dEn f) := by subst e0; exact i_enum he hm hg h1 hs
theorem i_zip2 (he : Ex X e te f) (he2 : Ex X e2 te2 f2) (hm : X.mg "zip" = none) (e0 : X.K = K0 := by rfl) (hg : Gl X "zip" := by rfl) (h1 : starEach [e, e2] X.env = (false, eval e X.env) :: starEach [e2] X.env := by rfl) (h2 : starEach [e2] X.env = (false, eval e2 X.env) :: starEach [] X.env := by rfl) (hpl : (backTo pos (starEach [e2] X.env)).any (·.1) = false := by rfl) :
    Wd X (.Tuple elts kk tpos) (.Call (.Name "zip" p) [e, e2] [] pos) (RZ.iZipA K0 (tCons te (tCons te2 tNil))) (dItZ f f2) := by subst e0; exact i_zip he he2 hm hg h1 h2 hpl
theorem i_scr2 {i : Nat} {x : Str} (hr : PE X (.Name x p) (tVar i)) (e0 : X.K = K0 := by rfl) : Wd X tg (.Name x p) (iList K0 (tVar i)) (dItS i) := by subst e0; exact i_scr hr
theorem g_tup2 {es : List Expr} {k : Nat} {t : TGs} {g : List D → En → R Unit} {n : Nat} (h : Tgs X es t g) (e0 : X.K = K0 := by rfl) (hc : X.calm = true := by rfl) (hn : (assignEach es X.env).length = n := by rfl) (hst : (assignEach es X.env).findIdx? (·.1) = none := by rfl) : Tg X (.Tuple es k pos) (gTup K0 n t) (tgT n g) := by subst e0; exact g_tupN h hc hn hst

def dNeg (f : En → R D) : En → R D := fun ρ => (f ρ).bind fun d ρ' => match d with
  | .int i => .ok (.int (-i)) ρ'
  | _ => .no
theorem x_neg (h : Ex X e te f) : Ex X (.UnaryOp .USub e pos) (tUn (rU fun i => .int (-i)) te) (dNeg f) := by
  refine ⟨pe_un un_neg h.p, fun P F H σ ρ d ρ' Q r z k => ?_⟩
  obtain ⟨d1, ρ1, e1, z⟩ := Rb z
  refine h.s P F H σ ρ d1 ρ1 _ r e1 fun v F1 H1 g1 h1 => ?_
  cases d1 with
  | int i => cases z; cases h1; exact ⟨i, rfl, k (.int (-i)) F1 H1 g1 (.int _)⟩
  | _ => cases z
theorem tru_dv {F H : Hp} {v : V} {d : D} {z : Bool} (s : Same F H) (h : Dv K0 F v d) (q : truD d = some z) : TruV K0 v H z := by
  cases h with
  | non => cases q; rfl
  | bl b => cases q; rfl
  | int i => cases q; rfl
  | str y =>
    replace q : (if y.length ≤ sizeLine then some (y.length != 0) else none) = some z := q
    split at q
    · rename_i hl
      cases q
      refine ⟨hl, ?_⟩
      have : ((y.length : Int) != 0) = (y.length != 0) := by
        by_cases z0 : y.length = 0
        · rw [z0]; rfl
        · rw [bne_iff_ne.mpr z0, bne_iff_ne.mpr (by omega)]
      exact this.symm
    · cases q
  | lst h2 t2 => cases q; exact .inl ⟨_, SqL.of (s _ _ h2), by rw [dva_empty t2]⟩
  | tup h2 t2 => cases q; exact .inr (.inl ⟨_, same_tup s h2, by rw [dva_empty t2]⟩)
theorem t_tru (h : Ex X e te f) (e0 : X.K = K0 := by rfl) (he : ∀ whole, isTrue e X.env whole = (do let v ← whole; standAt e.pos; holding [v] (truthy v)) := by intro _; rfl) :
    Ts X e (fun σ H Q => te σ H fun x H' => ∃ k, TruV K0 x H' k ∧ Q k H') (dTru f) := by
  subst e0
  refine ⟨pt_truth h.p he, fun P F H σ ρ d ρ' Q r z k => ?_⟩
  obtain ⟨d1, ρ1, e1, z⟩ := Rb z
  refine h.s P F H σ ρ d1 ρ1 _ r e1 fun v F1 H1 g1 h1 => ?_
  split at z
  · rename_i b q
    cases z
    exact ⟨_, tru_dv g1.rep.sub h1 q, k F1 H1 g1⟩
  · cases z
end
end L2.G

namespace L2.G
open PySem PySem.Spec PyProof.Rows
/-! ## calls, as plain functions of data -/
/-- what a call with data alone gives -/
def ap (fn : Fn) (ds : List D) : Option D := match fn (ds.map Sl.val) with
  | .ok (.d r) _ => some r
  | _ => none
/-- with a caller's dict ahead -/
def apW (fn : Fn) (w : List (Key × D)) (ds : List D) : Option (D × List (Key × D)) := match fn (.arg w :: ds.map Sl.val) with
  | .ok (.d r) (.arg w' :: _) => some (r, w')
  | _ => none
/-- a def's own shape: the slots come back as outs says -/
structure Cl (fn : Fn) : Prop where
  ex : ∃ m g, fn = fnOf m g
theorem outs_val (ρ : En) : ∀ (i : Nat) (ds : List D), outs ρ i (ds.map Sl.val) = ds.map Sl.val
  | _, [] => rfl
  | i, d :: ds => by
    rw [List.map_cons]
    unfold outs
    rw [outs_val ρ (i + 1) ds]
theorem fnOf_ok {m : Nat} {g : En → RS} {ss ss' : List Sl} {r : Rt2} (h : fnOf m g ss = .ok r ss') : ∃ ρ, ss' = outs ρ 0 ss := by
  unfold fnOf at h
  split at h <;> first | (cases h; exact ⟨_, rfl⟩) | cases h
theorem isArg_val (ds : List D) : (ds.map Sl.val).map isArg = ds.map fun _ => false := by rw [List.map_map]; rfl
theorem one_val : ∀ ds : List D, one (ds.map Sl.val) = true
  | [] => rfl
  | d :: ds => by
    rw [List.map_cons]
    unfold one
    rw [if_neg (by simp [isArg])]
    exact one_val ds
theorem argsOf_val (ρ : En) : ∀ ds : List D, argsOf ρ (ds.map AV.d) = some (ds.map Sl.val)
  | [] => rfl
  | d :: ds => by
    rw [List.map_cons]
    unfold argsOf
    rw [argsOf_val ρ ds]
    rfl
theorem refOf_val : ∀ (ds es es' : List D), refOf (ds.map AV.d) (es.map Sl.val) (es'.map Sl.val) = none
  | [], _, _ => by unfold refOf; rfl
  | d :: ds, [], _ => by unfold refOf; rfl
  | d :: ds, e :: es, [] => by unfold refOf; rfl
  | d :: ds, e :: es, e' :: es' => by
    rw [List.map_cons, List.map_cons, List.map_cons]
    unfold refOf
    exact refOf_val ds es es'
/-- the answer of such a call -/
def vR (o : Option D) (ρ : En) : R D := match o with
  | some r => .ok r ρ
  | none => .no
def unD (x : R Rt2) : R D := x.bind fun r ρ' => match r with
  | .d d => .ok d ρ'
  | .k _ => .no
theorem callR_val {fn : Fn} (c : Cl fn) (ρ : En) (ds : List D) : unD (callR fn ρ (ds.map AV.d)) = vR (ap fn ds) ρ := by
  obtain ⟨m, g, e⟩ := c.ex
  unfold callR ap
  rw [argsOf_val]
  show unD (if one (ds.map Sl.val) = true then _ else _) = _
  rw [if_pos (one_val ds)]
  cases h : fn (ds.map Sl.val) with
  | no => rfl
  | ok r ss' =>
    rw [e] at h
    obtain ⟨ρ', e'⟩ := fnOf_ok h
    rw [outs_val] at e'
    subst e'
    show unD (if (ds.map Sl.val).map isArg = (ds.map Sl.val).map isArg then _ else _) = _
    rw [if_pos rfl]
    unfold putBack
    rw [refOf_val]
    cases r <;> rfl
def wR (fn : Fn) (i : Nat) (ds : List D) (ρ : En) : R D := match dctOf ρ i with
  | some w => match apW fn w ds with
    | some (r, w') => .ok r (dctTo ρ i w')
    | none => .no
  | none => .no
theorem argOf_dct {ρ : En} {i : Nat} {w : List (Key × D)} (h : dctOf ρ i = some w) : argOf ρ (.s i) = some (.arg w) := by
  unfold dctOf at h
  unfold argOf
  split at h <;> first | (rename_i z; cases h; simp only [z]) | cases h
theorem callR_w {fn : Fn} (c : Cl fn) (ρ : En) (i : Nat) (w : List (Key × D)) (ds : List D) (hw : dctOf ρ i = some w) : unD (callR fn ρ (.s i :: ds.map AV.d)) = wR fn i ds ρ := by
  obtain ⟨m, g, e⟩ := c.ex
  unfold wR
  rw [hw]
  have ea : argsOf ρ (.s i :: ds.map AV.d) = some (.arg w :: ds.map Sl.val) := by
    unfold argsOf
    rw [argOf_dct hw, argsOf_val]
  have eo : one (.arg w :: ds.map Sl.val) = true := by
    unfold one
    rw [if_pos (show isArg (Sl.arg w) = true from rfl), List.all_eq_true]
    intro x hx
    obtain ⟨d, _, rfl⟩ := List.mem_map.mp hx
    rfl
  unfold callR apW
  rw [ea]
  show unD (if one (.arg w :: ds.map Sl.val) = true then _ else _) = _
  rw [if_pos eo]
  cases h : fn (.arg w :: ds.map Sl.val) with
  | no => simp only [h]; rfl
  | ok r ss' =>
    have h0 := h
    rw [e] at h
    obtain ⟨ρ', e'⟩ := fnOf_ok h
    have e2 : ∃ w', ss' = .arg w' :: ds.map Sl.val := by
      rw [e']
      unfold outs
      rw [outs_val]
      split
      · exact ⟨_, rfl⟩
      · exact ⟨_, rfl⟩
    obtain ⟨w', e2⟩ := e2
    subst e2
    have e3 : (Sl.arg w' :: ds.map Sl.val).map isArg = (Sl.arg w :: ds.map Sl.val).map isArg := rfl
    show unD (if (Sl.arg w' :: ds.map Sl.val).map isArg = (Sl.arg w :: ds.map Sl.val).map isArg then _ else _) = _
    rw [if_pos e3]
    have e4 : putBack ρ (.s i :: ds.map AV.d) (.arg w :: ds.map Sl.val) (.arg w' :: ds.map Sl.val) = dctTo ρ i w' := rfl
    rw [e4]
    simp only [h0]
    cases r <;> rfl
section
variable {fn : Fn} {f1 f2 f3 f4 : En → R D} {ρ : En} {i : Nat} {x y : D}
theorem dcl0 : dCl fn dNil dNil [] [] ρ = unD (callR fn ρ []) := rfl
theorem dcl1 (c : Cl fn) : dCl fn (dConsD f1 dNil) dNil [0] [] ρ = (f1 ρ).bind fun a ρ1 => vR (ap fn [a]) ρ1 := by
  cases h1 : f1 ρ with
  | err x y => simp only [dCl, dCallD, dCall, dArgs, dConsD, dNil, R.bind, h1]
  | no => simp only [dCl, dCallD, dCall, dArgs, dConsD, dNil, R.bind, h1]
  | ok a ρ1 =>
    simp only [dCl, dCallD, dCall, dArgs, dConsD, dNil, R.bind, h1]
    exact callR_val c ρ1 [a]
theorem dcl2 (c : Cl fn) : dCl fn (dConsD f1 (dConsD f2 dNil)) dNil [0, 1] [] ρ = (f1 ρ).bind fun a ρ1 => (f2 ρ1).bind fun b ρ2 => vR (ap fn [a, b]) ρ2 := by
  cases h1 : f1 ρ with
  | err x y => simp only [dCl, dCallD, dCall, dArgs, dConsD, dNil, R.bind, h1]
  | no => simp only [dCl, dCallD, dCall, dArgs, dConsD, dNil, R.bind, h1]
  | ok a ρ1 =>
    cases h2 : f2 ρ1 with
    | err x y => simp only [dCl, dCallD, dCall, dArgs, dConsD, dNil, R.bind, h1, h2]
    | no => simp only [dCl, dCallD, dCall, dArgs, dConsD, dNil, R.bind, h1, h2]
    | ok b ρ2 =>
      simp only [dCl, dCallD, dCall, dArgs, dConsD, dNil, R.bind, h1, h2]
      exact callR_val c ρ2 [a, b]
theorem dcl3 (c : Cl fn) : dCl fn (dConsD f1 (dConsD f2 (dConsD f3 dNil))) dNil [0, 1, 2] [] ρ = (f1 ρ).bind fun a ρ1 => (f2 ρ1).bind fun b ρ2 => (f3 ρ2).bind fun z ρ3 => vR (ap fn [a, b, z]) ρ3 := by
  cases h1 : f1 ρ with
  | err x y => simp only [dCl, dCallD, dCall, dArgs, dConsD, dNil, R.bind, h1]
  | no => simp only [dCl, dCallD, dCall, dArgs, dConsD, dNil, R.bind, h1]
  | ok a ρ1 =>
    cases h2 : f2 ρ1 with
    | err x y => simp only [dCl, dCallD, dCall, dArgs, dConsD, dNil, R.bind, h1, h2]
    | no => simp only [dCl, dCallD, dCall, dArgs, dConsD, dNil, R.bind, h1, h2]
    | ok b ρ2 =>
      cases h3 : f3 ρ2 with
      | err x y => simp only [dCl, dCallD, dCall, dArgs, dConsD, dNil, R.bind, h1, h2, h3]
      | no => simp only [dCl, dCallD, dCall, dArgs, dConsD, dNil, R.bind, h1, h2, h3]
      | ok z ρ3 =>
        simp only [dCl, dCallD, dCall, dArgs, dConsD, dNil, R.bind, h1, h2, h3]
        exact callR_val c ρ3 [a, b, z]
theorem dcl1d (c : Cl fn) : dCl fn (dConsD f1 dNil) dNil [0, 1] [x] ρ = (f1 ρ).bind fun a ρ1 => vR (ap fn [a, x]) ρ1 := by
  cases h1 : f1 ρ with
  | err x y => simp only [dCl, dCallD, dCall, dArgs, dConsD, dNil, R.bind, h1]
  | no => simp only [dCl, dCallD, dCall, dArgs, dConsD, dNil, R.bind, h1]
  | ok a ρ1 =>
    simp only [dCl, dCallD, dCall, dArgs, dConsD, dNil, R.bind, h1]
    exact callR_val c ρ1 [a, x]
theorem dcl1k (c : Cl fn) : dCl fn dNil (dConsD f1 dNil) [0] [] ρ = (f1 ρ).bind fun a ρ1 => vR (ap fn [a]) ρ1 := by
  cases h1 : f1 ρ with
  | err x y => simp only [dCl, dCallD, dCall, dArgs, dConsD, dNil, R.bind, h1]
  | no => simp only [dCl, dCallD, dCall, dArgs, dConsD, dNil, R.bind, h1]
  | ok a ρ1 =>
    simp only [dCl, dCallD, dCall, dArgs, dConsD, dNil, R.bind, h1]
    exact callR_val c ρ1 [a]
theorem dcl2k10 (c : Cl fn) : dCl fn dNil (dConsD f1 (dConsD f2 dNil)) [1, 0] [] ρ = (f1 ρ).bind fun a ρ1 => (f2 ρ1).bind fun b ρ2 => vR (ap fn [b, a]) ρ2 := by
  cases h1 : f1 ρ with
  | err x y => simp only [dCl, dCallD, dCall, dArgs, dConsD, dNil, R.bind, h1]
  | no => simp only [dCl, dCallD, dCall, dArgs, dConsD, dNil, R.bind, h1]
  | ok a ρ1 =>
    cases h2 : f2 ρ1 with
    | err x y => simp only [dCl, dCallD, dCall, dArgs, dConsD, dNil, R.bind, h1, h2]
    | no => simp only [dCl, dCallD, dCall, dArgs, dConsD, dNil, R.bind, h1, h2]
    | ok b ρ2 =>
      simp only [dCl, dCallD, dCall, dArgs, dConsD, dNil, R.bind, h1, h2]
      exact callR_val c ρ2 [b, a]
theorem dcl2k01 (c : Cl fn) : dCl fn dNil (dConsD f1 (dConsD f2 dNil)) [0, 1] [] ρ = (f1 ρ).bind fun a ρ1 => (f2 ρ1).bind fun b ρ2 => vR (ap fn [a, b]) ρ2 := by
  cases h1 : f1 ρ with
  | err x y => simp only [dCl, dCallD, dCall, dArgs, dConsD, dNil, R.bind, h1]
  | no => simp only [dCl, dCallD, dCall, dArgs, dConsD, dNil, R.bind, h1]
  | ok a ρ1 =>
    cases h2 : f2 ρ1 with
    | err x y => simp only [dCl, dCallD, dCall, dArgs, dConsD, dNil, R.bind, h1, h2]
    | no => simp only [dCl, dCallD, dCall, dArgs, dConsD, dNil, R.bind, h1, h2]
    | ok b ρ2 =>
      simp only [dCl, dCallD, dCall, dArgs, dConsD, dNil, R.bind, h1, h2]
      exact callR_val c ρ2 [a, b]
theorem dcl3k210 (c : Cl fn) : dCl fn dNil (dConsD f1 (dConsD f2 (dConsD f3 dNil))) [2, 1, 0] [] ρ = (f1 ρ).bind fun a ρ1 => (f2 ρ1).bind fun b ρ2 => (f3 ρ2).bind fun z ρ3 => vR (ap fn [z, b, a]) ρ3 := by
  cases h1 : f1 ρ with
  | err x y => simp only [dCl, dCallD, dCall, dArgs, dConsD, dNil, R.bind, h1]
  | no => simp only [dCl, dCallD, dCall, dArgs, dConsD, dNil, R.bind, h1]
  | ok a ρ1 =>
    cases h2 : f2 ρ1 with
    | err x y => simp only [dCl, dCallD, dCall, dArgs, dConsD, dNil, R.bind, h1, h2]
    | no => simp only [dCl, dCallD, dCall, dArgs, dConsD, dNil, R.bind, h1, h2]
    | ok b ρ2 =>
      cases h3 : f3 ρ2 with
      | err x y => simp only [dCl, dCallD, dCall, dArgs, dConsD, dNil, R.bind, h1, h2, h3]
      | no => simp only [dCl, dCallD, dCall, dArgs, dConsD, dNil, R.bind, h1, h2, h3]
      | ok z ρ3 =>
        simp only [dCl, dCallD, dCall, dArgs, dConsD, dNil, R.bind, h1, h2, h3]
        exact callR_val c ρ3 [z, b, a]
/-- a call with the wheel ahead, where the other arguments are known -/
theorem dclw1 (c : Cl fn) {s : Sl} (h0 : slD ρ i = some s) {a : D} {ρ1 : En} (h1 : f1 ρ = .ok a ρ1) {w : List (Key × D)} (hw : dctOf ρ1 i = some w) : dCl fn (dCons (oS i) (dConsD f1 dNil)) dNil [0, 1] [] ρ = wR fn i [a] ρ1 := by
  simp only [dCl, dCallD, dCall, dArgs, dCons, dConsD, dNil, oS, h0, h1, R.bind]
  exact callR_w c ρ1 i w [a] hw
theorem dclw2 (c : Cl fn) {s : Sl} (h0 : slD ρ i = some s) {a b : D} {ρ1 ρ2 : En} (h1 : f1 ρ = .ok a ρ1) (h2 : f2 ρ1 = .ok b ρ2) {w : List (Key × D)} (hw : dctOf ρ2 i = some w) : dCl fn (dCons (oS i) (dConsD f1 (dConsD f2 dNil))) dNil [0, 1, 2] [] ρ = wR fn i [a, b] ρ2 := by
  simp only [dCl, dCallD, dCall, dArgs, dCons, dConsD, dNil, oS, h0, h1, h2, R.bind]
  exact callR_w c ρ2 i w [a, b] hw
end
/-! ## simple equations -/
theorem loop_nil {ft : D → En → R Unit} {fb : En → RS} {fg : List Nat} {ρ : En} : loop ft fb fg [] ρ = .nx ρ := by unfold loop; rfl
theorem loop_cons {ft : D → En → R Unit} {fb : En → RS} {d : D} {ds : List D} {ρ ρ1 : En} (h : ft d ρ = .ok () ρ1) : loop ft fb [] (d :: ds) ρ = match fb ρ1 with
      | .nx ρ2 => loop ft fb [] ds ρ2
      | .ct ρ2 => loop ft fb [] ds ρ2
      | .bk ρ2 => .nx ρ2
      | .ret d ρ2 => .ret d ρ2
      | .retK d ρ2 => .retK d ρ2
      | .no => .no := by
  rw [loop, h]
  rfl
/-- what a body's end gives -/
def rD : RS → Option D
  | .ret d _ => some d
  | .nx _ => some .none
  | _ => none
def rW (w : List (Key × D)) : RS → Option (D × List (Key × D))
  | .ret d ρ => some (d, match slD ρ 0 with
    | some (.arg l) => l
    | _ => w)
  | .nx ρ => some (.none, match slD ρ 0 with
    | some (.arg l) => l
    | _ => w)
  | _ => none
theorem ap_def {m : Nat} {g : En → RS} (ds : List D) : ap (fnOf m g) ds = rD (g (env0 m (ds.map Sl.val))) := by
  unfold ap fnOf rD
  cases g (env0 m (ds.map Sl.val)) <;> rfl
theorem apW_def {m : Nat} {g : En → RS} (w : List (Key × D)) (ds : List D) : apW (fnOf m g) w ds = rW w (g (env0 m (.arg w :: ds.map Sl.val))) := by
  have out0 : ∀ ρ : En, outs ρ 0 (.arg w :: ds.map Sl.val) = .arg (match slD ρ 0 with
      | some (.arg l) => l
      | _ => w) :: outs ρ 1 (ds.map Sl.val) := fun ρ => by
    simp only [outs]
    cases slD ρ 0 with
    | none => rfl
    | some s => cases s <;> rfl
  unfold apW fnOf rW
  cases g (env0 m (.arg w :: ds.map Sl.val)) with
  | ret d ρ => simp only [out0]
  | nx ρ => simp only [out0]
  | _ => rfl
/-- a comprehension that changes nothing: filtered and mapped -/
theorem lcl_map {ft : D → En → R Unit} {fc : En → R Bool} {fe : En → R D} {vs : List Nat} {ρ : En} {c : D → Bool} {h : D → D} : ∀ {ds : List D},
    (∀ d ∈ ds, ∃ ρa, ft d ρ = .ok () ρa ∧ fc ρa = .ok (c d) ρa ∧ (c d = true → fe ρa = .ok (h d) ρa) ∧ okV ρa vs = true ∧ wipeD ρa vs = ρ) → lcl ft fc fe vs ds ρ = .ok ((ds.filter c).map h) ρ
  | [], _ => by unfold lcl; rfl
  | d :: ds, H => by
    obtain ⟨ρa, h1, h2, h3, h4, h5⟩ := H d (List.mem_cons_self ..)
    have ih := lcl_map (ft := ft) (fc := fc) (fe := fe) (vs := vs) (ρ := ρ) (c := c) (h := h) (ds := ds) fun x hx => H x (List.mem_cons_of_mem _ hx)
    unfold lcl
    simp only [h1, R.bind, h2]
    cases z : c d with
    | true => simp only [h3 z, h4, if_true, h5, ih, List.filter_cons, z, List.map_cons]
    | false => simp only [h4, if_true, h5, ih, List.filter_cons, z]; rfl
theorem dLc_map {fi : En → R (List D)} {ft : D → En → R Unit} {fc : En → R Bool} {fe : En → R D} {vs : List Nat} {ρ : En} {ds : List D} (c : D → Bool) (h : D → D) (hi : fi ρ = .ok ds ρ) (ho : ownV ρ vs = true) (hl : ds.length ≤ sizeLine)
    (hb : backV ρ (wipeD ρ vs) vs = ρ) (H : ∀ d ∈ ds, ∃ ρa, ft d (wipeD ρ vs) = .ok () ρa ∧ fc ρa = .ok (c d) ρa ∧ (c d = true → fe ρa = .ok (h d) ρa) ∧ okV ρa vs = true ∧ wipeD ρa vs = wipeD ρ vs) :
    dLc fi ft fc fe vs ρ = .ok ((ds.filter c).map h) ρ := by
  unfold dLc
  rw [hi]
  simp only [R.bind]
  rw [if_pos ⟨ho, hl⟩, lcl_map H]
  simp only [hb]
theorem atI_nat {α : Type} (ds : List α) {k : Nat} (h : k < ds.length) : atI ds (k : Int) = ds[k]? := by
  unfold atI ixN
  simp [h]
theorem len_S (n : Nat) (h : n ≤ 1000000) : n ≤ sizeLine := by rw [sizeLine_eq]; omega
/-- the same over the data of any list -/
theorem lcl_of {α : Type} {ft : D → En → R Unit} {fc : En → R Bool} {fe : En → R D} {vs : List Nat} {ρ : En} {e : α → D} {c : α → Bool} {h : α → D} : ∀ {l : List α},
    (∀ x ∈ l, ∃ ρa, ft (e x) ρ = .ok () ρa ∧ fc ρa = .ok (c x) ρa ∧ (c x = true → fe ρa = .ok (h x) ρa) ∧ okV ρa vs = true ∧ wipeD ρa vs = ρ) → lcl ft fc fe vs (l.map e) ρ = .ok ((l.filter c).map h) ρ
  | [], _ => by rw [List.map_nil]; unfold lcl; rfl
  | x :: l, H => by
    obtain ⟨ρa, h1, h2, h3, h4, h5⟩ := H x (List.mem_cons_self ..)
    have ih := lcl_of (ft := ft) (fc := fc) (fe := fe) (vs := vs) (ρ := ρ) (e := e) (c := c) (h := h) (l := l) fun y hy => H y (List.mem_cons_of_mem _ hy)
    rw [List.map_cons]
    unfold lcl
    simp only [h1, R.bind, h2]
    cases z : c x with
    | true => simp only [h3 z, h4, if_true, h5, ih, List.filter_cons, z, List.map_cons]
    | false => simp only [h4, if_true, h5, ih, List.filter_cons, z]; rfl
theorem dLc_of {α : Type} {fi : En → R (List D)} {ft : D → En → R Unit} {fc : En → R Bool} {fe : En → R D} {vs : List Nat} {ρ : En} {ds : List D} (l : List α) (e : α → D) (c : α → Bool) (h : α → D) (hi : fi ρ = .ok ds ρ) (hds : ds = l.map e) (ho : ownV ρ vs = true) (hl : l.length ≤ sizeLine)
    (hb : G.backV ρ (wipeD ρ vs) vs = ρ) (H : ∀ x ∈ l, ∃ ρa, ft (e x) (wipeD ρ vs) = .ok () ρa ∧ fc ρa = .ok (c x) ρa ∧ (c x = true → fe ρa = .ok (h x) ρa) ∧ okV ρa vs = true ∧ wipeD ρa vs = wipeD ρ vs) :
    dLc fi ft fc fe vs ρ = .ok ((l.filter c).map h) ρ := by
  subst hds
  unfold dLc
  rw [hi]
  simp only [R.bind]
  rw [if_pos ⟨ho, by rw [List.length_map]; exact hl⟩, lcl_of H]
  simp only [hb]
theorem asBools_map {α : Type} (f : α → Bool) : ∀ l : List α, asBools (l.map fun x => PyData.bool (f x)) = some (l.map f)
  | [] => rfl
  | x :: l => by
    rw [List.map_cons]
    unfold asBools
    rw [asBools_map f l]
    rfl
theorem asInts_map {α : Type} (f : α → Int) : ∀ l : List α, asInts (l.map fun x => PyData.int (f x)) = some (l.map f)
  | [] => rfl
  | x :: l => by
    rw [List.map_cons]
    unfold asInts
    rw [asInts_map f l]
    rfl
theorem cut_from (xs : List D) (k : Nat) : cutD xs (some (k : Int)) none = xs.drop k := by
  unfold cutD
  rw [HT.sIx_nat, HT.sIx_none]
  by_cases h : k ≤ xs.length
  · rw [Nat.min_eq_left h, List.take_of_length_le (by rw [List.length_drop]; omega)]
  · rw [Nat.min_eq_right (by omega), List.drop_of_length_le (Nat.le_refl _), List.take_nil, List.drop_of_length_le (by omega)]
theorem cut_to (xs : List D) (k : Nat) : cutD xs none (some (k : Int)) = xs.take k := by
  unfold cutD
  rw [HT.sIx_nat, HT.sIx_none, List.drop_zero, Nat.sub_zero]
  by_cases h : k ≤ xs.length
  · rw [Nat.min_eq_left h]
  · rw [Nat.min_eq_right (by omega), List.take_length, List.take_of_length_le (by omega)]
theorem it1_ok {f : En → R D} {ρ ρ' : En} {n : Int} (h : f ρ = .ok (.int n) ρ') (q : rg62 0 n = true) : dIt1 f ρ = .ok (rgD 0 n) ρ' := by
  unfold dIt1
  rw [h]
  exact if_pos q
theorem it2_ok {f g : En → R D} {ρ ρ1 ρ2 : En} {n m : Int} (h : f ρ = .ok (.int n) ρ1) (h2 : g ρ1 = .ok (.int m) ρ2) (q : rg62 n m = true) : dIt2 f g ρ = .ok (rgD n m) ρ2 := by
  unfold dIt2
  rw [h]
  simp only [R.bind]
  rw [h2]
  exact if_pos q
theorem rg_ok (m : Nat) (h : m ≤ 1000000) : rg62 0 (m : Int) = true := by
  have a : (m : Int) < 2 ^ 62 := Int.lt_of_le_of_lt (show (m : Int) ≤ 1000000 by omega) (by decide)
  have b : -(2 ^ 62) ≤ (m : Int) := Int.le_trans (by decide) (Int.natCast_nonneg m)
  have c : -(2 ^ 62) ≤ (0 : Int) := by decide
  have d : (0 : Int) < 2 ^ 62 := by decide
  simp only [rg62, a, b, c, d, decide_true, Bool.and_self]
theorem rgD_nat (m : Nat) : rgD 0 (m : Int) = (List.range m).map fun i : Nat => PyData.int (0 + (i : Int)) := rfl
theorem seq_nx {f g : En → RS} {ρ ρ1 : En} (h : f ρ = .nx ρ1) : dSeq f g ρ = g ρ1 := by
  unfold dSeq
  rw [h]
theorem for_ok {fi : En → R (List D)} {ft : D → En → R Unit} {fb : En → RS} {ρ ρ1 : En} {ds : List D} (h : fi ρ = .ok ds ρ1) : dFor fi ft fb [] ρ = loop ft fb [] ds ρ1 := by
  unfold dFor
  rw [h]
  rfl
end L2.G

namespace L2.G
open PySem PySem.Spec PyProof.Rows
/-! ## data whose repr is short and plain: whole numbers below 10^60, True, False, None, lists and tuples of these -/
mutual
def tm : D → Bool
  | .none => true
  | .bool _ => true
  | .int i => decide (i.natAbs < 10 ^ 60)
  | .list xs => tmAll xs
  | .tuple xs => tmAll xs
  | .str _ => false
  | .dict _ => false
def tmAll : List D → Bool
  | [] => true
  | x :: xs => tm x && tmAll xs
end
mutual
theorem tm_lay : ∀ d : D, tm d = true → PyData.canLay0 d = true
  | .none, _ => rfl
  | .bool _, _ => rfl
  | .int _, _ => rfl
  | .list xs, h => by rw [PyData.canLay0]; exact tmAll_lay xs (by rw [tm] at h; exact h)
  | .tuple xs, h => by rw [PyData.canLay0]; exact tmAll_lay xs (by rw [tm] at h; exact h)
  | .str _, h => by rw [tm] at h; cases h
  | .dict _, h => by rw [tm] at h; cases h
theorem tmAll_lay : ∀ xs : List D, tmAll xs = true → PyData.canLayAll0 xs = true
  | [], _ => rfl
  | x :: xs, h => by
    rw [tmAll, Bool.and_eq_true] at h
    rw [PyData.canLayAll0, tm_lay x h.1, tmAll_lay xs h.2]
    rfl
end
theorem log_lt {n : Nat} (h : n < 10 ^ 60) : n.log2 < 200 := PySem.Flt.log2_lt_of (by decide) (Nat.lt_of_lt_of_le h (by decide))
mutual
theorem tm_show : ∀ d : D, tm d = true → PyData.showable d = true
  | .none, _ => rfl
  | .bool _, _ => rfl
  | .int i, h => by
    rw [tm] at h
    rw [PyData.showable]
    have := log_lt (of_decide_eq_true h)
    exact decide_eq_true (by omega)
  | .list xs, h => by rw [PyData.showable]; exact tmAll_show xs (by rw [tm] at h; exact h)
  | .tuple xs, h => by rw [PyData.showable]; exact tmAll_show xs (by rw [tm] at h; exact h)
  | .str _, h => by rw [tm] at h; cases h
  | .dict _, h => by rw [tm] at h; cases h
theorem tmAll_show : ∀ xs : List D, tmAll xs = true → PyData.showableAll xs = true
  | [], _ => rfl
  | x :: xs, h => by
    rw [tmAll, Bool.and_eq_true] at h
    rw [PyData.showableAll, tm_show x h.1, tmAll_show xs h.2]
    rfl
end
mutual
theorem tm_leaf : ∀ d : D, tm d = true → PyData.leavesShort 61 d = true
  | .none, _ => rfl
  | .bool _, _ => rfl
  | .int i, h => by
    rw [tm] at h
    rw [PyData.leavesShort]
    have e := int_text_length_le10 (a := i) (k := 60) (by decide) (of_decide_eq_true h)
    refine decide_eq_true ?_
    show (Str.ofString (toString i)).length ≤ 61
    rw [PySem.ofString_length]
    exact e
  | .list xs, h => by rw [PyData.leavesShort]; exact tmAll_leaf xs (by rw [tm] at h; exact h)
  | .tuple xs, h => by rw [PyData.leavesShort]; exact tmAll_leaf xs (by rw [tm] at h; exact h)
  | .str _, h => by rw [tm] at h; cases h
  | .dict _, h => by rw [tm] at h; cases h
theorem tmAll_leaf : ∀ xs : List D, tmAll xs = true → PyData.leavesShortAll 61 xs = true
  | [], _ => rfl
  | x :: xs, h => by
    rw [tmAll, Bool.and_eq_true] at h
    rw [PyData.leavesShortAll, tm_leaf x h.1, tmAll_leaf xs h.2]
    rfl
end
mutual
theorem tm_free {k : Nat} (hk : 200 ≤ k) : ∀ d : D, tm d = true → k ∉ d.shown.cps.toList
  | .none, _ => by
    rw [mem_shown_none]
    simp only [List.mem_cons, List.not_mem_nil, or_false]
    omega
  | .bool b, _ => by
    rw [mem_shown_bool]
    split <;> (simp only [List.mem_cons, List.not_mem_nil, or_false]; omega)
  | .int i, _ => shown_int_free' ⟨by omega, by omega⟩ i
  | .list xs, h => by
    rw [tm] at h
    rw [PyData.shown_list, mem_cps_append, mem_cps_append, mem_join, signs_lbrack, signs_rbrack, signs_sep]
    have q := shownAll_free (k := k) (xs := xs) (tmAll_free hk xs h)
    simp only [List.mem_cons, List.not_mem_nil, or_false]
    rintro ((z | ⟨t, ht, z⟩ | ⟨_, z⟩) | z)
    · omega
    · exact q t ht z
    · omega
    · omega
  | .tuple xs, h => by
    rw [tm] at h
    rw [PyData.shown_tuple, mem_cps_append, mem_cps_append, mem_join, signs_lparen, signs_tuple_end, signs_sep]
    have q := shownAll_free (k := k) (xs := xs) (tmAll_free hk xs h)
    rintro ((z | ⟨t, ht, z⟩ | ⟨_, z⟩) | z)
    · simp only [List.mem_cons, List.not_mem_nil, or_false] at z; omega
    · exact q t ht z
    · simp only [List.mem_cons, List.not_mem_nil, or_false] at z; omega
    · split at z <;> (simp only [List.mem_cons, List.not_mem_nil, or_false] at z; omega)
  | .str _, h => by rw [tm] at h; cases h
  | .dict _, h => by rw [tm] at h; cases h
theorem tmAll_free {k : Nat} (hk : 200 ≤ k) : ∀ xs : List D, tmAll xs = true → ∀ x ∈ xs, k ∉ x.shown.cps.toList
  | [], _, x, hx => by cases hx
  | y :: ys, h, x, hx => by
    rw [tmAll, Bool.and_eq_true] at h
    rcases List.mem_cons.mp hx with e | hx
    · rw [e]; exact tm_free hk y h.1
    · exact tmAll_free hk ys h.2 x hx
end
theorem shown_text {d : D} (h : tm d = true) : PyData.canLay0 (.str d.shown) = true := by
  show PyData.strOk d.shown = true
  unfold PyData.strOk
  rw [Array.all_eq_true_iff_forall_mem]
  intro c hc
  have hc := Array.mem_toList_iff.mpr hc
  have : ¬ 200 ≤ c := fun z => tm_free z d h hc
  simp only [decide_eq_true_eq]
  omega
theorem shows_of {d : D} (h : tm d = true) (hd : d.depth ≤ 64) (hw : d.weight ≤ 2 ^ 17) : shows d = true := by
  have h1 := PyData.shown_le 61 (by decide) d (tm_leaf d h)
  have h2 : (61 + 2) * d.weight ≤ 63 * 131072 := Nat.mul_le_mul (Nat.le_refl _) hw
  unfold shows
  rw [tm_show d h, decide_eq_true (show d.shown.length ≤ sizeLine by rw [sizeLine_eq]; omega), decide_eq_true hd]
  rfl
theorem shaped_of {d : D} (h : tm d = true) (hd : d.depth ≤ 64) : SeqAt.shaped d = true := by
  unfold SeqAt.shaped
  rw [tm_lay d h, decide_eq_true hd]
  rfl
/-! ### rows of whole numbers -/
theorem tm_ints : ∀ ns : List Int, (∀ n ∈ ns, n.natAbs < 10 ^ 60) → tmAll (ns.map .int) = true
  | [], _ => rfl
  | n :: ns, h => by
    rw [List.map_cons, tmAll, tm, decide_eq_true (h n (List.mem_cons_self ..)), tm_ints ns fun m hm => h m (List.mem_cons_of_mem _ hm)]
    rfl
theorem depth_ints : ∀ ns : List Int, PyData.depthAll (ns.map .int) = 0
  | [] => rfl
  | n :: ns => by rw [List.map_cons, PyData.depthAll, depth_ints ns, PyData.depth]; rfl
theorem weight_ints : ∀ ns : List Int, (∀ n ∈ ns, n.natAbs < 10 ^ 60) → PyData.weightAll (ns.map .int) ≤ 202 * ns.length
  | [], _ => Nat.le_refl _
  | n :: ns, h => by
    have h1 := log_lt (h n (List.mem_cons_self ..))
    have h2 := weight_ints ns fun m hm => h m (List.mem_cons_of_mem _ hm)
    have h3 : PyData.weight (.int n) ≤ 201 := by
      rw [PyData.weight]
      split <;> omega
    rw [List.map_cons, PyData.weightAll, List.length_cons]
    omega
end L2.G

namespace T51
open L2 L2.G PySem PySem.Spec PyProof.Rows
def topS (i : Nat) : Stmt := PySem.Challenge.pw_trunkrooms_k51_whole_rows_behind_sorters.main.body.getD i (.Pass ⟨0, 0, 0, 0⟩)
structure Mg (mg : Str → Option Value) : Prop where
  m_abs : mg "abs" = none
  m_all : mg "all" = none
  m_any : mg "any" = none
  m_bool : mg "bool" = none
  m_enumerate : mg "enumerate" = none
  m_int : mg "int" = none
  m_isinstance : mg "isinstance" = none
  m_len : mg "len" = none
  m_list : mg "list" = none
  m_range : mg "range" = none
  m_sorted : mg "sorted" = none
  m_str : mg "str" = none
  m_sum : mg "sum" = none
  m_tuple : mg "tuple" = none
  m_zip : mg "zip" = none
  v_LEAST_LINES : ∃ t, mg "LEAST_LINES" = some (.int 2 t)
  v_MOST_COMPARERS : ∃ t, mg "MOST_COMPARERS" = some (.int 60 t)
def d_LEAST_LINES : D := .int 2
theorem gx_LEAST_LINES {X : Cx} {pos : Pos} (M : Mg X.mg) (hg : Gl X "LEAST_LINES" := by rfl) : Ex X (.Name "LEAST_LINES" pos) (tC (.int 2)) (dC d_LEAST_LINES) := let ⟨t, e⟩ := M.v_LEAST_LINES; x_glob e ⟨t, rfl⟩ (fun _ => .int _) hg
def d_MOST_COMPARERS : D := .int 60
theorem gx_MOST_COMPARERS {X : Cx} {pos : Pos} (M : Mg X.mg) (hg : Gl X "MOST_COMPARERS" := by rfl) : Ex X (.Name "MOST_COMPARERS" pos) (tC (.int 60)) (dC d_MOST_COMPARERS) := let ⟨t, e⟩ := M.v_MOST_COMPARERS; x_glob e ⟨t, rfl⟩ (fun _ => .int _) hg
/-! ## is_whole -/
abbrev st_is_whole : Stmt := topS 6
abbrev nm_is_whole : List Str := ["value"]
abbrev ps_is_whole : List Str := ["value"]
theorem sc_is_whole : FnScope nm_is_whole ps_is_whole (defScope st_is_whole) := ⟨rfl, rfl, rfl, by decide +kernel, rfl, by decide +kernel, by decide +kernel⟩
def g_is_whole : En → RS :=
      dRet (dAndV (dIsi "int" (dVar 0)) (dNotV (dIsi "bool" (dVar 0))))
def fn_is_whole : Fn := fnOf 0 g_is_whole
theorem w_is_whole {P : Program} {w : World} {K : PySem.W.Frag} {mg : Str → Option Value} {base : Heap} (M : Mg mg)  {f : Addr} {fd : FuncData} (F : Dfn K mg "is_whole" st_is_whole f fd) : Cal P w K mg base "is_whole" 1 fd ps_is_whole fn_is_whole := by
  refine F.cal (N := nm_is_whole) sc_is_whole (by decide) fun cdv A outer s H E hG hr => ?_
  have hN : List.Nodup (nm_is_whole) := by decide +kernel
  exact ⟨_, b_one (s_ret (x_and (x_isi "int" (x_var 0) M.m_isinstance M.m_int) (x_one (x_not (x_isi "bool" (x_var 0) M.m_isinstance M.m_bool)))))⟩
/-! ## is_between -/
abbrev st_is_between : Stmt := topS 7
abbrev nm_is_between : List Str := ["value", "low", "high"]
abbrev ps_is_between : List Str := ["value", "low", "high"]
theorem sc_is_between : FnScope nm_is_between ps_is_between (defScope st_is_between) := ⟨rfl, rfl, rfl, by decide +kernel, rfl, by decide +kernel, by decide +kernel⟩
def g_is_between : En → RS :=
      dRet (dAndV (dCl fn_is_whole (dConsD (dVar 0) (dNil)) dNil [0] []) (dChain2 gLe gLe (dVar 1) (dVar 0) (dVar 2)))
def fn_is_between : Fn := fnOf 0 g_is_between
theorem w_is_between {P : Program} {w : World} {K : PySem.W.Frag} {mg : Str → Option Value} {base : Heap} (M : Mg mg) {fd_is_whole : FuncData} (c_is_whole : Cal P w K mg base "is_whole" 1 fd_is_whole ps_is_whole fn_is_whole) (b0 : BindK K fd_is_whole ps_is_whole [] 1 [0] []) {f : Addr} {fd : FuncData} (F : Dfn K mg "is_between" st_is_between f fd) : Cal P w K mg base "is_between" 2 fd ps_is_between fn_is_between := by
  refine F.cal (N := nm_is_between) sc_is_between (by decide) fun cdv A outer s H E hG hr => ?_
  have hN : List.Nodup (nm_is_between) := by decide +kernel
  exact ⟨_, b_one (s_ret (x_and (x_call c_is_whole (by decide) hG hr b0 .nil (fun _ => .nil) (a_cons (x_var 0) (a_nil)) (ln_consD (ln_nil))) (x_one (x_ch2 op_le (s2_le (K := K)) op_le (s2_le (K := K)) (x_var 1) (x_var 0) (x_var 2)))))⟩
/-! ## comparer_ok -/
abbrev st_comparer_ok : Stmt := topS 12
abbrev nm_comparer_ok : List Str := ["lines", "value"]
abbrev ps_comparer_ok : List Str := ["lines", "value"]
theorem sc_comparer_ok : FnScope nm_comparer_ok ps_comparer_ok (defScope st_comparer_ok) := ⟨rfl, rfl, rfl, by decide +kernel, rfl, by decide +kernel, by decide +kernel⟩
def g_comparer_ok : En → RS :=
      dSeq (dIfS (dOr (dNot (dB (dIsi "tuple" (dVar 1)))) (dOr (dB (dBin gNe (dCb gLen (dConsD (dVar 1) (dNil))) (dC (.int 2)))) (dNot (dB (dCl fn_is_between (dConsD (dBin gIx (dVar 1) (dC (.int 0))) (dConsD (dC (.int 0)) (dConsD (dBin gMinus (dVar 0) (dC (.int 1))) (dNil)))) dNil [0, 1, 2] []))))) (dRet (dC (.bool false))) (dSkip))
      (dRet (dCl fn_is_between (dConsD (dBin gIx (dVar 1) (dC (.int 1))) (dConsD (dBin gAdd (dBin gIx (dVar 1) (dC (.int 0))) (dC (.int 1))) (dConsD (dBin gMinus (dVar 0) (dC (.int 1))) (dNil)))) dNil [0, 1, 2] []))
def fn_comparer_ok : Fn := fnOf 0 g_comparer_ok
theorem w_comparer_ok {P : Program} {w : World} {K : PySem.W.Frag} {mg : Str → Option Value} {base : Heap} (M : Mg mg) {fd_is_between : FuncData} (c_is_between : Cal P w K mg base "is_between" 2 fd_is_between ps_is_between fn_is_between) (b0 : BindK K fd_is_between ps_is_between [] 3 [0, 1, 2] []) {f : Addr} {fd : FuncData} (F : Dfn K mg "comparer_ok" st_comparer_ok f fd) : Cal P w K mg base "comparer_ok" 3 fd ps_comparer_ok fn_comparer_ok := by
  refine F.cal (N := nm_comparer_ok) sc_comparer_ok (by decide) fun cdv A outer s H E hG hr => ?_
  have hN : List.Nodup (nm_comparer_ok) := by decide +kernel
  exact ⟨_, b_cons (s_if (t_bool (w_or (t_not (t_val (x_isi "tuple" (x_var 1) M.m_isinstance M.m_tuple))) (w_or (t_cmp (show OpR _ _ (rNeD K) from op_neD hr.units) (s2_ne (K := K)) (x_cb (show CallR _ _ (rLen2 K) from cLen) (sc_len (K := K)) (by decide +kernel) M.m_len (a_cons (x_var 1) (a_nil))) (x_int)) (w_or1 (t_not (t_val (x_call c_is_between (by decide) hG hr b0 .nil (fun _ => .nil) (a_cons (x_ix2 (K0 := K) (x_var 1) (x_int)) (a_cons (x_int) (a_cons (x_bin op_sub (s2_sub (K := K)) (x_var 0) (x_int)) (a_nil)))) (ln_consD (ln_consD (ln_consD (ln_nil))))))))))) (b_one (s_ret (x_bl))) (b_nil))
      (b_one (s_ret (x_call c_is_between (by decide) hG hr b0 .nil (fun _ => .nil) (a_cons (x_ix2 (K0 := K) (x_var 1) (x_int)) (a_cons (x_bin (show OpR _ _ (rAdd4 K) from opAdd) (s2_add (K := K)) (x_ix2 (K0 := K) (x_var 1) (x_int)) (x_int)) (a_cons (x_bin op_sub (s2_sub (K := K)) (x_var 0) (x_int)) (a_nil)))) (ln_consD (ln_consD (ln_consD (ln_nil)))))))⟩
/-! ## first_wrong_comparer -/
abbrev st_first_wrong_comparer : Stmt := topS 13
abbrev nm_first_wrong_comparer : List Str := ["lines", "value", "index", "comparer"]
abbrev ps_first_wrong_comparer : List Str := ["lines", "value"]
theorem sc_first_wrong_comparer : FnScope nm_first_wrong_comparer ps_first_wrong_comparer (defScope st_first_wrong_comparer) := ⟨rfl, rfl, rfl, by decide +kernel, rfl, by decide +kernel, by decide +kernel⟩
def g_first_wrong_comparer : En → RS :=
      dSeq (dFor (dEn (dVar 1)) (tgT 2 (tgCons (tgN 2) (tgCons (tgN 3) (tgNil)))) (dIfS (dOr (dB (dBin gEq (dVar 2) (dC d_MOST_COMPARERS))) (dNot (dB (dCl fn_comparer_ok (dConsD (dVar 0) (dConsD (dVar 3) (dNil))) dNil [0, 1] [])))) (dRet (dVar 2)) (dSkip)) [])
      (dRet (dC .none))
def fn_first_wrong_comparer : Fn := fnOf 2 g_first_wrong_comparer
theorem w_first_wrong_comparer {P : Program} {w : World} {K : PySem.W.Frag} {mg : Str → Option Value} {base : Heap} (M : Mg mg) {fd_comparer_ok : FuncData} (c_comparer_ok : Cal P w K mg base "comparer_ok" 3 fd_comparer_ok ps_comparer_ok fn_comparer_ok) (b0 : BindK K fd_comparer_ok ps_comparer_ok [] 2 [0, 1] []) {f : Addr} {fd : FuncData} (F : Dfn K mg "first_wrong_comparer" st_first_wrong_comparer f fd) : Cal P w K mg base "first_wrong_comparer" 4 fd ps_first_wrong_comparer fn_first_wrong_comparer := by
  refine F.cal (N := nm_first_wrong_comparer) sc_first_wrong_comparer (by decide) fun cdv A outer s H E hG hr => ?_
  have hN : List.Nodup (nm_first_wrong_comparer) := by decide +kernel
  exact ⟨_, b_cons (s_for [] (i_enum2 (K0 := K) (x_var 1) M.m_enumerate) (g_tup2 (K0 := K) (gs_cons (g_name hN rfl (by first | exact .inl rfl | exact .inr rfl)) (gs_cons (g_name hN rfl (by first | exact .inl rfl | exact .inr rfl)) (gs_nil)))) (b_one (s_if (t_bool (w_or (t_cmp (show OpR _ _ (rEqD K) from op_eqD hr.units) (s2_eq (K := K)) (x_var 2) ((gx_MOST_COMPARERS M))) (w_or1 (t_not (t_val (x_call c_comparer_ok (by decide) hG hr b0 .nil (fun _ => .nil) (a_cons (x_var 0) (a_cons (x_var 3) (a_nil))) (ln_consD (ln_consD (ln_nil))))))))) (b_one (s_ret (x_var 2))) (b_nil))) PassesOwn.never)
      (b_one (s_ret (x_non)))⟩
/-! ## sorter_ok -/
abbrev st_sorter_ok : Stmt := topS 14
abbrev nm_sorter_ok : List Str := ["lines", "value"]
abbrev ps_sorter_ok : List Str := ["lines", "value"]
theorem sc_sorter_ok : FnScope nm_sorter_ok ps_sorter_ok (defScope st_sorter_ok) := ⟨rfl, rfl, rfl, by decide +kernel, rfl, by decide +kernel, by decide +kernel⟩
def g_sorter_ok : En → RS :=
      dRet (dAndV (dIsi "tuple" (dVar 1)) (dBin (gIsX false) (dCl fn_first_wrong_comparer (dConsD (dVar 0) (dConsD (dVar 1) (dNil))) dNil [0, 1] []) (dC .none)))
def fn_sorter_ok : Fn := fnOf 0 g_sorter_ok
theorem w_sorter_ok {P : Program} {w : World} {K : PySem.W.Frag} {mg : Str → Option Value} {base : Heap} (M : Mg mg) {fd_first_wrong_comparer : FuncData} (c_first_wrong_comparer : Cal P w K mg base "first_wrong_comparer" 4 fd_first_wrong_comparer ps_first_wrong_comparer fn_first_wrong_comparer) (b0 : BindK K fd_first_wrong_comparer ps_first_wrong_comparer [] 2 [0, 1] []) {f : Addr} {fd : FuncData} (F : Dfn K mg "sorter_ok" st_sorter_ok f fd) : Cal P w K mg base "sorter_ok" 5 fd ps_sorter_ok fn_sorter_ok := by
  refine F.cal (N := nm_sorter_ok) sc_sorter_ok (by decide) fun cdv A outer s H E hG hr => ?_
  have hN : List.Nodup (nm_sorter_ok) := by decide +kernel
  exact ⟨_, b_one (s_ret (x_and (x_isi "tuple" (x_var 1) M.m_isinstance M.m_tuple) (x_one (x_cmp opIs (s2_is (K := K)) (x_call c_first_wrong_comparer (by decide) hG hr b0 .nil (fun _ => .nil) (a_cons (x_var 0) (a_cons (x_var 1) (a_nil))) (ln_consD (ln_consD (ln_nil)))) (x_non)))))⟩
/-! ## behind_comparer -/
abbrev st_behind_comparer : Stmt := topS 15
abbrev nm_behind_comparer : List Str := ["row", "comparer", "low", "high", "found"]
abbrev ps_behind_comparer : List Str := ["row", "comparer"]
theorem sc_behind_comparer : FnScope nm_behind_comparer ps_behind_comparer (defScope st_behind_comparer) := ⟨rfl, rfl, rfl, by decide +kernel, rfl, by decide +kernel, by decide +kernel⟩
def g_behind_comparer : En → RS :=
      dSeq (dAsgT (dVar 1) (tgT 2 (tgCons (tgN 2) (tgCons (tgN 3) (tgNil)))))
      (dSeq (dIfS (dB (dBin gLe (dBin gIx (dVar 0) (dVar 2)) (dBin gIx (dVar 0) (dVar 3)))) (dRet (dVar 0)) (dSkip))
      (dSeq (dAsgL 4 (dCb gList (dConsD (dVar 0) (dNil))))
      (dSeq (dAsgT (dTup (dConsD (dBin gIx (dVar 0) (dVar 3)) (dConsD (dBin gIx (dVar 0) (dVar 2)) (dNil)))) (tgT 2 (tgCons (tgSub 4 (dVar 2)) (tgCons (tgSub 4 (dVar 3)) (tgNil)))))
      (dRet (dCb gTuple (dCons (oS 4) (dNil)))))))
def fn_behind_comparer : Fn := fnOf 3 g_behind_comparer
theorem w_behind_comparer {P : Program} {w : World} {K : PySem.W.Frag} {mg : Str → Option Value} {base : Heap} (M : Mg mg)  {f : Addr} {fd : FuncData} (F : Dfn K mg "behind_comparer" st_behind_comparer f fd) : Cal P w K mg base "behind_comparer" 1 fd ps_behind_comparer fn_behind_comparer := by
  refine F.cal (N := nm_behind_comparer) sc_behind_comparer (by decide) fun cdv A outer s H E hG hr => ?_
  have hN : List.Nodup (nm_behind_comparer) := by decide +kernel
  exact ⟨_, b_cons (s_asgT (x_var 1) (g_tup2 (K0 := K) (gs_cons (g_name hN rfl (by first | exact .inl rfl | exact .inr rfl)) (gs_cons (g_name hN rfl (by first | exact .inl rfl | exact .inr rfl)) (gs_nil)))))
      (b_cons (s_if (t_cmp op_le (s2_le (K := K)) (x_ix2 (K0 := K) (x_var 0) (x_var 2)) (x_ix2 (K0 := K) (x_var 0) (x_var 3))) (b_one (s_ret (x_var 0))) (b_nil))
      (b_cons (s_asgL hN (i := 4) rfl (by first | exact .inl rfl | exact .inr rfl) (n_ty (show CallR _ _ (rList2 K) from cList) (sc_list (K := K)) (by decide +kernel) M.m_list (a_cons (x_var 0) (a_nil))))
      (b_cons (s_asgT (x_tup (a_cons (x_ix2 (K0 := K) (x_var 0) (x_var 3)) (a_cons (x_ix2 (K0 := K) (x_var 0) (x_var 2)) (a_nil)))) (g_tup2 (K0 := K) (gs_cons (g_subL (x_var 4).p (x_var 2)) (gs_cons (g_subL (x_var 4).p (x_var 3)) (gs_nil)))))
      (b_one (s_ret (x_ty (show CallR _ _ (rTup2 K) from cTup) (sc_tuple (K := K)) (by decide +kernel) M.m_tuple (a_op (o_slot 4) (a_nil))))))))⟩
/-! ## run_by -/
abbrev st_run_by : Stmt := topS 16
abbrev nm_run_by : List Str := ["sorter", "row", "here", "comparer"]
abbrev ps_run_by : List Str := ["sorter", "row"]
theorem sc_run_by : FnScope nm_run_by ps_run_by (defScope st_run_by) := ⟨rfl, rfl, rfl, by decide +kernel, rfl, by decide +kernel, by decide +kernel⟩
def g_run_by : En → RS :=
      dSeq (dAsg 2 (dVar 1))
      (dSeq (dFor (dIt (dVar 0)) (tgN 3) (dAsg 2 (dCl fn_behind_comparer (dConsD (dVar 2) (dConsD (dVar 3) (dNil))) dNil [0, 1] [])) [])
      (dRet (dVar 2)))
def fn_run_by : Fn := fnOf 2 g_run_by
theorem w_run_by {P : Program} {w : World} {K : PySem.W.Frag} {mg : Str → Option Value} {base : Heap} (M : Mg mg) {fd_behind_comparer : FuncData} (c_behind_comparer : Cal P w K mg base "behind_comparer" 1 fd_behind_comparer ps_behind_comparer fn_behind_comparer) (b0 : BindK K fd_behind_comparer ps_behind_comparer [] 2 [0, 1] []) {f : Addr} {fd : FuncData} (F : Dfn K mg "run_by" st_run_by f fd) : Cal P w K mg base "run_by" 2 fd ps_run_by fn_run_by := by
  refine F.cal (N := nm_run_by) sc_run_by (by decide) fun cdv A outer s H E hG hr => ?_
  have hN : List.Nodup (nm_run_by) := by decide +kernel
  exact ⟨_, b_cons (s_asg hN (i := 2) rfl (by first | exact .inl rfl | exact .inr rfl) (x_var 1))
      (b_cons (s_for [] (i_seq2 (K0 := K) (x_var 0)) (g_name hN rfl (by first | exact .inl rfl | exact .inr rfl)) (b_one (s_asg hN (i := 2) rfl (by first | exact .inl rfl | exact .inr rfl) (x_call c_behind_comparer (by decide) hG hr b0 .nil (fun _ => .nil) (a_cons (x_var 2) (a_cons (x_var 3) (a_nil))) (ln_consD (ln_consD (ln_nil)))))) PassesOwn.never)
      (b_one (s_ret (x_var 2))))⟩
/-! ## is_rising -/
abbrev st_is_rising : Stmt := topS 17
abbrev nm_is_rising : List Str := ["row", "one", "two"]
abbrev ps_is_rising : List Str := ["row"]
theorem sc_is_rising : FnScope nm_is_rising ps_is_rising (defScope st_is_rising) := ⟨rfl, rfl, rfl, by decide +kernel, rfl, by decide +kernel, by decide +kernel⟩
def g_is_rising : En → RS :=
      dRet (dCb gAll (dConsD (dLst (dLc (dItZ (dVar 0) (dSl (oVal (dVar 0)) (dSome (dC (.int 1))) dNone)) (tgT 2 (tgCons (tgN 1) (tgCons (tgN 2) (tgNil)))) (dYes) (dBin gLe (dVar 1) (dVar 2)) [1, 2])) (dNil)))
def fn_is_rising : Fn := fnOf 2 g_is_rising
theorem w_is_rising {P : Program} {w : World} {K : PySem.W.Frag} {mg : Str → Option Value} {base : Heap} (M : Mg mg)  {f : Addr} {fd : FuncData} (F : Dfn K mg "is_rising" st_is_rising f fd) : Cal P w K mg base "is_rising" 1 fd ps_is_rising fn_is_rising := by
  refine F.cal (N := nm_is_rising) sc_is_rising (by decide) fun cdv A outer s H E hG hr => ?_
  have hN : List.Nodup (nm_is_rising) := by decide +kernel
  exact ⟨_, b_one (s_ret (x_cb (show CallR _ _ (rAll K) from cr_all rfl) (sc_all (K := K)) (by decide +kernel) M.m_all (a_cons (x_new (n_lc (own := [("one", 1), ("two", 2)]) [1, 2] rfl hN (i_zip2 (K0 := K) (x_var 0) (x_sl2 (K0 := K) (o_val (x_var 0)) (p_some (x_int)) p_none) M.m_zip) (by rfl) (fun s1 H1 C1 cl1 fp1 => by exact g_tup2 (K0 := K) (gs_cons (g_name hN rfl (by first | exact .inl rfl | exact .inr rfl)) (gs_cons (g_name hN rfl (by first | exact .inl rfl | exact .inr rfl)) (gs_nil)))) (l_tup (l_cons (l_name) (l_cons (l_name) (l_nil)))) (fun s1 H1 C1 cl1 fp1 => by exact ts_nil) (fun s1 H1 C1 cl1 fp1 => by exact x_cmp op_le (s2_le (K := K)) (x_var 1) (x_var 2)))) (a_nil))))⟩
/-! ## check_lines -/
abbrev st_check_lines : Stmt := topS 19
abbrev nm_check_lines : List Str := ["lines", "most"]
abbrev ps_check_lines : List Str := ["lines", "most"]
theorem sc_check_lines : FnScope nm_check_lines ps_check_lines (defScope st_check_lines) := ⟨rfl, rfl, rfl, by decide +kernel, rfl, by decide +kernel, by decide +kernel⟩
def g_check_lines : En → RS :=
      dIfS (dNot (dB (dCl fn_is_between (dConsD (dVar 0) (dConsD (dC d_LEAST_LINES) (dConsD (dVar 1) (dNil)))) dNil [0, 1, 2] []))) (dNo) (dSkip)
def fn_check_lines : Fn := fnOf 0 g_check_lines
theorem w_check_lines {P : Program} {w : World} {K : PySem.W.Frag} {mg : Str → Option Value} {base : Heap} (M : Mg mg) {fd_is_between : FuncData} (c_is_between : Cal P w K mg base "is_between" 2 fd_is_between ps_is_between fn_is_between) (b0 : BindK K fd_is_between ps_is_between [] 3 [0, 1, 2] []) {f : Addr} {fd : FuncData} (F : Dfn K mg "check_lines" st_check_lines f fd) : Cal P w K mg base "check_lines" 3 fd ps_check_lines fn_check_lines := by
  refine F.cal (N := nm_check_lines) sc_check_lines (by decide) fun cdv A outer s H E hG hr => ?_
  have hN : List.Nodup (nm_check_lines) := by decide +kernel
  exact ⟨_, b_one (s_if (t_not (t_val (x_call c_is_between (by decide) hG hr b0 .nil (fun _ => .nil) (a_cons (x_var 0) (a_cons ((gx_LEAST_LINES M)) (a_cons (x_var 1) (a_nil)))) (ln_consD (ln_consD (ln_consD (ln_nil))))))) (b_one (s_never)) (b_nil))⟩
/-! ## check_sorter -/
abbrev st_check_sorter : Stmt := topS 20
abbrev nm_check_sorter : List Str := ["lines", "sorter", "index"]
abbrev ps_check_sorter : List Str := ["lines", "sorter"]
theorem sc_check_sorter : FnScope nm_check_sorter ps_check_sorter (defScope st_check_sorter) := ⟨rfl, rfl, rfl, by decide +kernel, rfl, by decide +kernel, by decide +kernel⟩
def g_check_sorter : En → RS :=
      dSeq (dIfS (dNot (dB (dIsi "tuple" (dVar 1)))) (dNo) (dSkip))
      (dSeq (dAsg 2 (dCl fn_first_wrong_comparer (dConsD (dVar 0) (dConsD (dVar 1) (dNil))) dNil [0, 1] []))
      (dIfS (dB (dBin (gIsX true) (dVar 2) (dC .none))) (dNo) (dSkip)))
def fn_check_sorter : Fn := fnOf 1 g_check_sorter
theorem w_check_sorter {P : Program} {w : World} {K : PySem.W.Frag} {mg : Str → Option Value} {base : Heap} (M : Mg mg) {fd_first_wrong_comparer : FuncData} (c_first_wrong_comparer : Cal P w K mg base "first_wrong_comparer" 4 fd_first_wrong_comparer ps_first_wrong_comparer fn_first_wrong_comparer) (b0 : BindK K fd_first_wrong_comparer ps_first_wrong_comparer [] 2 [0, 1] []) {f : Addr} {fd : FuncData} (F : Dfn K mg "check_sorter" st_check_sorter f fd) : Cal P w K mg base "check_sorter" 5 fd ps_check_sorter fn_check_sorter := by
  refine F.cal (N := nm_check_sorter) sc_check_sorter (by decide) fun cdv A outer s H E hG hr => ?_
  have hN : List.Nodup (nm_check_sorter) := by decide +kernel
  exact ⟨_, b_cons (s_if (t_not (t_val (x_isi "tuple" (x_var 1) M.m_isinstance M.m_tuple))) (b_one (s_never)) (b_nil))
      (b_cons (s_asg hN (i := 2) rfl (by first | exact .inl rfl | exact .inr rfl) (x_call c_first_wrong_comparer (by decide) hG hr b0 .nil (fun _ => .nil) (a_cons (x_var 0) (a_cons (x_var 1) (a_nil))) (ln_consD (ln_consD (ln_nil)))))
      (b_one (s_if (t_cmp opIsNot (s2_is (K := K)) (x_var 2) (x_non)) (b_one (s_never)) (b_nil))))⟩
/-! ## check_lined -/
abbrev st_check_lined : Stmt := topS 21
abbrev nm_check_lined : List Str := ["lines", "sorter"]
abbrev ps_check_lined : List Str := ["lines", "sorter"]
theorem sc_check_lined : FnScope nm_check_lined ps_check_lined (defScope st_check_lined) := ⟨rfl, rfl, rfl, by decide +kernel, rfl, by decide +kernel, by decide +kernel⟩
def g_check_lined : En → RS :=
      dSeq (dDrop (dCl fn_check_lines (dConsD (dVar 0) (dNil)) dNil [0, 1] [.int 8]))
      (dDrop (dCl fn_check_sorter (dConsD (dVar 0) (dConsD (dVar 1) (dNil))) dNil [0, 1] []))
def fn_check_lined : Fn := fnOf 0 g_check_lined
theorem w_check_lined {P : Program} {w : World} {K : PySem.W.Frag} {mg : Str → Option Value} {base : Heap} (M : Mg mg) {fd_check_lines : FuncData} (c_check_lines : Cal P w K mg base "check_lines" 3 fd_check_lines ps_check_lines fn_check_lines) {fd_check_sorter : FuncData} (c_check_sorter : Cal P w K mg base "check_sorter" 5 fd_check_sorter ps_check_sorter fn_check_sorter) {t_b0_0 : Tok} (b0 : BindK K fd_check_lines ps_check_lines [] 1 [0, 1] [.int 8 t_b0_0]) (b1 : BindK K fd_check_sorter ps_check_sorter [] 2 [0, 1] []) {f : Addr} {fd : FuncData} (F : Dfn K mg "check_lined" st_check_lined f fd) : Cal P w K mg base "check_lined" 6 fd ps_check_lined fn_check_lined := by
  refine F.cal (N := nm_check_lined) sc_check_lined (by decide) fun cdv A outer s H E hG hr => ?_
  have hN : List.Nodup (nm_check_lined) := by decide +kernel
  exact ⟨_, b_cons (s_expr (x_call c_check_lines (by decide) hG hr b0 (valsI .nil) (fun _ => (.cons (.int _) .nil)) (a_cons (x_var 0) (a_nil)) (ln_consD (ln_nil))))
      (b_one (s_expr (x_call c_check_sorter (by decide) hG hr b1 .nil (fun _ => .nil) (a_cons (x_var 0) (a_cons (x_var 1) (a_nil))) (ln_consD (ln_consD (ln_nil))))))⟩
/-! ## check_row -/
abbrev st_check_row : Stmt := topS 22
abbrev nm_check_row : List Str := ["lines", "row", "each"]
abbrev ps_check_row : List Str := ["lines", "row"]
theorem sc_check_row : FnScope nm_check_row ps_check_row (defScope st_check_row) := ⟨rfl, rfl, rfl, by decide +kernel, rfl, by decide +kernel, by decide +kernel⟩
def g_check_row : En → RS :=
      dIfS (dOr (dNot (dB (dIsi "tuple" (dVar 1)))) (dOr (dB (dBin gNe (dCb gLen (dConsD (dVar 1) (dNil))) (dVar 0))) (dNot (dB (dCb gAll (dConsD (dLst (dLc (dIt (dVar 1)) (tgN 2) (dYes) (dCl fn_is_whole (dConsD (dVar 2) (dNil)) dNil [0] []) [2])) (dNil))))))) (dNo) (dSkip)
def fn_check_row : Fn := fnOf 1 g_check_row
theorem w_check_row {P : Program} {w : World} {K : PySem.W.Frag} {mg : Str → Option Value} {base : Heap} (M : Mg mg) {fd_is_whole : FuncData} (c_is_whole : Cal P w K mg base "is_whole" 1 fd_is_whole ps_is_whole fn_is_whole) (b0 : BindK K fd_is_whole ps_is_whole [] 1 [0] []) {f : Addr} {fd : FuncData} (F : Dfn K mg "check_row" st_check_row f fd) : Cal P w K mg base "check_row" 2 fd ps_check_row fn_check_row := by
  refine F.cal (N := nm_check_row) sc_check_row (by decide) fun cdv A outer s H E hG hr => ?_
  have hN : List.Nodup (nm_check_row) := by decide +kernel
  exact ⟨_, b_one (s_if (t_bool (w_or (t_not (t_val (x_isi "tuple" (x_var 1) M.m_isinstance M.m_tuple))) (w_or (t_cmp (show OpR _ _ (rNeD K) from op_neD hr.units) (s2_ne (K := K)) (x_cb (show CallR _ _ (rLen2 K) from cLen) (sc_len (K := K)) (by decide +kernel) M.m_len (a_cons (x_var 1) (a_nil))) (x_var 0)) (w_or1 (t_not (t_val (x_cb (show CallR _ _ (rAll K) from cr_all rfl) (sc_all (K := K)) (by decide +kernel) M.m_all (a_cons (x_new (n_lc (own := [("each", 2)]) [2] rfl hN (i_seq2 (K0 := K) (x_var 1)) (by rfl) (fun s1 H1 C1 cl1 fp1 => by exact g_name hN rfl (by first | exact .inl rfl | exact .inr rfl)) (l_name) (fun s1 H1 C1 cl1 fp1 => by exact ts_nil) (fun s1 H1 C1 cl1 fp1 => by exact x_call c_is_whole (by decide) hG hr b0 .nil (fun _ => .nil) (a_cons (x_var 2) (a_nil)) (ln_consD (ln_nil))))) (a_nil))))))))) (b_one (s_never)) (b_nil))⟩
/-! ## is_sorter -/
abbrev st_is_sorter : Stmt := topS 24
abbrev nm_is_sorter : List Str := ["lines", "value"]
abbrev ps_is_sorter : List Str := ["lines", "value"]
theorem sc_is_sorter : FnScope nm_is_sorter ps_is_sorter (defScope st_is_sorter) := ⟨rfl, rfl, rfl, by decide +kernel, rfl, by decide +kernel, by decide +kernel⟩
def g_is_sorter : En → RS :=
      dSeq (dDrop (dCl fn_check_lines (dConsD (dVar 0) (dNil)) dNil [0, 1] [.int 8]))
      (dRet (dCl fn_sorter_ok (dConsD (dVar 0) (dConsD (dVar 1) (dNil))) dNil [0, 1] []))
def fn_is_sorter : Fn := fnOf 0 g_is_sorter
theorem w_is_sorter {P : Program} {w : World} {K : PySem.W.Frag} {mg : Str → Option Value} {base : Heap} (M : Mg mg) {fd_check_lines : FuncData} (c_check_lines : Cal P w K mg base "check_lines" 3 fd_check_lines ps_check_lines fn_check_lines) {fd_sorter_ok : FuncData} (c_sorter_ok : Cal P w K mg base "sorter_ok" 5 fd_sorter_ok ps_sorter_ok fn_sorter_ok) {t_b0_0 : Tok} (b0 : BindK K fd_check_lines ps_check_lines [] 1 [0, 1] [.int 8 t_b0_0]) (b1 : BindK K fd_sorter_ok ps_sorter_ok [] 2 [0, 1] []) {f : Addr} {fd : FuncData} (F : Dfn K mg "is_sorter" st_is_sorter f fd) : Cal P w K mg base "is_sorter" 6 fd ps_is_sorter fn_is_sorter := by
  refine F.cal (N := nm_is_sorter) sc_is_sorter (by decide) fun cdv A outer s H E hG hr => ?_
  have hN : List.Nodup (nm_is_sorter) := by decide +kernel
  exact ⟨_, b_cons (s_expr (x_call c_check_lines (by decide) hG hr b0 (valsI .nil) (fun _ => (.cons (.int _) .nil)) (a_cons (x_var 0) (a_nil)) (ln_consD (ln_nil))))
      (b_one (s_ret (x_call c_sorter_ok (by decide) hG hr b1 .nil (fun _ => .nil) (a_cons (x_var 0) (a_cons (x_var 1) (a_nil))) (ln_consD (ln_consD (ln_nil))))))⟩
/-! ## sorted_by -/
abbrev st_sorted_by : Stmt := topS 25
abbrev nm_sorted_by : List Str := ["lines", "sorter", "row"]
abbrev ps_sorted_by : List Str := ["lines", "sorter", "row"]
theorem sc_sorted_by : FnScope nm_sorted_by ps_sorted_by (defScope st_sorted_by) := ⟨rfl, rfl, rfl, by decide +kernel, rfl, by decide +kernel, by decide +kernel⟩
def g_sorted_by : En → RS :=
      dSeq (dDrop (dCl fn_check_lined (dConsD (dVar 0) (dConsD (dVar 1) (dNil))) dNil [0, 1] []))
      (dSeq (dDrop (dCl fn_check_row (dConsD (dVar 0) (dConsD (dVar 2) (dNil))) dNil [0, 1] []))
      (dRet (dCl fn_run_by (dConsD (dVar 1) (dConsD (dVar 2) (dNil))) dNil [0, 1] [])))
def fn_sorted_by : Fn := fnOf 0 g_sorted_by
theorem w_sorted_by {P : Program} {w : World} {K : PySem.W.Frag} {mg : Str → Option Value} {base : Heap} (M : Mg mg) {fd_check_lined : FuncData} (c_check_lined : Cal P w K mg base "check_lined" 6 fd_check_lined ps_check_lined fn_check_lined) {fd_check_row : FuncData} (c_check_row : Cal P w K mg base "check_row" 2 fd_check_row ps_check_row fn_check_row) {fd_run_by : FuncData} (c_run_by : Cal P w K mg base "run_by" 2 fd_run_by ps_run_by fn_run_by) (b0 : BindK K fd_check_lined ps_check_lined [] 2 [0, 1] []) (b1 : BindK K fd_check_row ps_check_row [] 2 [0, 1] []) (b2 : BindK K fd_run_by ps_run_by [] 2 [0, 1] []) {f : Addr} {fd : FuncData} (F : Dfn K mg "sorted_by" st_sorted_by f fd) : Cal P w K mg base "sorted_by" 7 fd ps_sorted_by fn_sorted_by := by
  refine F.cal (N := nm_sorted_by) sc_sorted_by (by decide) fun cdv A outer s H E hG hr => ?_
  have hN : List.Nodup (nm_sorted_by) := by decide +kernel
  exact ⟨_, b_cons (s_expr (x_call c_check_lined (by decide) hG hr b0 .nil (fun _ => .nil) (a_cons (x_var 0) (a_cons (x_var 1) (a_nil))) (ln_consD (ln_consD (ln_nil)))))
      (b_cons (s_expr (x_call c_check_row (by decide) hG hr b1 .nil (fun _ => .nil) (a_cons (x_var 0) (a_cons (x_var 2) (a_nil))) (ln_consD (ln_consD (ln_nil)))))
      (b_one (s_ret (x_call c_run_by (by decide) hG hr b2 .nil (fun _ => .nil) (a_cons (x_var 1) (a_cons (x_var 2) (a_nil))) (ln_consD (ln_consD (ln_nil)))))))⟩
/-! ## does_sort -/
abbrev st_does_sort : Stmt := topS 26
abbrev nm_does_sort : List Str := ["lines", "sorter", "row"]
abbrev ps_does_sort : List Str := ["lines", "sorter", "row"]
theorem sc_does_sort : FnScope nm_does_sort ps_does_sort (defScope st_does_sort) := ⟨rfl, rfl, rfl, by decide +kernel, rfl, by decide +kernel, by decide +kernel⟩
def g_does_sort : En → RS :=
      dSeq (dDrop (dCl fn_check_lined (dConsD (dVar 0) (dConsD (dVar 1) (dNil))) dNil [0, 1] []))
      (dSeq (dDrop (dCl fn_check_row (dConsD (dVar 0) (dConsD (dVar 2) (dNil))) dNil [0, 1] []))
      (dRet (dCl fn_is_rising (dConsD (dCl fn_run_by (dConsD (dVar 1) (dConsD (dVar 2) (dNil))) dNil [0, 1] []) (dNil)) dNil [0] [])))
def fn_does_sort : Fn := fnOf 0 g_does_sort
theorem w_does_sort {P : Program} {w : World} {K : PySem.W.Frag} {mg : Str → Option Value} {base : Heap} (M : Mg mg) {fd_check_lined : FuncData} (c_check_lined : Cal P w K mg base "check_lined" 6 fd_check_lined ps_check_lined fn_check_lined) {fd_check_row : FuncData} (c_check_row : Cal P w K mg base "check_row" 2 fd_check_row ps_check_row fn_check_row) {fd_is_rising : FuncData} (c_is_rising : Cal P w K mg base "is_rising" 1 fd_is_rising ps_is_rising fn_is_rising) {fd_run_by : FuncData} (c_run_by : Cal P w K mg base "run_by" 2 fd_run_by ps_run_by fn_run_by) (b0 : BindK K fd_check_lined ps_check_lined [] 2 [0, 1] []) (b1 : BindK K fd_check_row ps_check_row [] 2 [0, 1] []) (b2 : BindK K fd_is_rising ps_is_rising [] 1 [0] []) (b3 : BindK K fd_run_by ps_run_by [] 2 [0, 1] []) {f : Addr} {fd : FuncData} (F : Dfn K mg "does_sort" st_does_sort f fd) : Cal P w K mg base "does_sort" 7 fd ps_does_sort fn_does_sort := by
  refine F.cal (N := nm_does_sort) sc_does_sort (by decide) fun cdv A outer s H E hG hr => ?_
  have hN : List.Nodup (nm_does_sort) := by decide +kernel
  exact ⟨_, b_cons (s_expr (x_call c_check_lined (by decide) hG hr b0 .nil (fun _ => .nil) (a_cons (x_var 0) (a_cons (x_var 1) (a_nil))) (ln_consD (ln_consD (ln_nil)))))
      (b_cons (s_expr (x_call c_check_row (by decide) hG hr b1 .nil (fun _ => .nil) (a_cons (x_var 0) (a_cons (x_var 2) (a_nil))) (ln_consD (ln_consD (ln_nil)))))
      (b_one (s_ret (x_call c_is_rising (by decide) hG hr b2 .nil (fun _ => .nil) (a_cons (x_call c_run_by (by decide) hG hr b3 .nil (fun _ => .nil) (a_cons (x_var 1) (a_cons (x_var 2) (a_nil))) (ln_consD (ln_consD (ln_nil)))) (a_nil)) (ln_consD (ln_nil))))))⟩
/-! ## disorder_by -/
abbrev st_disorder_by : Stmt := topS 28
abbrev nm_disorder_by : List Str := ["row", "at", "each", "other"]
abbrev ps_disorder_by : List Str := ["row"]
theorem sc_disorder_by : FnScope nm_disorder_by ps_disorder_by (defScope st_disorder_by) := ⟨rfl, rfl, rfl, by decide +kernel, rfl, by decide +kernel, by decide +kernel⟩
def g_disorder_by : En → RS :=
      dRet (dCb gSum (dConsD (dLst (dLc (dEn (dVar 0)) (tgT 2 (tgCons (tgN 1) (tgCons (tgN 2) (tgNil)))) (dYes) (dCb gLen (dConsD (dLst (dLc (dIt (dSl (oVal (dVar 0)) (dSome (dBin gAdd (dVar 1) (dC (.int 1)))) dNone)) (tgN 3) (dB (dBin gGt (dVar 2) (dVar 3))) (dC (.int 1)) [3])) (dNil))) [1, 2])) (dNil)))
def fn_disorder_by : Fn := fnOf 3 g_disorder_by
theorem w_disorder_by {P : Program} {w : World} {K : PySem.W.Frag} {mg : Str → Option Value} {base : Heap} (M : Mg mg)  {f : Addr} {fd : FuncData} (F : Dfn K mg "disorder_by" st_disorder_by f fd) : Cal P w K mg base "disorder_by" 1 fd ps_disorder_by fn_disorder_by := by
  refine F.cal (N := nm_disorder_by) sc_disorder_by (by decide) fun cdv A outer s H E hG hr => ?_
  have hN : List.Nodup (nm_disorder_by) := by decide +kernel
  exact ⟨_, b_one (s_ret (x_cb (show CallR _ _ (rSum K) from cr_sum rfl) (sc_sum (K := K)) (by decide +kernel) M.m_sum (a_cons (x_new (n_lc (own := [("at", 1), ("each", 2)]) [1, 2] rfl hN (i_enum2 (K0 := K) (x_var 0) M.m_enumerate) (by rfl) (fun s1 H1 C1 cl1 fp1 => by exact g_tup2 (K0 := K) (gs_cons (g_name hN rfl (by first | exact .inl rfl | exact .inr rfl)) (gs_cons (g_name hN rfl (by first | exact .inl rfl | exact .inr rfl)) (gs_nil)))) (l_tup (l_cons (l_name) (l_cons (l_name) (l_nil)))) (fun s1 H1 C1 cl1 fp1 => by exact ts_nil) (fun s1 H1 C1 cl1 fp1 => by exact x_cb (show CallR _ _ (rLen2 K) from cLen) (sc_len (K := K)) (by decide +kernel) M.m_len (a_cons (x_new (n_lc (own := [("other", 3)]) [3] rfl hN (i_seq2 (K0 := K) (x_sl2 (K0 := K) (o_val (x_var 0)) (p_some (x_bin (show OpR _ _ (rAdd4 K) from opAdd) (s2_add (K := K)) (x_var 1) (x_int))) p_none)) (by rfl) (fun s2 H2 C2 cl2 fp2 => by exact g_name hN rfl (by first | exact .inl rfl | exact .inr rfl)) (l_name) (fun s2 H2 C2 cl2 fp2 => by exact ts_one (t_cmp op_gt (s2_gt (K := K)) (x_var 2) (x_var 3))) (fun s2 H2 C2 cl2 fp2 => by exact x_int))) (a_nil))))) (a_nil))))⟩
/-! ## disorder -/
abbrev st_disorder : Stmt := topS 30
abbrev nm_disorder : List Str := ["lines", "row"]
abbrev ps_disorder : List Str := ["lines", "row"]
theorem sc_disorder : FnScope nm_disorder ps_disorder (defScope st_disorder) := ⟨rfl, rfl, rfl, by decide +kernel, rfl, by decide +kernel, by decide +kernel⟩
def g_disorder : En → RS :=
      dSeq (dDrop (dCl fn_check_lines (dConsD (dVar 0) (dNil)) dNil [0, 1] [.int 8]))
      (dSeq (dDrop (dCl fn_check_row (dConsD (dVar 0) (dConsD (dVar 1) (dNil))) dNil [0, 1] []))
      (dRet (dCl fn_disorder_by (dConsD (dVar 1) (dNil)) dNil [0] [])))
def fn_disorder : Fn := fnOf 0 g_disorder
theorem w_disorder {P : Program} {w : World} {K : PySem.W.Frag} {mg : Str → Option Value} {base : Heap} (M : Mg mg) {fd_check_lines : FuncData} (c_check_lines : Cal P w K mg base "check_lines" 3 fd_check_lines ps_check_lines fn_check_lines) {fd_check_row : FuncData} (c_check_row : Cal P w K mg base "check_row" 2 fd_check_row ps_check_row fn_check_row) {fd_disorder_by : FuncData} (c_disorder_by : Cal P w K mg base "disorder_by" 1 fd_disorder_by ps_disorder_by fn_disorder_by) {t_b0_0 : Tok} (b0 : BindK K fd_check_lines ps_check_lines [] 1 [0, 1] [.int 8 t_b0_0]) (b1 : BindK K fd_check_row ps_check_row [] 2 [0, 1] []) (b2 : BindK K fd_disorder_by ps_disorder_by [] 1 [0] []) {f : Addr} {fd : FuncData} (F : Dfn K mg "disorder" st_disorder f fd) : Cal P w K mg base "disorder" 4 fd ps_disorder fn_disorder := by
  refine F.cal (N := nm_disorder) sc_disorder (by decide) fun cdv A outer s H E hG hr => ?_
  have hN : List.Nodup (nm_disorder) := by decide +kernel
  exact ⟨_, b_cons (s_expr (x_call c_check_lines (by decide) hG hr b0 (valsI .nil) (fun _ => (.cons (.int _) .nil)) (a_cons (x_var 0) (a_nil)) (ln_consD (ln_nil))))
      (b_cons (s_expr (x_call c_check_row (by decide) hG hr b1 .nil (fun _ => .nil) (a_cons (x_var 0) (a_cons (x_var 1) (a_nil))) (ln_consD (ln_consD (ln_nil)))))
      (b_one (s_ret (x_call c_disorder_by (by decide) hG hr b2 .nil (fun _ => .nil) (a_cons (x_var 1) (a_nil)) (ln_consD (ln_nil))))))⟩
/-! ## _law_wheel -/
abbrev st__law_wheel : Stmt := topS 32
abbrev nm__law_wheel : List Str := ["script", "side", "own", "spin", "cell"]
abbrev ps__law_wheel : List Str := ["script", "side"]
theorem sc__law_wheel : FnScope nm__law_wheel ps__law_wheel (defScope st__law_wheel) := ⟨rfl, rfl, rfl, by decide +kernel, rfl, by decide +kernel, by decide +kernel⟩
def g__law_wheel : En → RS :=
      dSeq (dAsg 2 (dBin gIx (dBin gAdd (dLst (dCb gList (dCons (oS 0) (dNil)))) (dLst (dItems (dConsD (dC (.int 0)) (dConsD (dC (.int 0)) (dNil)))))) (dVar 1)))
      (dSeq (dAsg 3 (dBin gAdd (dC (.int 50021)) (dBin gMul (dC (.int 701)) (dVar 1))))
      (dSeq (dFor (dIt (dBin gAdd (dLst (dItems (dConsD (dVar 2) (dNil)))) (dSl (oVal (dLst (dCb gList (dCons (oS 0) (dNil))))) dNone (dSome (dC (.int 9)))))) (tgN 4) (dAsg 3 (dBin gMod (dCb gInt (dConsD (dBin gAdd (dBin gAdd (dBin gMul (dVar 3) (dC (.int 40692))) (dBin gMod (dCb gInt (dConsD (dVar 4) (dNil))) (dC (.int 1000000009)))) (dC (.int 5))) (dNil))) (dC (.int 2147483399)))) [])
      (rK (dDict (pCons "row" (dIf (dOr (dB (dBin gLt (dVar 2) (dC (.int 0)))) (dB (dBin gGt (dVar 2) (dBin gPow (dC (.int 10)) (dC (.int 15)))))) (dCb gStr (dConsD (dBin gMod (dCb gInt (dConsD (dCb gAbs (dConsD (dVar 2) (dNil))) (dNil))) (dBin gPow (dC (.int 10)) (dC (.int 57)))) (dNil))) (dC (.str ""))) (pCons "spin" (dBin gAdd (dVar 3) (dC (.int 7))) (pNil)))))))
def fn__law_wheel : Fn := fnOf 3 g__law_wheel
theorem w__law_wheel {P : Program} {w : World} {K : PySem.W.Frag} {mg : Str → Option Value} {base : Heap} (M : Mg mg)  {f : Addr} {fd : FuncData} (F : Dfn K mg "_law_wheel" st__law_wheel f fd) : Cal P w K mg base "_law_wheel" 1 fd ps__law_wheel fn__law_wheel := by
  refine F.cal (N := nm__law_wheel) sc__law_wheel (by decide) fun cdv A outer s H E hG hr => ?_
  have hN : List.Nodup (nm__law_wheel) := by decide +kernel
  exact ⟨_, b_cons (s_asg hN (i := 2) rfl (by first | exact .inl rfl | exact .inr rfl) (x_ix2 (K0 := K) (x_bin (show OpR _ _ (rAdd4 K) from opAdd) (s2_add (K := K)) (x_new (n_ty (show CallR _ _ (rList2 K) from cList) (sc_list (K := K)) (by decide +kernel) M.m_list (a_op (o_slot 0) (a_nil)))) (x_new (n_lst (a_cons (x_int) (a_cons (x_int) (a_nil)))))) (x_var 1)))
      (b_cons (s_asg hN (i := 3) rfl (by first | exact .inl rfl | exact .inr rfl) (x_bin (show OpR _ _ (rAdd4 K) from opAdd) (s2_add (K := K)) (x_int) (x_bin (show OpR _ _ (rMul4 K) from opMul) (s2_mul (K := K)) (x_int) (x_var 1))))
      (b_cons (s_for [] (i_seq2 (K0 := K) (x_bin (show OpR _ _ (rAdd4 K) from opAdd) (s2_add (K := K)) (x_new (n_lst (a_cons (x_var 2) (a_nil)))) (x_sl2 (K0 := K) (o_val (x_new (n_ty (show CallR _ _ (rList2 K) from cList) (sc_list (K := K)) (by decide +kernel) M.m_list (a_op (o_slot 0) (a_nil))))) p_none (p_some (x_int))))) (g_name hN rfl (by first | exact .inl rfl | exact .inr rfl)) (b_one (s_asg hN (i := 3) rfl (by first | exact .inl rfl | exact .inr rfl) (x_bin op_modN (s2_mod (K := K)) (x_ty cInt (sc_int (K := K)) (by decide +kernel) M.m_int (a_cons (x_bin (show OpR _ _ (rAdd4 K) from opAdd) (s2_add (K := K)) (x_bin (show OpR _ _ (rAdd4 K) from opAdd) (s2_add (K := K)) (x_bin (show OpR _ _ (rMul4 K) from opMul) (s2_mul (K := K)) (x_var 3) (x_int)) (x_bin op_modN (s2_mod (K := K)) (x_ty cInt (sc_int (K := K)) (by decide +kernel) M.m_int (a_cons (x_var 4) (a_nil))) (x_int))) (x_int)) (a_nil))) (x_int)))) PassesOwn.never)
      (b_one (s_retK (k_dict (DPs.cons (x_if (t_bool (w_or (t_cmp op_lt (s2_lt (K := K)) (x_var 2) (x_int)) (w_or1 (t_cmp op_gt (s2_gt (K := K)) (x_var 2) (x_bin op_pow (s2_pow (K := K)) (x_int) (x_int)))))) (x_ty (show CallR _ _ (rStr3 K) from cStr hG hr) (sc_str (K := K)) (by decide +kernel) M.m_str (a_cons (x_bin op_modN (s2_mod (K := K)) (x_ty cInt (sc_int (K := K)) (by decide +kernel) M.m_int (a_cons (x_cb call_abs (sc_abs (K := K)) (by decide +kernel) M.m_abs (a_cons (x_var 2) (a_nil))) (a_nil))) (x_bin op_pow (s2_pow (K := K)) (x_int) (x_int))) (a_nil))) (x_str)) (DPs.cons (x_bin (show OpR _ _ (rAdd4 K) from opAdd) (s2_add (K := K)) (x_var 3) (x_int)) (DPs.nil))))))))⟩
/-! ## _law_turn -/
abbrev st__law_turn : Stmt := topS 33
abbrev nm__law_turn : List Str := ["wheel", "many", "three"]
abbrev ps__law_turn : List Str := ["wheel", "many"]
theorem sc__law_turn : FnScope nm__law_turn ps__law_turn (defScope st__law_turn) := ⟨rfl, rfl, rfl, by decide +kernel, rfl, by decide +kernel, by decide +kernel⟩
def g__law_turn : En → RS :=
      dSeq (dIfS (dB (dBin gNe (dGet 0 "row") (dC (.str "")))) (dSeq (dAsgT (dTup (dConsD (dSl (oVal (dGet 0 "row")) dNone (dSome (dC (.int 3)))) (dConsD (dSl (oVal (dGet 0 "row")) (dSome (dC (.int 3))) dNone) (dNil)))) (tgT 2 (tgCons (tgN 2) (tgCons (tgGet 0 "row") (tgNil)))))
      (dRet (dBin gMod (dCb gInt (dConsD (dVar 2) (dNil))) (dVar 1)))) (dSkip))
      (dSeq (dAsgT (dBin gMod (dCb gInt (dConsD (dBin gAdd (dBin gMul (dGet 0 "spin") (dC (.int 40692))) (dC (.int 8675309))) (dNil))) (dC (.int 2147483399))) (tgGet 0 "spin"))
      (dRet (dBin gMod (dCb gInt (dConsD (dBin gFdiv (dGet 0 "spin") (dC (.int 29))) (dNil))) (dVar 1))))
def fn__law_turn : Fn := fnOf 1 g__law_turn
theorem w__law_turn {P : Program} {w : World} {K : PySem.W.Frag} {mg : Str → Option Value} {base : Heap} (M : Mg mg)  {f : Addr} {fd : FuncData} (F : Dfn K mg "_law_turn" st__law_turn f fd) : Cal P w K mg base "_law_turn" 1 fd ps__law_turn fn__law_turn := by
  refine F.cal (N := nm__law_turn) sc__law_turn (by decide) fun cdv A outer s H E hG hr => ?_
  have hN : List.Nodup (nm__law_turn) := by decide +kernel
  exact ⟨_, b_cons (s_if (t_cmp (show OpR _ _ (rNeD K) from op_neD hr.units) (s2_ne (K := K)) (x_get (x_var 0).p (u1 hr.units)) (x_str)) (b_cons (s_asgT (x_tup (a_cons (x_sl2 (K0 := K) (o_val (x_get (x_var 0).p (u1 hr.units))) p_none (p_some (x_int))) (a_cons (x_sl2 (K0 := K) (o_val (x_get (x_var 0).p (u1 hr.units))) (p_some (x_int)) p_none) (a_nil)))) (g_tup2 (K0 := K) (gs_cons (g_name hN rfl (by first | exact .inl rfl | exact .inr rfl)) (gs_cons (g_getD (x_var 0).p hr.units) (gs_nil)))))
      (b_one (s_ret (x_bin op_modN (s2_mod (K := K)) (x_ty cInt (sc_int (K := K)) (by decide +kernel) M.m_int (a_cons (x_var 2) (a_nil))) (x_var 1))))) (b_nil))
      (b_cons (s_asgT (x_bin op_modN (s2_mod (K := K)) (x_ty cInt (sc_int (K := K)) (by decide +kernel) M.m_int (a_cons (x_bin (show OpR _ _ (rAdd4 K) from opAdd) (s2_add (K := K)) (x_bin (show OpR _ _ (rMul4 K) from opMul) (s2_mul (K := K)) (x_get (x_var 0).p (u1 hr.units)) (x_int)) (x_int)) (a_nil))) (x_int)) (g_getD (x_var 0).p hr.units))
      (b_one (s_ret (x_bin op_modN (s2_mod (K := K)) (x_ty cInt (sc_int (K := K)) (by decide +kernel) M.m_int (a_cons (x_bin op_fdivN (s2_fdiv (K := K)) (x_get (x_var 0).p (u1 hr.units)) (x_int)) (a_nil))) (x_var 1)))))⟩
/-! ## _law_fits -/
abbrev st__law_fits : Stmt := topS 34
abbrev nm__law_fits : List Str := ["told", "due"]
abbrev ps__law_fits : List Str := ["told", "due"]
theorem sc__law_fits : FnScope nm__law_fits ps__law_fits (defScope st__law_fits) := ⟨rfl, rfl, rfl, by decide +kernel, rfl, by decide +kernel, by decide +kernel⟩
def g__law_fits : En → RS :=
      dRet (dAndV (dBin gEq (dVar 0) (dVar 1)) (dBin gEq (dRp (dVar 0)) (dRp (dVar 1))))
def fn__law_fits : Fn := fnOf 0 g__law_fits
theorem w__law_fits {P : Program} {w : World} {K : PySem.W.Frag} {mg : Str → Option Value} {base : Heap} (M : Mg mg)  {f : Addr} {fd : FuncData} (F : Dfn K mg "_law_fits" st__law_fits f fd) : Cal P w K mg base "_law_fits" 1 fd ps__law_fits fn__law_fits := by
  refine F.cal (N := nm__law_fits) sc__law_fits (by decide) fun cdv A outer s H E hG hr => ?_
  have hN : List.Nodup (nm__law_fits) := by decide +kernel
  exact ⟨_, b_one (s_ret (x_and (x_cmp (show OpR _ _ (rEqD K) from op_eqD hr.units) (s2_eq (K := K)) (x_var 0) (x_var 1)) (x_one (x_cmp (show OpR _ _ (rEqD K) from op_eqD hr.units) (s2_eq (K := K)) (x_rp2 (K0 := K) hG hr (x_var 0)) (x_rp2 (K0 := K) hG hr (x_var 1))))))⟩
/-! ## _law_choice -/
abbrev st__law_choice : Stmt := topS 35
abbrev nm__law_choice : List Str := ["wheel", "some"]
abbrev ps__law_choice : List Str := ["wheel", "some"]
theorem sc__law_choice : FnScope nm__law_choice ps__law_choice (defScope st__law_choice) := ⟨rfl, rfl, rfl, by decide +kernel, rfl, by decide +kernel, by decide +kernel⟩
def g__law_choice : En → RS :=
      dRet (dBin gIx (dVar 1) (dCl fn__law_turn (dCons (oS 0) (dConsD (dCb gLen (dConsD (dVar 1) (dNil))) (dNil))) dNil [0, 1] []))
def fn__law_choice : Fn := fnOf 0 g__law_choice
theorem w__law_choice {P : Program} {w : World} {K : PySem.W.Frag} {mg : Str → Option Value} {base : Heap} (M : Mg mg) {fd__law_turn : FuncData} (c__law_turn : Cal P w K mg base "_law_turn" 1 fd__law_turn ps__law_turn fn__law_turn) (b0 : BindK K fd__law_turn ps__law_turn [] 2 [0, 1] []) {f : Addr} {fd : FuncData} (F : Dfn K mg "_law_choice" st__law_choice f fd) : Cal P w K mg base "_law_choice" 2 fd ps__law_choice fn__law_choice := by
  refine F.cal (N := nm__law_choice) sc__law_choice (by decide) fun cdv A outer s H E hG hr => ?_
  have hN : List.Nodup (nm__law_choice) := by decide +kernel
  exact ⟨_, b_one (s_ret (x_ix2 (K0 := K) (x_var 1) (x_call c__law_turn (by decide) hG hr b0 .nil (fun _ => .nil) (a_op (o_slot 0) (a_cons (x_cb (show CallR _ _ (rLen2 K) from cLen) (sc_len (K := K)) (by decide +kernel) M.m_len (a_cons (x_var 1) (a_nil))) (a_nil))) (ln_cons (ln_consD (ln_nil))))))⟩
/-! ## _law_behind -/
abbrev st__law_behind : Stmt := topS 36
abbrev nm__law_behind : List Str := ["sorter", "row", "found", "one", "two"]
abbrev ps__law_behind : List Str := ["sorter", "row"]
theorem sc__law_behind : FnScope nm__law_behind ps__law_behind (defScope st__law_behind) := ⟨rfl, rfl, rfl, by decide +kernel, rfl, by decide +kernel, by decide +kernel⟩
def g__law_behind : En → RS :=
      dSeq (dAsgL 2 (dCb gList (dConsD (dVar 1) (dNil))))
      (dSeq (dFor (dIt (dVar 0)) (tgT 2 (tgCons (tgN 3) (tgCons (tgN 4) (tgNil)))) (dIfS (dB (dBin gGt (dOp gIx (oS 2) (oVal (dVar 3))) (dOp gIx (oS 2) (oVal (dVar 4))))) (dAsgT (dTup (dConsD (dOp gIx (oS 2) (oVal (dVar 4))) (dConsD (dOp gIx (oS 2) (oVal (dVar 3))) (dNil)))) (tgT 2 (tgCons (tgSub 2 (dVar 3)) (tgCons (tgSub 2 (dVar 4)) (tgNil))))) (dSkip)) [])
      (dRet (dCb gTuple (dCons (oS 2) (dNil)))))
def fn__law_behind : Fn := fnOf 3 g__law_behind
theorem w__law_behind {P : Program} {w : World} {K : PySem.W.Frag} {mg : Str → Option Value} {base : Heap} (M : Mg mg)  {f : Addr} {fd : FuncData} (F : Dfn K mg "_law_behind" st__law_behind f fd) : Cal P w K mg base "_law_behind" 1 fd ps__law_behind fn__law_behind := by
  refine F.cal (N := nm__law_behind) sc__law_behind (by decide) fun cdv A outer s H E hG hr => ?_
  have hN : List.Nodup (nm__law_behind) := by decide +kernel
  exact ⟨_, b_cons (s_asgL hN (i := 2) rfl (by first | exact .inl rfl | exact .inr rfl) (n_ty (show CallR _ _ (rList2 K) from cList) (sc_list (K := K)) (by decide +kernel) M.m_list (a_cons (x_var 1) (a_nil))))
      (b_cons (s_for [] (i_seq2 (K0 := K) (x_var 0)) (g_tup2 (K0 := K) (gs_cons (g_name hN rfl (by first | exact .inl rfl | exact .inr rfl)) (gs_cons (g_name hN rfl (by first | exact .inl rfl | exact .inr rfl)) (gs_nil)))) (b_one (s_if (t_cmp op_gt (s2_gt (K := K)) (x_ixO2 (K0 := K) (o_slot 2) (o_val (x_var 3))) (x_ixO2 (K0 := K) (o_slot 2) (o_val (x_var 4)))) (b_one (s_asgT (x_tup (a_cons (x_ixO2 (K0 := K) (o_slot 2) (o_val (x_var 4))) (a_cons (x_ixO2 (K0 := K) (o_slot 2) (o_val (x_var 3))) (a_nil)))) (g_tup2 (K0 := K) (gs_cons (g_subL (x_var 2).p (x_var 3)) (gs_cons (g_subL (x_var 2).p (x_var 4)) (gs_nil)))))) (b_nil))) PassesOwn.never)
      (b_one (s_ret (x_ty (show CallR _ _ (rTup2 K) from cTup) (sc_tuple (K := K)) (by decide +kernel) M.m_tuple (a_op (o_slot 2) (a_nil))))))⟩
/-! ## _law_sorter -/
abbrev st__law_sorter : Stmt := topS 37
abbrev nm__law_sorter : List Str := ["wheel", "lines", "many", "found", "turn", "one"]
abbrev ps__law_sorter : List Str := ["wheel", "lines", "many"]
theorem sc__law_sorter : FnScope nm__law_sorter ps__law_sorter (defScope st__law_sorter) := ⟨rfl, rfl, rfl, by decide +kernel, rfl, by decide +kernel, by decide +kernel⟩
def g__law_sorter : En → RS :=
      dSeq (dAsgL 3 (dItems (dNil)))
      (dSeq (dFor (dIt1 (dVar 2)) (tgN 4) (dSeq (dAsg 5 (dCl fn__law_turn (dCons (oS 0) (dConsD (dBin gMinus (dVar 1) (dC (.int 1))) (dNil))) dNil [0, 1] []))
      (dApp 3 (dTup (dConsD (dVar 5) (dConsD (dBin gAdd (dBin gAdd (dVar 5) (dC (.int 1))) (dCl fn__law_turn (dCons (oS 0) (dConsD (dBin gMinus (dBin gMinus (dVar 1) (dC (.int 1))) (dVar 5)) (dNil))) dNil [0, 1] [])) (dNil)))))) [])
      (dRet (dCb gTuple (dCons (oS 3) (dNil)))))
def fn__law_sorter : Fn := fnOf 3 g__law_sorter
theorem w__law_sorter {P : Program} {w : World} {K : PySem.W.Frag} {mg : Str → Option Value} {base : Heap} (M : Mg mg) {fd__law_turn : FuncData} (c__law_turn : Cal P w K mg base "_law_turn" 1 fd__law_turn ps__law_turn fn__law_turn) (b0 : BindK K fd__law_turn ps__law_turn [] 2 [0, 1] []) {f : Addr} {fd : FuncData} (F : Dfn K mg "_law_sorter" st__law_sorter f fd) : Cal P w K mg base "_law_sorter" 2 fd ps__law_sorter fn__law_sorter := by
  refine F.cal (N := nm__law_sorter) sc__law_sorter (by decide) fun cdv A outer s H E hG hr => ?_
  have hN : List.Nodup (nm__law_sorter) := by decide +kernel
  exact ⟨_, b_cons (s_asgL hN (i := 3) rfl (by first | exact .inl rfl | exact .inr rfl) (n_lst (a_nil)))
      (b_cons (s_for [] (i_range1 (x_var 2) M.m_range) (g_name hN rfl (by first | exact .inl rfl | exact .inr rfl)) (b_cons (s_asg hN (i := 5) rfl (by first | exact .inl rfl | exact .inr rfl) (x_call c__law_turn (by decide) hG hr b0 .nil (fun _ => .nil) (a_op (o_slot 0) (a_cons (x_bin op_sub (s2_sub (K := K)) (x_var 1) (x_int)) (a_nil))) (ln_cons (ln_consD (ln_nil)))))
      (b_one (s_app (x_var 3).p (x_tup (a_cons (x_var 5) (a_cons (x_bin (show OpR _ _ (rAdd4 K) from opAdd) (s2_add (K := K)) (x_bin (show OpR _ _ (rAdd4 K) from opAdd) (s2_add (K := K)) (x_var 5) (x_int)) (x_call c__law_turn (by decide) hG hr b0 .nil (fun _ => .nil) (a_op (o_slot 0) (a_cons (x_bin op_sub (s2_sub (K := K)) (x_bin op_sub (s2_sub (K := K)) (x_var 1) (x_int)) (x_var 5)) (a_nil))) (ln_cons (ln_consD (ln_nil))))) (a_nil))))))) PassesOwn.never)
      (b_one (s_ret (x_ty (show CallR _ _ (rTup2 K) from cTup) (sc_tuple (K := K)) (by decide +kernel) M.m_tuple (a_op (o_slot 3) (a_nil))))))⟩
/-! ## _law_drawn_row -/
abbrev st__law_drawn_row : Stmt := topS 38
abbrev nm__law_drawn_row : List Str := ["wheel", "lines", "way", "line"]
abbrev ps__law_drawn_row : List Str := ["wheel", "lines"]
theorem sc__law_drawn_row : FnScope nm__law_drawn_row ps__law_drawn_row (defScope st__law_drawn_row) := ⟨rfl, rfl, rfl, by decide +kernel, rfl, by decide +kernel, by decide +kernel⟩
def g__law_drawn_row : En → RS :=
      dSeq (dAsg 2 (dCl fn__law_turn (dCons (oS 0) (dConsD (dC (.int 4)) (dNil))) dNil [0, 1] []))
      (dSeq (dIfS (dB (dBin gEq (dVar 2) (dC (.int 0)))) (dRet (dCb gTuple (dConsD (dLst (dLc (dIt1 (dVar 1)) (tgN 3) (dYes) (dCl fn__law_turn (dCons (oS 0) (dConsD (dC (.int 3)) (dNil))) dNil [0, 1] []) [3])) (dNil)))) (dSkip))
      (dSeq (dIfS (dB (dBin gEq (dVar 2) (dC (.int 1)))) (dRet (dCb gTuple (dConsD (dLst (dLc (dIt1 (dVar 1)) (tgN 3) (dYes) (dBin gAdd (dBin gMul (dBin gMinus (dCl fn__law_turn (dCons (oS 0) (dConsD (dC (.int 900)) (dNil))) dNil [0, 1] []) (dC (.int 450))) (dBin gPow (dC (.int 10)) (dC (.int 25)))) (dCl fn__law_turn (dCons (oS 0) (dConsD (dC (.int 2)) (dNil))) dNil [0, 1] [])) [3])) (dNil)))) (dSkip))
      (dRet (dCb gTuple (dConsD (dLst (dLc (dIt1 (dVar 1)) (tgN 3) (dYes) (dBin gMinus (dCl fn__law_turn (dCons (oS 0) (dConsD (dC (.int 90)) (dNil))) dNil [0, 1] []) (dBin gMul (dC (.int 30)) (dVar 2))) [3])) (dNil))))))
def fn__law_drawn_row : Fn := fnOf 2 g__law_drawn_row
theorem w__law_drawn_row {P : Program} {w : World} {K : PySem.W.Frag} {mg : Str → Option Value} {base : Heap} (M : Mg mg) {fd__law_turn : FuncData} (c__law_turn : Cal P w K mg base "_law_turn" 1 fd__law_turn ps__law_turn fn__law_turn) (b0 : BindK K fd__law_turn ps__law_turn [] 2 [0, 1] []) {f : Addr} {fd : FuncData} (F : Dfn K mg "_law_drawn_row" st__law_drawn_row f fd) : Cal P w K mg base "_law_drawn_row" 2 fd ps__law_drawn_row fn__law_drawn_row := by
  refine F.cal (N := nm__law_drawn_row) sc__law_drawn_row (by decide) fun cdv A outer s H E hG hr => ?_
  have hN : List.Nodup (nm__law_drawn_row) := by decide +kernel
  exact ⟨_, b_cons (s_asg hN (i := 2) rfl (by first | exact .inl rfl | exact .inr rfl) (x_call c__law_turn (by decide) hG hr b0 .nil (fun _ => .nil) (a_op (o_slot 0) (a_cons (x_int) (a_nil))) (ln_cons (ln_consD (ln_nil)))))
      (b_cons (s_if (t_cmp (show OpR _ _ (rEqD K) from op_eqD hr.units) (s2_eq (K := K)) (x_var 2) (x_int)) (b_one (s_ret (x_ty (show CallR _ _ (rTup2 K) from cTup) (sc_tuple (K := K)) (by decide +kernel) M.m_tuple (a_cons (x_new (n_lc (own := [("line", 3)]) [3] rfl hN (i_range1 (x_var 1) M.m_range) (by rfl) (fun s1 H1 C1 cl1 fp1 => by exact g_name hN rfl (by first | exact .inl rfl | exact .inr rfl)) (l_name) (fun s1 H1 C1 cl1 fp1 => by exact ts_nil) (fun s1 H1 C1 cl1 fp1 => by exact x_call c__law_turn (by decide) hG hr b0 .nil (fun _ => .nil) (a_op (o_slot 0) (a_cons (x_int) (a_nil))) (ln_cons (ln_consD (ln_nil)))))) (a_nil))))) (b_nil))
      (b_cons (s_if (t_cmp (show OpR _ _ (rEqD K) from op_eqD hr.units) (s2_eq (K := K)) (x_var 2) (x_int)) (b_one (s_ret (x_ty (show CallR _ _ (rTup2 K) from cTup) (sc_tuple (K := K)) (by decide +kernel) M.m_tuple (a_cons (x_new (n_lc (own := [("line", 3)]) [3] rfl hN (i_range1 (x_var 1) M.m_range) (by rfl) (fun s1 H1 C1 cl1 fp1 => by exact g_name hN rfl (by first | exact .inl rfl | exact .inr rfl)) (l_name) (fun s1 H1 C1 cl1 fp1 => by exact ts_nil) (fun s1 H1 C1 cl1 fp1 => by exact x_bin (show OpR _ _ (rAdd4 K) from opAdd) (s2_add (K := K)) (x_bin (show OpR _ _ (rMul4 K) from opMul) (s2_mul (K := K)) (x_bin op_sub (s2_sub (K := K)) (x_call c__law_turn (by decide) hG hr b0 .nil (fun _ => .nil) (a_op (o_slot 0) (a_cons (x_int) (a_nil))) (ln_cons (ln_consD (ln_nil)))) (x_int)) (x_bin op_pow (s2_pow (K := K)) (x_int) (x_int))) (x_call c__law_turn (by decide) hG hr b0 .nil (fun _ => .nil) (a_op (o_slot 0) (a_cons (x_int) (a_nil))) (ln_cons (ln_consD (ln_nil))))))) (a_nil))))) (b_nil))
      (b_one (s_ret (x_ty (show CallR _ _ (rTup2 K) from cTup) (sc_tuple (K := K)) (by decide +kernel) M.m_tuple (a_cons (x_new (n_lc (own := [("line", 3)]) [3] rfl hN (i_range1 (x_var 1) M.m_range) (by rfl) (fun s1 H1 C1 cl1 fp1 => by exact g_name hN rfl (by first | exact .inl rfl | exact .inr rfl)) (l_name) (fun s1 H1 C1 cl1 fp1 => by exact ts_nil) (fun s1 H1 C1 cl1 fp1 => by exact x_bin op_sub (s2_sub (K := K)) (x_call c__law_turn (by decide) hG hr b0 .nil (fun _ => .nil) (a_op (o_slot 0) (a_cons (x_int) (a_nil))) (ln_cons (ln_consD (ln_nil)))) (x_bin (show OpR _ _ (rMul4 K) from opMul) (s2_mul (K := K)) (x_int) (x_var 2))))) (a_nil)))))))⟩
/-! ## _law_disorder -/
abbrev st__law_disorder : Stmt := topS 39
abbrev nm__law_disorder : List Str := ["row", "at", "number", "later"]
abbrev ps__law_disorder : List Str := ["row"]
theorem sc__law_disorder : FnScope nm__law_disorder ps__law_disorder (defScope st__law_disorder) := ⟨rfl, rfl, rfl, by decide +kernel, rfl, by decide +kernel, by decide +kernel⟩
def g__law_disorder : En → RS :=
      dRet (dCb gSum (dConsD (dLst (dLc (dEn (dVar 0)) (tgT 2 (tgCons (tgN 1) (tgCons (tgN 2) (tgNil)))) (dYes) (dCb gLen (dConsD (dLst (dLc (dIt (dSl (oVal (dVar 0)) (dSome (dBin gAdd (dVar 1) (dC (.int 1)))) dNone)) (tgN 3) (dB (dBin gLt (dVar 3) (dVar 2))) (dVar 3) [3])) (dNil))) [1, 2])) (dNil)))
def fn__law_disorder : Fn := fnOf 3 g__law_disorder
theorem w__law_disorder {P : Program} {w : World} {K : PySem.W.Frag} {mg : Str → Option Value} {base : Heap} (M : Mg mg)  {f : Addr} {fd : FuncData} (F : Dfn K mg "_law_disorder" st__law_disorder f fd) : Cal P w K mg base "_law_disorder" 1 fd ps__law_disorder fn__law_disorder := by
  refine F.cal (N := nm__law_disorder) sc__law_disorder (by decide) fun cdv A outer s H E hG hr => ?_
  have hN : List.Nodup (nm__law_disorder) := by decide +kernel
  exact ⟨_, b_one (s_ret (x_cb (show CallR _ _ (rSum K) from cr_sum rfl) (sc_sum (K := K)) (by decide +kernel) M.m_sum (a_cons (x_new (n_lc (own := [("at", 1), ("number", 2)]) [1, 2] rfl hN (i_enum2 (K0 := K) (x_var 0) M.m_enumerate) (by rfl) (fun s1 H1 C1 cl1 fp1 => by exact g_tup2 (K0 := K) (gs_cons (g_name hN rfl (by first | exact .inl rfl | exact .inr rfl)) (gs_cons (g_name hN rfl (by first | exact .inl rfl | exact .inr rfl)) (gs_nil)))) (l_tup (l_cons (l_name) (l_cons (l_name) (l_nil)))) (fun s1 H1 C1 cl1 fp1 => by exact ts_nil) (fun s1 H1 C1 cl1 fp1 => by exact x_cb (show CallR _ _ (rLen2 K) from cLen) (sc_len (K := K)) (by decide +kernel) M.m_len (a_cons (x_new (n_lc (own := [("later", 3)]) [3] rfl hN (i_seq2 (K0 := K) (x_sl2 (K0 := K) (o_val (x_var 0)) (p_some (x_bin (show OpR _ _ (rAdd4 K) from opAdd) (s2_add (K := K)) (x_var 1) (x_int))) p_none)) (by rfl) (fun s2 H2 C2 cl2 fp2 => by exact g_name hN rfl (by first | exact .inl rfl | exact .inr rfl)) (l_name) (fun s2 H2 C2 cl2 fp2 => by exact ts_one (t_cmp op_lt (s2_lt (K := K)) (x_var 3) (x_var 2))) (fun s2 H2 C2 cl2 fp2 => by exact x_var 3))) (a_nil))))) (a_nil))))⟩
/-! ## _law_row_right -/
abbrev st__law_row_right : Stmt := topS 40
abbrev nm__law_row_right : List Str := ["wheel", "lines", "sorter", "row", "due", "cut", "first", "told", "is_fine", "led", "still", "number"]
abbrev ps__law_row_right : List Str := ["wheel", "lines", "sorter"]
theorem sc__law_row_right : FnScope nm__law_row_right ps__law_row_right (defScope st__law_row_right) := ⟨rfl, rfl, rfl, by decide +kernel, rfl, by decide +kernel, by decide +kernel⟩
def g__law_row_right : En → RS :=
      dSeq (dAsg 3 (dCl fn__law_drawn_row (dCons (oS 0) (dConsD (dVar 1) (dNil))) dNil [0, 1] []))
      (dSeq (dPar 4 5 (dConsD (dCl fn__law_behind (dConsD (dVar 2) (dConsD (dVar 3) (dNil))) dNil [0, 1] []) (dConsD (dCl fn__law_turn (dCons (oS 0) (dConsD (dBin gAdd (dCb gLen (dConsD (dVar 2) (dNil))) (dC (.int 1))) (dNil))) dNil [0, 1] []) (dNil))))
      (dSeq (dAsg 6 (dCl fn_sorted_by (dConsD (dVar 1) (dConsD (dSl (oVal (dVar 2)) dNone (dSome (dVar 5))) (dConsD (dVar 3) (dNil)))) dNil [0, 1, 2] []))
      (dSeq (dAsg 7 (dLst (dItems (dConsD (dCl fn_sorted_by (dConsD (dVar 1) (dConsD (dVar 2) (dConsD (dVar 3) (dNil)))) dNil [0, 1, 2] []) (dConsD (dCl fn_sorted_by dNil (dConsD (dVar 3) (dConsD (dVar 2) (dConsD (dVar 1) (dNil)))) [2, 1, 0] []) (dConsD (dCl fn_sorted_by (dConsD (dVar 1) (dConsD (dSl (oVal (dVar 2)) (dSome (dVar 5)) dNone) (dConsD (dVar 6) (dNil)))) dNil [0, 1, 2] []) (dNil)))))))
      (dSeq (dIfS (dOr (dNot (dB (dCl fn__law_fits (dConsD (dVar 7) (dConsD (dBin gMul (dLst (dItems (dConsD (dVar 4) (dNil)))) (dC (.int 3))) (dNil))) dNil [0, 1] []))) (dB (dBin gNe (dLst (dCb gSortI (dConsD (dVar 4) (dNil)))) (dLst (dCb gSortI (dConsD (dVar 3) (dNil))))))) (dRet (dC (.bool false))) (dSkip))
      (dSeq (dAsg 8 (dBin gEq (dVar 4) (dCb gTuple (dConsD (dLst (dCb gSortI (dConsD (dVar 3) (dNil)))) (dNil)))))
      (dSeq (dIfS (dNot (dB (dCl fn__law_fits (dConsD (dLst (dItems (dConsD (dCl fn_does_sort (dConsD (dVar 1) (dConsD (dVar 2) (dConsD (dVar 3) (dNil)))) dNil [0, 1, 2] []) (dConsD (dCl fn_does_sort dNil (dConsD (dVar 3) (dConsD (dVar 2) (dConsD (dVar 1) (dNil)))) [2, 1, 0] []) (dNil))))) (dConsD (dBin gMul (dLst (dItems (dConsD (dVar 8) (dNil)))) (dC (.int 2))) (dNil))) dNil [0, 1] []))) (dRet (dC (.bool false))) (dSkip))
      (dSeq (dAsg 9 (dCb gTuple (dConsD (dLst (dLc (dIt (dVar 3)) (tgN 11) (dYes) (dBin gAdd (dBin gMul (dBin gMul (dBin gMul (dC (.int 3)) (dVar 11)) (dVar 11)) (dVar 11)) (dC (.int 7))) [11])) (dNil))))
      (dSeq (dIfS (dB (dBin gNe (dCl fn_sorted_by (dConsD (dVar 1) (dConsD (dVar 2) (dConsD (dVar 9) (dNil)))) dNil [0, 1, 2] []) (dCb gTuple (dConsD (dLst (dLc (dIt (dVar 4)) (tgN 11) (dYes) (dBin gAdd (dBin gMul (dBin gMul (dBin gMul (dC (.int 3)) (dVar 11)) (dVar 11)) (dVar 11)) (dC (.int 7))) [11])) (dNil))))) (dRet (dC (.bool false))) (dSkip))
      (dSeq (dAsg 10 (dCb gTuple (dConsD (dLst (dCb gSortI (dConsD (dVar 3) (dNil)))) (dNil))))
      (dSeq (dIfS (dNot (dB (dCl fn__law_fits (dConsD (dLst (dItems (dConsD (dCl fn_sorted_by (dConsD (dVar 1) (dConsD (dVar 2) (dConsD (dVar 10) (dNil)))) dNil [0, 1, 2] []) (dConsD (dCl fn_sorted_by (dConsD (dVar 1) (dConsD (dVar 2) (dConsD (dBin gMul (dSl (oVal (dVar 3)) dNone (dSome (dC (.int 1)))) (dVar 1)) (dNil)))) dNil [0, 1, 2] []) (dNil))))) (dConsD (dLst (dItems (dConsD (dVar 10) (dConsD (dBin gMul (dSl (oVal (dVar 3)) dNone (dSome (dC (.int 1)))) (dVar 1)) (dNil))))) (dNil))) dNil [0, 1] []))) (dRet (dC (.bool false))) (dSkip))
      (dRet (dChain3 gEq gLe gEq (dCl fn_disorder (dConsD (dVar 1) (dConsD (dVar 4) (dNil))) dNil [0, 1] []) (dCl fn__law_disorder (dConsD (dVar 4) (dNil)) dNil [0] []) (dCl fn_disorder dNil (dConsD (dVar 3) (dConsD (dVar 1) (dNil))) [1, 0] []) (dCl fn__law_disorder (dConsD (dVar 3) (dNil)) dNil [0] [])))))))))))))
def fn__law_row_right : Fn := fnOf 9 g__law_row_right
theorem w__law_row_right {P : Program} {w : World} {K : PySem.W.Frag} {mg : Str → Option Value} {base : Heap} (M : Mg mg) {fd__law_drawn_row : FuncData} (c__law_drawn_row : Cal P w K mg base "_law_drawn_row" 2 fd__law_drawn_row ps__law_drawn_row fn__law_drawn_row) {fd__law_turn : FuncData} (c__law_turn : Cal P w K mg base "_law_turn" 1 fd__law_turn ps__law_turn fn__law_turn) {fd__law_behind : FuncData} (c__law_behind : Cal P w K mg base "_law_behind" 1 fd__law_behind ps__law_behind fn__law_behind) {fd_sorted_by : FuncData} (c_sorted_by : Cal P w K mg base "sorted_by" 7 fd_sorted_by ps_sorted_by fn_sorted_by) {fd__law_fits : FuncData} (c__law_fits : Cal P w K mg base "_law_fits" 1 fd__law_fits ps__law_fits fn__law_fits) {fd_does_sort : FuncData} (c_does_sort : Cal P w K mg base "does_sort" 7 fd_does_sort ps_does_sort fn_does_sort) {fd_disorder : FuncData} (c_disorder : Cal P w K mg base "disorder" 4 fd_disorder ps_disorder fn_disorder) {fd__law_disorder : FuncData} (c__law_disorder : Cal P w K mg base "_law_disorder" 1 fd__law_disorder ps__law_disorder fn__law_disorder) (b0 : BindK K fd__law_drawn_row ps__law_drawn_row [] 2 [0, 1] []) (b1 : BindK K fd__law_turn ps__law_turn [] 2 [0, 1] []) (b2 : BindK K fd__law_behind ps__law_behind [] 2 [0, 1] []) (b3 : BindK K fd_sorted_by ps_sorted_by [] 3 [0, 1, 2] []) (b4 : BindK K fd_sorted_by ps_sorted_by ["row", "sorter", "lines"] 0 [2, 1, 0] []) (b5 : BindK K fd__law_fits ps__law_fits [] 2 [0, 1] []) (b6 : BindK K fd_does_sort ps_does_sort ["row", "sorter", "lines"] 0 [2, 1, 0] []) (b7 : BindK K fd_does_sort ps_does_sort [] 3 [0, 1, 2] []) (b8 : BindK K fd_disorder ps_disorder [] 2 [0, 1] []) (b9 : BindK K fd__law_disorder ps__law_disorder [] 1 [0] []) (b10 : BindK K fd_disorder ps_disorder ["row", "lines"] 0 [1, 0] []) {f : Addr} {fd : FuncData} (F : Dfn K mg "_law_row_right" st__law_row_right f fd) : Cal P w K mg base "_law_row_right" 8 fd ps__law_row_right fn__law_row_right := by
  refine F.cal (N := nm__law_row_right) sc__law_row_right (by decide) fun cdv A outer s H E hG hr => ?_
  have hN : List.Nodup (nm__law_row_right) := by decide +kernel
  exact ⟨_, b_cons (s_asg hN (i := 3) rfl (by first | exact .inl rfl | exact .inr rfl) (x_call c__law_drawn_row (by decide) hG hr b0 .nil (fun _ => .nil) (a_op (o_slot 0) (a_cons (x_var 1) (a_nil))) (ln_cons (ln_consD (ln_nil)))))
      (b_cons (s_par (i := 4) (j := 5) (fun z => ps_par rfl hN rfl rfl (by decide) rfl rfl z rfl) rfl (a_cons (x_call c__law_behind (by decide) hG hr b2 .nil (fun _ => .nil) (a_cons (x_var 2) (a_cons (x_var 3) (a_nil))) (ln_consD (ln_consD (ln_nil)))) (a_cons (x_call c__law_turn (by decide) hG hr b1 .nil (fun _ => .nil) (a_op (o_slot 0) (a_cons (x_bin (show OpR _ _ (rAdd4 K) from opAdd) (s2_add (K := K)) (x_cb (show CallR _ _ (rLen2 K) from cLen) (sc_len (K := K)) (by decide +kernel) M.m_len (a_cons (x_var 2) (a_nil))) (x_int)) (a_nil))) (ln_cons (ln_consD (ln_nil)))) (a_nil))))
      (b_cons (s_asg hN (i := 6) rfl (by first | exact .inl rfl | exact .inr rfl) (x_call c_sorted_by (by decide) hG hr b3 .nil (fun _ => .nil) (a_cons (x_var 1) (a_cons (x_sl2 (K0 := K) (o_val (x_var 2)) p_none (p_some (x_var 5))) (a_cons (x_var 3) (a_nil)))) (ln_consD (ln_consD (ln_consD (ln_nil))))))
      (b_cons (s_asg hN (i := 7) rfl (by first | exact .inl rfl | exact .inr rfl) (x_new (n_lst (a_cons (x_call c_sorted_by (by decide) hG hr b3 .nil (fun _ => .nil) (a_cons (x_var 1) (a_cons (x_var 2) (a_cons (x_var 3) (a_nil)))) (ln_consD (ln_consD (ln_consD (ln_nil))))) (a_cons (x_callK c_sorted_by (by decide) hG hr b4 .nil (fun _ => .nil) (k_cons (x_var 3) (k_cons (x_var 2) (k_cons (x_var 1) (k_nil)))) (ln_consD (ln_consD (ln_consD (ln_nil))))) (a_cons (x_call c_sorted_by (by decide) hG hr b3 .nil (fun _ => .nil) (a_cons (x_var 1) (a_cons (x_sl2 (K0 := K) (o_val (x_var 2)) (p_some (x_var 5)) p_none) (a_cons (x_var 6) (a_nil)))) (ln_consD (ln_consD (ln_consD (ln_nil))))) (a_nil)))))))
      (b_cons (s_if (t_bool (w_or (t_not (t_val (x_call c__law_fits (by decide) hG hr b5 .nil (fun _ => .nil) (a_cons (x_var 7) (a_cons (x_bin (show OpR _ _ (rMul4 K) from opMul) (s2_mul (K := K)) (x_new (n_lst (a_cons (x_var 4) (a_nil)))) (x_int)) (a_nil))) (ln_consD (ln_consD (ln_nil)))))) (w_or1 (t_cmp (show OpR _ _ (rNeD K) from op_neD hr.units) (s2_ne (K := K)) (x_new (n_cb (show CallR _ _ (rSortS K) from cSorted) (sc_sortI (K := K)) (by decide +kernel) M.m_sorted (a_cons (x_var 4) (a_nil)))) (x_new (n_cb (show CallR _ _ (rSortS K) from cSorted) (sc_sortI (K := K)) (by decide +kernel) M.m_sorted (a_cons (x_var 3) (a_nil)))))))) (b_one (s_ret (x_bl))) (b_nil))
      (b_cons (s_asg hN (i := 8) rfl (by first | exact .inl rfl | exact .inr rfl) (x_cmp (show OpR _ _ (rEqD K) from op_eqD hr.units) (s2_eq (K := K)) (x_var 4) (x_ty (show CallR _ _ (rTup2 K) from cTup) (sc_tuple (K := K)) (by decide +kernel) M.m_tuple (a_cons (x_new (n_cb (show CallR _ _ (rSortS K) from cSorted) (sc_sortI (K := K)) (by decide +kernel) M.m_sorted (a_cons (x_var 3) (a_nil)))) (a_nil)))))
      (b_cons (s_if (t_not (t_val (x_call c__law_fits (by decide) hG hr b5 .nil (fun _ => .nil) (a_cons (x_new (n_lst (a_cons (x_call c_does_sort (by decide) hG hr b7 .nil (fun _ => .nil) (a_cons (x_var 1) (a_cons (x_var 2) (a_cons (x_var 3) (a_nil)))) (ln_consD (ln_consD (ln_consD (ln_nil))))) (a_cons (x_callK c_does_sort (by decide) hG hr b6 .nil (fun _ => .nil) (k_cons (x_var 3) (k_cons (x_var 2) (k_cons (x_var 1) (k_nil)))) (ln_consD (ln_consD (ln_consD (ln_nil))))) (a_nil))))) (a_cons (x_bin (show OpR _ _ (rMul4 K) from opMul) (s2_mul (K := K)) (x_new (n_lst (a_cons (x_var 8) (a_nil)))) (x_int)) (a_nil))) (ln_consD (ln_consD (ln_nil)))))) (b_one (s_ret (x_bl))) (b_nil))
      (b_cons (s_asg hN (i := 9) rfl (by first | exact .inl rfl | exact .inr rfl) (x_ty (show CallR _ _ (rTup2 K) from cTup) (sc_tuple (K := K)) (by decide +kernel) M.m_tuple (a_cons (x_new (n_lc (own := [("number", 11)]) [11] rfl hN (i_seq2 (K0 := K) (x_var 3)) (by rfl) (fun s1 H1 C1 cl1 fp1 => by exact g_name hN rfl (by first | exact .inl rfl | exact .inr rfl)) (l_name) (fun s1 H1 C1 cl1 fp1 => by exact ts_nil) (fun s1 H1 C1 cl1 fp1 => by exact x_bin (show OpR _ _ (rAdd4 K) from opAdd) (s2_add (K := K)) (x_bin (show OpR _ _ (rMul4 K) from opMul) (s2_mul (K := K)) (x_bin (show OpR _ _ (rMul4 K) from opMul) (s2_mul (K := K)) (x_bin (show OpR _ _ (rMul4 K) from opMul) (s2_mul (K := K)) (x_int) (x_var 11)) (x_var 11)) (x_var 11)) (x_int)))) (a_nil))))
      (b_cons (s_if (t_cmp (show OpR _ _ (rNeD K) from op_neD hr.units) (s2_ne (K := K)) (x_call c_sorted_by (by decide) hG hr b3 .nil (fun _ => .nil) (a_cons (x_var 1) (a_cons (x_var 2) (a_cons (x_var 9) (a_nil)))) (ln_consD (ln_consD (ln_consD (ln_nil))))) (x_ty (show CallR _ _ (rTup2 K) from cTup) (sc_tuple (K := K)) (by decide +kernel) M.m_tuple (a_cons (x_new (n_lc (own := [("number", 11)]) [11] rfl hN (i_seq2 (K0 := K) (x_var 4)) (by rfl) (fun s1 H1 C1 cl1 fp1 => by exact g_name hN rfl (by first | exact .inl rfl | exact .inr rfl)) (l_name) (fun s1 H1 C1 cl1 fp1 => by exact ts_nil) (fun s1 H1 C1 cl1 fp1 => by exact x_bin (show OpR _ _ (rAdd4 K) from opAdd) (s2_add (K := K)) (x_bin (show OpR _ _ (rMul4 K) from opMul) (s2_mul (K := K)) (x_bin (show OpR _ _ (rMul4 K) from opMul) (s2_mul (K := K)) (x_bin (show OpR _ _ (rMul4 K) from opMul) (s2_mul (K := K)) (x_int) (x_var 11)) (x_var 11)) (x_var 11)) (x_int)))) (a_nil)))) (b_one (s_ret (x_bl))) (b_nil))
      (b_cons (s_asg hN (i := 10) rfl (by first | exact .inl rfl | exact .inr rfl) (x_ty (show CallR _ _ (rTup2 K) from cTup) (sc_tuple (K := K)) (by decide +kernel) M.m_tuple (a_cons (x_new (n_cb (show CallR _ _ (rSortS K) from cSorted) (sc_sortI (K := K)) (by decide +kernel) M.m_sorted (a_cons (x_var 3) (a_nil)))) (a_nil))))
      (b_cons (s_if (t_not (t_val (x_call c__law_fits (by decide) hG hr b5 .nil (fun _ => .nil) (a_cons (x_new (n_lst (a_cons (x_call c_sorted_by (by decide) hG hr b3 .nil (fun _ => .nil) (a_cons (x_var 1) (a_cons (x_var 2) (a_cons (x_var 10) (a_nil)))) (ln_consD (ln_consD (ln_consD (ln_nil))))) (a_cons (x_call c_sorted_by (by decide) hG hr b3 .nil (fun _ => .nil) (a_cons (x_var 1) (a_cons (x_var 2) (a_cons (x_bin (show OpR _ _ (rMul4 K) from opMul) (s2_mul (K := K)) (x_sl2 (K0 := K) (o_val (x_var 3)) p_none (p_some (x_int))) (x_var 1)) (a_nil)))) (ln_consD (ln_consD (ln_consD (ln_nil))))) (a_nil))))) (a_cons (x_new (n_lst (a_cons (x_var 10) (a_cons (x_bin (show OpR _ _ (rMul4 K) from opMul) (s2_mul (K := K)) (x_sl2 (K0 := K) (o_val (x_var 3)) p_none (p_some (x_int))) (x_var 1)) (a_nil))))) (a_nil))) (ln_consD (ln_consD (ln_nil)))))) (b_one (s_ret (x_bl))) (b_nil))
      (b_one (s_ret (x_ch3 (show OpR _ _ (rEqD K) from op_eqD hr.units) (s2_eq (K := K)) op_le (s2_le (K := K)) (show OpR _ _ (rEqD K) from op_eqD hr.units) (s2_eq (K := K)) (x_call c_disorder (by decide) hG hr b8 .nil (fun _ => .nil) (a_cons (x_var 1) (a_cons (x_var 4) (a_nil))) (ln_consD (ln_consD (ln_nil)))) (x_call c__law_disorder (by decide) hG hr b9 .nil (fun _ => .nil) (a_cons (x_var 4) (a_nil)) (ln_consD (ln_nil))) (x_callK c_disorder (by decide) hG hr b10 .nil (fun _ => .nil) (k_cons (x_var 3) (k_cons (x_var 1) (k_nil))) (ln_consD (ln_consD (ln_nil)))) (x_call c__law_disorder (by decide) hG hr b9 .nil (fun _ => .nil) (a_cons (x_var 3) (a_nil)) (ln_consD (ln_nil))))))))))))))))⟩
/-! ## _law_values_right -/
abbrev st__law_values_right : Stmt := topS 41
abbrev nm__law_values_right : List Str := ["wheel", "lines", "sorter", "some", "value"]
abbrev ps__law_values_right : List Str := ["wheel", "lines", "sorter"]
theorem sc__law_values_right : FnScope nm__law_values_right ps__law_values_right (defScope st__law_values_right) := ⟨rfl, rfl, rfl, by decide +kernel, rfl, by decide +kernel, by decide +kernel⟩
def g__law_values_right : En → RS :=
      dSeq (dAsg 3 (dLst (dItems (dConsD (dLst (dCb gList (dConsD (dVar 2) (dNil)))) (dConsD (dBin gAdd (dSl (oVal (dVar 2)) dNone (dSome (dC (.int 59)))) (dTup (dConsD (dTup (dConsD (dC (.int 1)) (dConsD (dC (.int 0)) (dNil)))) (dNil)))) (dConsD (dBin gAdd (dSl (oVal (dVar 2)) dNone (dSome (dC (.int 59)))) (dTup (dConsD (dTup (dConsD (dC (.int 0)) (dConsD (dVar 1) (dNil)))) (dNil)))) (dConsD (dBin gAdd (dSl (oVal (dVar 2)) dNone (dSome (dC (.int 59)))) (dTup (dConsD (dTup (dConsD (dC (.int 0)) (dConsD (dC (.int 0)) (dNil)))) (dNil)))) (dConsD (dBin gAdd (dSl (oVal (dVar 2)) dNone (dSome (dC (.int 59)))) (dTup (dConsD (dTup (dConsD (dC (.int 0)) (dConsD (dC (.int 1)) (dConsD (dC (.int 1)) (dNil))))) (dNil)))) (dConsD (dC .none) (dConsD (dC (.str "01")) (dNil)))))))))))
      (dSeq (dAsg 3 (dBin gAdd (dVar 3) (dLst (dItems (dConsD (dBin gAdd (dSl (oVal (dVar 2)) dNone (dSome (dC (.int 59)))) (dTup (dConsD (dLst (dItems (dConsD (dC (.int 0)) (dConsD (dC (.int 1)) (dNil))))) (dNil)))) (dConsD (dBin gAdd (dSl (oVal (dVar 2)) dNone (dSome (dC (.int 59)))) (dTup (dConsD (dTup (dConsD (dC (.int 0)) (dConsD (dC (.bool true)) (dNil)))) (dNil)))) (dConsD (dBin gAdd (dSl (oVal (dVar 2)) dNone (dSome (dC (.int 59)))) (dTup (dConsD (dTup (dConsD (dNeg (dC (.int 1))) (dConsD (dC (.int 0)) (dNil)))) (dNil)))) (dConsD (dBin gMul (dTup (dConsD (dTup (dConsD (dC (.int 0)) (dConsD (dC (.int 1)) (dNil)))) (dNil))) (dC (.int 61))) (dConsD (dTup (dConsD (dC (.int 0)) (dConsD (dC (.int 1)) (dNil)))) (dConsD (dBin gAdd (dSl (oVal (dVar 2)) dNone (dSome (dC (.int 59)))) (dTup (dConsD (dTup (dConsD (dC (.str "0")) (dConsD (dC (.str "1")) (dNil)))) (dNil)))) (dNil)))))))))))
      (dSeq (dIfS (dB (dCb gAny (dConsD (dLst (dLc (dIt (dVar 3)) (tgN 4) (dYes) (dBin (gIsX true) (dCl fn_is_sorter (dConsD (dVar 1) (dConsD (dVar 4) (dNil))) dNil [0, 1] []) (dC (.bool false))) [4])) (dNil)))) (dRet (dC (.bool false))) (dSkip))
      (dRet (dCl fn__law_fits (dConsD (dLst (dItems (dConsD (dCl fn_is_sorter (dConsD (dVar 1) (dConsD (dVar 2) (dNil))) dNil [0, 1] []) (dConsD (dCl fn_is_sorter dNil (dConsD (dBin gMul (dTup (dConsD (dTup (dConsD (dC (.int 0)) (dConsD (dC (.int 1)) (dNil)))) (dNil))) (dC (.int 60))) (dConsD (dVar 1) (dNil))) [1, 0] []) (dConsD (dCl fn_is_sorter (dConsD (dVar 1) (dConsD (dTup (dNil)) (dNil))) dNil [0, 1] []) (dNil)))))) (dConsD (dBin gMul (dLst (dItems (dConsD (dC (.bool true)) (dNil)))) (dC (.int 3))) (dNil))) dNil [0, 1] []))))
def fn__law_values_right : Fn := fnOf 2 g__law_values_right
theorem w__law_values_right {P : Program} {w : World} {K : PySem.W.Frag} {mg : Str → Option Value} {base : Heap} (M : Mg mg) {fd_is_sorter : FuncData} (c_is_sorter : Cal P w K mg base "is_sorter" 6 fd_is_sorter ps_is_sorter fn_is_sorter) {fd__law_fits : FuncData} (c__law_fits : Cal P w K mg base "_law_fits" 1 fd__law_fits ps__law_fits fn__law_fits) (b0 : BindK K fd_is_sorter ps_is_sorter [] 2 [0, 1] []) (b1 : BindK K fd__law_fits ps__law_fits [] 2 [0, 1] []) (b2 : BindK K fd_is_sorter ps_is_sorter ["value", "lines"] 0 [1, 0] []) {f : Addr} {fd : FuncData} (F : Dfn K mg "_law_values_right" st__law_values_right f fd) : Cal P w K mg base "_law_values_right" 7 fd ps__law_values_right fn__law_values_right := by
  refine F.cal (N := nm__law_values_right) sc__law_values_right (by decide) fun cdv A outer s H E hG hr => ?_
  have hN : List.Nodup (nm__law_values_right) := by decide +kernel
  exact ⟨_, b_cons (s_asg hN (i := 3) rfl (by first | exact .inl rfl | exact .inr rfl) (x_new (n_lst (a_cons (x_new (n_ty (show CallR _ _ (rList2 K) from cList) (sc_list (K := K)) (by decide +kernel) M.m_list (a_cons (x_var 2) (a_nil)))) (a_cons (x_bin (show OpR _ _ (rAdd4 K) from opAdd) (s2_add (K := K)) (x_sl2 (K0 := K) (o_val (x_var 2)) p_none (p_some (x_int))) (x_tup (a_cons (x_tup (a_cons (x_int) (a_cons (x_int) (a_nil)))) (a_nil)))) (a_cons (x_bin (show OpR _ _ (rAdd4 K) from opAdd) (s2_add (K := K)) (x_sl2 (K0 := K) (o_val (x_var 2)) p_none (p_some (x_int))) (x_tup (a_cons (x_tup (a_cons (x_int) (a_cons (x_var 1) (a_nil)))) (a_nil)))) (a_cons (x_bin (show OpR _ _ (rAdd4 K) from opAdd) (s2_add (K := K)) (x_sl2 (K0 := K) (o_val (x_var 2)) p_none (p_some (x_int))) (x_tup (a_cons (x_tup (a_cons (x_int) (a_cons (x_int) (a_nil)))) (a_nil)))) (a_cons (x_bin (show OpR _ _ (rAdd4 K) from opAdd) (s2_add (K := K)) (x_sl2 (K0 := K) (o_val (x_var 2)) p_none (p_some (x_int))) (x_tup (a_cons (x_tup (a_cons (x_int) (a_cons (x_int) (a_cons (x_int) (a_nil))))) (a_nil)))) (a_cons (x_non) (a_cons (x_str) (a_nil)))))))))))
      (b_cons (s_asg hN (i := 3) rfl (by first | exact .inl rfl | exact .inr rfl) (x_bin (show OpR _ _ (rAdd4 K) from opAdd) (s2_add (K := K)) (x_var 3) (x_new (n_lst (a_cons (x_bin (show OpR _ _ (rAdd4 K) from opAdd) (s2_add (K := K)) (x_sl2 (K0 := K) (o_val (x_var 2)) p_none (p_some (x_int))) (x_tup (a_cons (x_new (n_lst (a_cons (x_int) (a_cons (x_int) (a_nil))))) (a_nil)))) (a_cons (x_bin (show OpR _ _ (rAdd4 K) from opAdd) (s2_add (K := K)) (x_sl2 (K0 := K) (o_val (x_var 2)) p_none (p_some (x_int))) (x_tup (a_cons (x_tup (a_cons (x_int) (a_cons (x_bl) (a_nil)))) (a_nil)))) (a_cons (x_bin (show OpR _ _ (rAdd4 K) from opAdd) (s2_add (K := K)) (x_sl2 (K0 := K) (o_val (x_var 2)) p_none (p_some (x_int))) (x_tup (a_cons (x_tup (a_cons (x_neg x_int) (a_cons (x_int) (a_nil)))) (a_nil)))) (a_cons (x_bin (show OpR _ _ (rMul4 K) from opMul) (s2_mul (K := K)) (x_tup (a_cons (x_tup (a_cons (x_int) (a_cons (x_int) (a_nil)))) (a_nil))) (x_int)) (a_cons (x_tup (a_cons (x_int) (a_cons (x_int) (a_nil)))) (a_cons (x_bin (show OpR _ _ (rAdd4 K) from opAdd) (s2_add (K := K)) (x_sl2 (K0 := K) (o_val (x_var 2)) p_none (p_some (x_int))) (x_tup (a_cons (x_tup (a_cons (x_str) (a_cons (x_str) (a_nil)))) (a_nil)))) (a_nil)))))))))))
      (b_cons (s_if (t_val (x_cb (show CallR _ _ (rAny K) from cr_any rfl) (sc_any (K := K)) (by decide +kernel) M.m_any (a_cons (x_new (n_lc (own := [("value", 4)]) [4] rfl hN (i_seq2 (K0 := K) (x_var 3)) (by rfl) (fun s1 H1 C1 cl1 fp1 => by exact g_name hN rfl (by first | exact .inl rfl | exact .inr rfl)) (l_name) (fun s1 H1 C1 cl1 fp1 => by exact ts_nil) (fun s1 H1 C1 cl1 fp1 => by exact x_cmp opIsNot (s2_is (K := K)) (x_call c_is_sorter (by decide) hG hr b0 .nil (fun _ => .nil) (a_cons (x_var 1) (a_cons (x_var 4) (a_nil))) (ln_consD (ln_consD (ln_nil)))) (x_bl)))) (a_nil)))) (b_one (s_ret (x_bl))) (b_nil))
      (b_one (s_ret (x_call c__law_fits (by decide) hG hr b1 .nil (fun _ => .nil) (a_cons (x_new (n_lst (a_cons (x_call c_is_sorter (by decide) hG hr b0 .nil (fun _ => .nil) (a_cons (x_var 1) (a_cons (x_var 2) (a_nil))) (ln_consD (ln_consD (ln_nil)))) (a_cons (x_callK c_is_sorter (by decide) hG hr b2 .nil (fun _ => .nil) (k_cons (x_bin (show OpR _ _ (rMul4 K) from opMul) (s2_mul (K := K)) (x_tup (a_cons (x_tup (a_cons (x_int) (a_cons (x_int) (a_nil)))) (a_nil))) (x_int)) (k_cons (x_var 1) (k_nil))) (ln_consD (ln_consD (ln_nil)))) (a_cons (x_call c_is_sorter (by decide) hG hr b0 .nil (fun _ => .nil) (a_cons (x_var 1) (a_cons (x_tup (a_nil)) (a_nil))) (ln_consD (ln_consD (ln_nil)))) (a_nil)))))) (a_cons (x_bin (show OpR _ _ (rMul4 K) from opMul) (s2_mul (K := K)) (x_new (n_lst (a_cons (x_bl) (a_nil)))) (x_int)) (a_nil))) (ln_consD (ln_consD (ln_nil))))))))⟩
/-! ## law -/
abbrev st_law : Stmt := topS 42
abbrev nm_law : List Str := ["script", "side", "wheel", "lines", "sorter", "turn"]
abbrev ps_law : List Str := ["script"]
theorem sc_law : FnScope nm_law ps_law (defScope st_law) := ⟨rfl, rfl, rfl, by decide +kernel, rfl, by decide +kernel, by decide +kernel⟩
def g_law : En → RS :=
      dSeq (dFor (dIt (dTup (dConsD (dC (.int 0)) (dConsD (dC (.int 1)) (dNil))))) (tgN 1) (dSeq (dAsgK 2 (dClK fn__law_wheel (dCons (oS 0) (dConsD (dVar 1) (dNil))) dNil [0, 1] []))
      (dFor (dIt (dTup (dConsD (dC (.int 8)) (dConsD (dC (.int 3)) (dConsD (dC (.int 5)) (dConsD (dC (.int 2)) (dConsD (dC (.int 4)) (dConsD (dBin gAdd (dC (.int 2)) (dCl fn__law_turn (dCons (oS 2) (dConsD (dC (.int 7)) (dNil))) dNil [0, 1] [])) (dNil))))))))) (tgN 3) (dSeq (dAsg 4 (dCl fn__law_sorter (dCons (oS 2) (dConsD (dVar 3) (dConsD (dCl fn__law_choice (dCons (oS 2) (dConsD (dTup (dConsD (dC (.int 0)) (dConsD (dC (.int 1)) (dConsD (dC (.int 3)) (dConsD (dC (.int 7)) (dConsD (dC (.int 20)) (dConsD (dC (.int 60)) (dNil)))))))) (dNil))) dNil [0, 1] []) (dNil)))) dNil [0, 1, 2] []))
      (dIfS (dOr (dNot (dB (dCb gAll (dConsD (dLst (dLc (dIt1 (dC (.int 5))) (tgN 5) (dYes) (dCl fn__law_row_right (dCons (oS 2) (dConsD (dVar 3) (dConsD (dVar 4) (dNil)))) dNil [0, 1, 2] []) [5])) (dNil))))) (dNot (dB (dCl fn__law_values_right (dCons (oS 2) (dConsD (dVar 3) (dConsD (dVar 4) (dNil)))) dNil [0, 1, 2] [])))) (dRet (dC (.bool false))) (dSkip))) [])) [2])
      (dRet (dC (.bool true)))
def fn_law : Fn := fnOf 5 g_law
theorem w_law {P : Program} {w : World} {K : PySem.W.Frag} {mg : Str → Option Value} {base : Heap} (M : Mg mg) {fd__law_wheel : FuncData} (c__law_wheel : Cal P w K mg base "_law_wheel" 1 fd__law_wheel ps__law_wheel fn__law_wheel) {fd__law_turn : FuncData} (c__law_turn : Cal P w K mg base "_law_turn" 1 fd__law_turn ps__law_turn fn__law_turn) {fd__law_sorter : FuncData} (c__law_sorter : Cal P w K mg base "_law_sorter" 2 fd__law_sorter ps__law_sorter fn__law_sorter) {fd__law_choice : FuncData} (c__law_choice : Cal P w K mg base "_law_choice" 2 fd__law_choice ps__law_choice fn__law_choice) {fd__law_row_right : FuncData} (c__law_row_right : Cal P w K mg base "_law_row_right" 8 fd__law_row_right ps__law_row_right fn__law_row_right) {fd__law_values_right : FuncData} (c__law_values_right : Cal P w K mg base "_law_values_right" 7 fd__law_values_right ps__law_values_right fn__law_values_right) (b0 : BindK K fd__law_wheel ps__law_wheel [] 2 [0, 1] []) (b1 : BindK K fd__law_turn ps__law_turn [] 2 [0, 1] []) (b2 : BindK K fd__law_sorter ps__law_sorter [] 3 [0, 1, 2] []) (b3 : BindK K fd__law_choice ps__law_choice [] 2 [0, 1] []) (b4 : BindK K fd__law_row_right ps__law_row_right [] 3 [0, 1, 2] []) (b5 : BindK K fd__law_values_right ps__law_values_right [] 3 [0, 1, 2] []) {f : Addr} {fd : FuncData} (F : Dfn K mg "law" st_law f fd) : Cal P w K mg base "law" 9 fd ps_law fn_law := by
  refine F.cal (N := nm_law) sc_law (by decide) fun cdv A outer s H E hG hr => ?_
  have hN : List.Nodup (nm_law) := by decide +kernel
  exact ⟨_, b_cons (s_for [2] (i_seq2 (K0 := K) (x_tup (a_cons (x_int) (a_cons (x_int) (a_nil))))) (g_name hN rfl (by first | exact .inl rfl | exact .inr rfl)) (b_cons (s_asgK hN (i := 2) rfl (by first | exact .inl rfl | exact .inr rfl) (n_call c__law_wheel (by decide) hG hr b0 .nil (fun _ => .nil) (a_op (o_slot 0) (a_cons (x_var 1) (a_nil))) (ln_cons (ln_consD (ln_nil)))))
      (b_one (s_for [] (i_seq2 (K0 := K) (x_tup (a_cons (x_int) (a_cons (x_int) (a_cons (x_int) (a_cons (x_int) (a_cons (x_int) (a_cons (x_bin (show OpR _ _ (rAdd4 K) from opAdd) (s2_add (K := K)) (x_int) (x_call c__law_turn (by decide) hG hr b1 .nil (fun _ => .nil) (a_op (o_slot 2) (a_cons (x_int) (a_nil))) (ln_cons (ln_consD (ln_nil))))) (a_nil))))))))) (g_name hN rfl (by first | exact .inl rfl | exact .inr rfl)) (b_cons (s_asg hN (i := 4) rfl (by first | exact .inl rfl | exact .inr rfl) (x_call c__law_sorter (by decide) hG hr b2 .nil (fun _ => .nil) (a_op (o_slot 2) (a_cons (x_var 3) (a_cons (x_call c__law_choice (by decide) hG hr b3 .nil (fun _ => .nil) (a_op (o_slot 2) (a_cons (x_tup (a_cons (x_int) (a_cons (x_int) (a_cons (x_int) (a_cons (x_int) (a_cons (x_int) (a_cons (x_int) (a_nil)))))))) (a_nil))) (ln_cons (ln_consD (ln_nil)))) (a_nil)))) (ln_cons (ln_consD (ln_consD (ln_nil))))))
      (b_one (s_if (t_bool (w_or (t_not (t_val (x_cb (show CallR _ _ (rAll K) from cr_all rfl) (sc_all (K := K)) (by decide +kernel) M.m_all (a_cons (x_new (n_lc (own := [("turn", 5)]) [5] rfl hN (i_range1 (x_int) M.m_range) (by rfl) (fun s1 H1 C1 cl1 fp1 => by exact g_name hN rfl (by first | exact .inl rfl | exact .inr rfl)) (l_name) (fun s1 H1 C1 cl1 fp1 => by exact ts_nil) (fun s1 H1 C1 cl1 fp1 => by exact x_call c__law_row_right (by decide) hG hr b4 .nil (fun _ => .nil) (a_op (o_slot 2) (a_cons (x_var 3) (a_cons (x_var 4) (a_nil)))) (ln_cons (ln_consD (ln_consD (ln_nil))))))) (a_nil))))) (w_or1 (t_not (t_val (x_call c__law_values_right (by decide) hG hr b5 .nil (fun _ => .nil) (a_op (o_slot 2) (a_cons (x_var 3) (a_cons (x_var 4) (a_nil)))) (ln_cons (ln_consD (ln_consD (ln_nil)))))))))) (b_one (s_ret (x_bl))) (b_nil)))) PassesOwn.never))) PassesOwn.never)
      (b_one (s_ret (x_bl)))⟩
end T51

namespace T51
open L2 L2.G PySem PySem.Spec PyProof.Rows
theorem bk0 {K : PySem.W.Frag} {an : Option Addr} {kV dc pm cd ct : Value} : BindK K (PySem.W.fnOf "_law_turn" "_law_turn" (defArgs st__law_turn) (defBody st__law_turn) (defScope st__law_turn) .none kV dc pm an cd ct) ps__law_turn [] 2 [0, 1] [] := fun s us ws hk hu hw => by
  match us, ws, hu, hw with
  | [_, _], [], _, _ => exact .of_eq rfl
theorem bk1 {K : PySem.W.Frag} {an : Option Addr} {kV dc pm cd ct : Value} : BindK K (PySem.W.fnOf "is_whole" "is_whole" (defArgs st_is_whole) (defBody st_is_whole) (defScope st_is_whole) .none kV dc pm an cd ct) ps_is_whole [] 1 [0] [] := fun s us ws hk hu hw => by
  match us, ws, hu, hw with
  | [_], [], _, _ => exact .of_eq rfl
theorem bk2 {K : PySem.W.Frag} {an : Option Addr} {kV dc pm cd ct : Value} : BindK K (PySem.W.fnOf "is_between" "is_between" (defArgs st_is_between) (defBody st_is_between) (defScope st_is_between) .none kV dc pm an cd ct) ps_is_between [] 3 [0, 1, 2] [] := fun s us ws hk hu hw => by
  match us, ws, hu, hw with
  | [_, _, _], [], _, _ => exact .of_eq rfl
theorem bk3 {K : PySem.W.Frag} {an : Option Addr} {kV dc pm cd ct : Value} : BindK K (PySem.W.fnOf "comparer_ok" "comparer_ok" (defArgs st_comparer_ok) (defBody st_comparer_ok) (defScope st_comparer_ok) .none kV dc pm an cd ct) ps_comparer_ok [] 2 [0, 1] [] := fun s us ws hk hu hw => by
  match us, ws, hu, hw with
  | [_, _], [], _, _ => exact .of_eq rfl
theorem bk4 {K : PySem.W.Frag} {an : Option Addr} {kV dc pm cd ct : Value} : BindK K (PySem.W.fnOf "first_wrong_comparer" "first_wrong_comparer" (defArgs st_first_wrong_comparer) (defBody st_first_wrong_comparer) (defScope st_first_wrong_comparer) .none kV dc pm an cd ct) ps_first_wrong_comparer [] 2 [0, 1] [] := fun s us ws hk hu hw => by
  match us, ws, hu, hw with
  | [_, _], [], _, _ => exact .of_eq rfl
theorem bk5 {K : PySem.W.Frag} {T : Addr} {an : Option Addr} {kV dc pm cd ct toc : Value} {tod : Option Addr} {nn : Nat} {tsl : Array (Option Value)} {t0 : Tok} (lT : K.lookup T = some ⟨toc, tod, .seq #[.int 8 t0] nn, tsl⟩) : BindK K (PySem.W.fnOf "check_lines" "check_lines" (defArgs st_check_lines) (defBody st_check_lines) (defScope st_check_lines) (.ref T) kV dc pm an cd ct) ps_check_lines [] 1 [0, 1] [.int 8 t0] := fun s us ws hk hu hw => by
  match us, ws, hu, hw with
  | [_], [], _, _ => exact .of_defaults rfl (hk _ _ lT) rfl rfl rfl
theorem bk6 {K : PySem.W.Frag} {an : Option Addr} {kV dc pm cd ct : Value} : BindK K (PySem.W.fnOf "check_sorter" "check_sorter" (defArgs st_check_sorter) (defBody st_check_sorter) (defScope st_check_sorter) .none kV dc pm an cd ct) ps_check_sorter [] 2 [0, 1] [] := fun s us ws hk hu hw => by
  match us, ws, hu, hw with
  | [_, _], [], _, _ => exact .of_eq rfl
theorem bk7 {K : PySem.W.Frag} {an : Option Addr} {kV dc pm cd ct : Value} : BindK K (PySem.W.fnOf "behind_comparer" "behind_comparer" (defArgs st_behind_comparer) (defBody st_behind_comparer) (defScope st_behind_comparer) .none kV dc pm an cd ct) ps_behind_comparer [] 2 [0, 1] [] := fun s us ws hk hu hw => by
  match us, ws, hu, hw with
  | [_, _], [], _, _ => exact .of_eq rfl
theorem bk8 {K : PySem.W.Frag} {an : Option Addr} {kV dc pm cd ct : Value} : BindK K (PySem.W.fnOf "check_lined" "check_lined" (defArgs st_check_lined) (defBody st_check_lined) (defScope st_check_lined) .none kV dc pm an cd ct) ps_check_lined [] 2 [0, 1] [] := fun s us ws hk hu hw => by
  match us, ws, hu, hw with
  | [_, _], [], _, _ => exact .of_eq rfl
theorem bk9 {K : PySem.W.Frag} {an : Option Addr} {kV dc pm cd ct : Value} : BindK K (PySem.W.fnOf "check_row" "check_row" (defArgs st_check_row) (defBody st_check_row) (defScope st_check_row) .none kV dc pm an cd ct) ps_check_row [] 2 [0, 1] [] := fun s us ws hk hu hw => by
  match us, ws, hu, hw with
  | [_, _], [], _, _ => exact .of_eq rfl
theorem bk10 {K : PySem.W.Frag} {an : Option Addr} {kV dc pm cd ct : Value} : BindK K (PySem.W.fnOf "run_by" "run_by" (defArgs st_run_by) (defBody st_run_by) (defScope st_run_by) .none kV dc pm an cd ct) ps_run_by [] 2 [0, 1] [] := fun s us ws hk hu hw => by
  match us, ws, hu, hw with
  | [_, _], [], _, _ => exact .of_eq rfl
theorem bk11 {K : PySem.W.Frag} {an : Option Addr} {kV dc pm cd ct : Value} : BindK K (PySem.W.fnOf "is_rising" "is_rising" (defArgs st_is_rising) (defBody st_is_rising) (defScope st_is_rising) .none kV dc pm an cd ct) ps_is_rising [] 1 [0] [] := fun s us ws hk hu hw => by
  match us, ws, hu, hw with
  | [_], [], _, _ => exact .of_eq rfl
theorem bk12 {K : PySem.W.Frag} {an : Option Addr} {kV dc pm cd ct : Value} : BindK K (PySem.W.fnOf "disorder_by" "disorder_by" (defArgs st_disorder_by) (defBody st_disorder_by) (defScope st_disorder_by) .none kV dc pm an cd ct) ps_disorder_by [] 1 [0] [] := fun s us ws hk hu hw => by
  match us, ws, hu, hw with
  | [_], [], _, _ => exact .of_eq rfl
theorem bk13 {K : PySem.W.Frag} {an : Option Addr} {kV dc pm cd ct : Value} : BindK K (PySem.W.fnOf "_law_drawn_row" "_law_drawn_row" (defArgs st__law_drawn_row) (defBody st__law_drawn_row) (defScope st__law_drawn_row) .none kV dc pm an cd ct) ps__law_drawn_row [] 2 [0, 1] [] := fun s us ws hk hu hw => by
  match us, ws, hu, hw with
  | [_, _], [], _, _ => exact .of_eq rfl
theorem bk14 {K : PySem.W.Frag} {an : Option Addr} {kV dc pm cd ct : Value} : BindK K (PySem.W.fnOf "_law_behind" "_law_behind" (defArgs st__law_behind) (defBody st__law_behind) (defScope st__law_behind) .none kV dc pm an cd ct) ps__law_behind [] 2 [0, 1] [] := fun s us ws hk hu hw => by
  match us, ws, hu, hw with
  | [_, _], [], _, _ => exact .of_eq rfl
theorem bk15 {K : PySem.W.Frag} {an : Option Addr} {kV dc pm cd ct : Value} : BindK K (PySem.W.fnOf "sorted_by" "sorted_by" (defArgs st_sorted_by) (defBody st_sorted_by) (defScope st_sorted_by) .none kV dc pm an cd ct) ps_sorted_by [] 3 [0, 1, 2] [] := fun s us ws hk hu hw => by
  match us, ws, hu, hw with
  | [_, _, _], [], _, _ => exact .of_eq rfl
theorem bk16 {K : PySem.W.Frag} {an : Option Addr} {kV dc pm cd ct : Value} : BindK K (PySem.W.fnOf "sorted_by" "sorted_by" (defArgs st_sorted_by) (defBody st_sorted_by) (defScope st_sorted_by) .none kV dc pm an cd ct) ps_sorted_by ["row", "sorter", "lines"] 0 [2, 1, 0] [] := fun s us ws hk hu hw => by
  match us, ws, hu, hw with
  | [], [_, _, _], _, _ => exact .of_eq rfl
theorem bk17 {K : PySem.W.Frag} {an : Option Addr} {kV dc pm cd ct : Value} : BindK K (PySem.W.fnOf "_law_fits" "_law_fits" (defArgs st__law_fits) (defBody st__law_fits) (defScope st__law_fits) .none kV dc pm an cd ct) ps__law_fits [] 2 [0, 1] [] := fun s us ws hk hu hw => by
  match us, ws, hu, hw with
  | [_, _], [], _, _ => exact .of_eq rfl
theorem bk18 {K : PySem.W.Frag} {an : Option Addr} {kV dc pm cd ct : Value} : BindK K (PySem.W.fnOf "does_sort" "does_sort" (defArgs st_does_sort) (defBody st_does_sort) (defScope st_does_sort) .none kV dc pm an cd ct) ps_does_sort ["row", "sorter", "lines"] 0 [2, 1, 0] [] := fun s us ws hk hu hw => by
  match us, ws, hu, hw with
  | [], [_, _, _], _, _ => exact .of_eq rfl
theorem bk19 {K : PySem.W.Frag} {an : Option Addr} {kV dc pm cd ct : Value} : BindK K (PySem.W.fnOf "does_sort" "does_sort" (defArgs st_does_sort) (defBody st_does_sort) (defScope st_does_sort) .none kV dc pm an cd ct) ps_does_sort [] 3 [0, 1, 2] [] := fun s us ws hk hu hw => by
  match us, ws, hu, hw with
  | [_, _, _], [], _, _ => exact .of_eq rfl
theorem bk20 {K : PySem.W.Frag} {an : Option Addr} {kV dc pm cd ct : Value} : BindK K (PySem.W.fnOf "disorder" "disorder" (defArgs st_disorder) (defBody st_disorder) (defScope st_disorder) .none kV dc pm an cd ct) ps_disorder [] 2 [0, 1] [] := fun s us ws hk hu hw => by
  match us, ws, hu, hw with
  | [_, _], [], _, _ => exact .of_eq rfl
theorem bk21 {K : PySem.W.Frag} {an : Option Addr} {kV dc pm cd ct : Value} : BindK K (PySem.W.fnOf "_law_disorder" "_law_disorder" (defArgs st__law_disorder) (defBody st__law_disorder) (defScope st__law_disorder) .none kV dc pm an cd ct) ps__law_disorder [] 1 [0] [] := fun s us ws hk hu hw => by
  match us, ws, hu, hw with
  | [_], [], _, _ => exact .of_eq rfl
theorem bk22 {K : PySem.W.Frag} {an : Option Addr} {kV dc pm cd ct : Value} : BindK K (PySem.W.fnOf "disorder" "disorder" (defArgs st_disorder) (defBody st_disorder) (defScope st_disorder) .none kV dc pm an cd ct) ps_disorder ["row", "lines"] 0 [1, 0] [] := fun s us ws hk hu hw => by
  match us, ws, hu, hw with
  | [], [_, _], _, _ => exact .of_eq rfl
theorem bk23 {K : PySem.W.Frag} {an : Option Addr} {kV dc pm cd ct : Value} : BindK K (PySem.W.fnOf "sorter_ok" "sorter_ok" (defArgs st_sorter_ok) (defBody st_sorter_ok) (defScope st_sorter_ok) .none kV dc pm an cd ct) ps_sorter_ok [] 2 [0, 1] [] := fun s us ws hk hu hw => by
  match us, ws, hu, hw with
  | [_, _], [], _, _ => exact .of_eq rfl
theorem bk24 {K : PySem.W.Frag} {an : Option Addr} {kV dc pm cd ct : Value} : BindK K (PySem.W.fnOf "is_sorter" "is_sorter" (defArgs st_is_sorter) (defBody st_is_sorter) (defScope st_is_sorter) .none kV dc pm an cd ct) ps_is_sorter [] 2 [0, 1] [] := fun s us ws hk hu hw => by
  match us, ws, hu, hw with
  | [_, _], [], _, _ => exact .of_eq rfl
theorem bk25 {K : PySem.W.Frag} {an : Option Addr} {kV dc pm cd ct : Value} : BindK K (PySem.W.fnOf "is_sorter" "is_sorter" (defArgs st_is_sorter) (defBody st_is_sorter) (defScope st_is_sorter) .none kV dc pm an cd ct) ps_is_sorter ["value", "lines"] 0 [1, 0] [] := fun s us ws hk hu hw => by
  match us, ws, hu, hw with
  | [], [_, _], _, _ => exact .of_eq rfl
theorem bk26 {K : PySem.W.Frag} {an : Option Addr} {kV dc pm cd ct : Value} : BindK K (PySem.W.fnOf "_law_wheel" "_law_wheel" (defArgs st__law_wheel) (defBody st__law_wheel) (defScope st__law_wheel) .none kV dc pm an cd ct) ps__law_wheel [] 2 [0, 1] [] := fun s us ws hk hu hw => by
  match us, ws, hu, hw with
  | [_, _], [], _, _ => exact .of_eq rfl
theorem bk27 {K : PySem.W.Frag} {an : Option Addr} {kV dc pm cd ct : Value} : BindK K (PySem.W.fnOf "_law_sorter" "_law_sorter" (defArgs st__law_sorter) (defBody st__law_sorter) (defScope st__law_sorter) .none kV dc pm an cd ct) ps__law_sorter [] 3 [0, 1, 2] [] := fun s us ws hk hu hw => by
  match us, ws, hu, hw with
  | [_, _, _], [], _, _ => exact .of_eq rfl
theorem bk28 {K : PySem.W.Frag} {an : Option Addr} {kV dc pm cd ct : Value} : BindK K (PySem.W.fnOf "_law_choice" "_law_choice" (defArgs st__law_choice) (defBody st__law_choice) (defScope st__law_choice) .none kV dc pm an cd ct) ps__law_choice [] 2 [0, 1] [] := fun s us ws hk hu hw => by
  match us, ws, hu, hw with
  | [_, _], [], _, _ => exact .of_eq rfl
theorem bk29 {K : PySem.W.Frag} {an : Option Addr} {kV dc pm cd ct : Value} : BindK K (PySem.W.fnOf "_law_row_right" "_law_row_right" (defArgs st__law_row_right) (defBody st__law_row_right) (defScope st__law_row_right) .none kV dc pm an cd ct) ps__law_row_right [] 3 [0, 1, 2] [] := fun s us ws hk hu hw => by
  match us, ws, hu, hw with
  | [_, _, _], [], _, _ => exact .of_eq rfl
theorem bk30 {K : PySem.W.Frag} {an : Option Addr} {kV dc pm cd ct : Value} : BindK K (PySem.W.fnOf "_law_values_right" "_law_values_right" (defArgs st__law_values_right) (defBody st__law_values_right) (defScope st__law_values_right) .none kV dc pm an cd ct) ps__law_values_right [] 3 [0, 1, 2] [] := fun s us ws hk hu hw => by
  match us, ws, hu, hw with
  | [_, _, _], [], _, _ => exact .of_eq rfl
theorem all_mk {l : PySem.W.OpenLaw} {w : World} {K : PySem.W.Frag} {h : Heap} {mg : Str → Option Value} {fa : Addr} (X : K.In h) (G : h.Ns mainGlobals mg) (hfa : mg "law" = some (.ref fa))
    {f0 : Addr} {od0 an0 : Option Addr} {sl0 : Array (Option Value)} {oc0 kV0 dc0 pm0 cd0 ct0 : Value}
    (a0 : PySem.W.nsIn K mainGlobals "_law_wheel" = some (some (.ref f0))) (l0 : K.lookup f0 = some ⟨oc0, od0, .func (PySem.W.fnOf "_law_wheel" "_law_wheel" (defArgs st__law_wheel) (defBody st__law_wheel) (defScope st__law_wheel) .none kV0 dc0 pm0 an0 cd0 ct0), sl0⟩) (c0 : PySem.W.codeIn K cd0 "_law_wheel" = true) (k0 : PySem.W.keepIn K (.ref f0) = true)
    {f1 : Addr} {od1 an1 : Option Addr} {sl1 : Array (Option Value)} {oc1 kV1 dc1 pm1 cd1 ct1 : Value}
    (a1 : PySem.W.nsIn K mainGlobals "_law_turn" = some (some (.ref f1))) (l1 : K.lookup f1 = some ⟨oc1, od1, .func (PySem.W.fnOf "_law_turn" "_law_turn" (defArgs st__law_turn) (defBody st__law_turn) (defScope st__law_turn) .none kV1 dc1 pm1 an1 cd1 ct1), sl1⟩) (c1 : PySem.W.codeIn K cd1 "_law_turn" = true) (k1 : PySem.W.keepIn K (.ref f1) = true)
    {f2 : Addr} {od2 an2 : Option Addr} {sl2 : Array (Option Value)} {oc2 kV2 dc2 pm2 cd2 ct2 : Value}
    (a2 : PySem.W.nsIn K mainGlobals "_law_sorter" = some (some (.ref f2))) (l2 : K.lookup f2 = some ⟨oc2, od2, .func (PySem.W.fnOf "_law_sorter" "_law_sorter" (defArgs st__law_sorter) (defBody st__law_sorter) (defScope st__law_sorter) .none kV2 dc2 pm2 an2 cd2 ct2), sl2⟩) (c2 : PySem.W.codeIn K cd2 "_law_sorter" = true) (k2 : PySem.W.keepIn K (.ref f2) = true)
    {f3 : Addr} {od3 an3 : Option Addr} {sl3 : Array (Option Value)} {oc3 kV3 dc3 pm3 cd3 ct3 : Value}
    (a3 : PySem.W.nsIn K mainGlobals "_law_choice" = some (some (.ref f3))) (l3 : K.lookup f3 = some ⟨oc3, od3, .func (PySem.W.fnOf "_law_choice" "_law_choice" (defArgs st__law_choice) (defBody st__law_choice) (defScope st__law_choice) .none kV3 dc3 pm3 an3 cd3 ct3), sl3⟩) (c3 : PySem.W.codeIn K cd3 "_law_choice" = true) (k3 : PySem.W.keepIn K (.ref f3) = true)
    {f4 : Addr} {od4 an4 : Option Addr} {sl4 : Array (Option Value)} {oc4 kV4 dc4 pm4 cd4 ct4 : Value}
    (a4 : PySem.W.nsIn K mainGlobals "_law_drawn_row" = some (some (.ref f4))) (l4 : K.lookup f4 = some ⟨oc4, od4, .func (PySem.W.fnOf "_law_drawn_row" "_law_drawn_row" (defArgs st__law_drawn_row) (defBody st__law_drawn_row) (defScope st__law_drawn_row) .none kV4 dc4 pm4 an4 cd4 ct4), sl4⟩) (c4 : PySem.W.codeIn K cd4 "_law_drawn_row" = true) (k4 : PySem.W.keepIn K (.ref f4) = true)
    {f5 : Addr} {od5 an5 : Option Addr} {sl5 : Array (Option Value)} {oc5 kV5 dc5 pm5 cd5 ct5 : Value}
    (a5 : PySem.W.nsIn K mainGlobals "_law_behind" = some (some (.ref f5))) (l5 : K.lookup f5 = some ⟨oc5, od5, .func (PySem.W.fnOf "_law_behind" "_law_behind" (defArgs st__law_behind) (defBody st__law_behind) (defScope st__law_behind) .none kV5 dc5 pm5 an5 cd5 ct5), sl5⟩) (c5 : PySem.W.codeIn K cd5 "_law_behind" = true) (k5 : PySem.W.keepIn K (.ref f5) = true)
    {f6 : Addr} {od6 an6 : Option Addr} {sl6 : Array (Option Value)} {oc6 kV6 dc6 pm6 cd6 ct6 : Value}
    (a6 : PySem.W.nsIn K mainGlobals "is_whole" = some (some (.ref f6))) (l6 : K.lookup f6 = some ⟨oc6, od6, .func (PySem.W.fnOf "is_whole" "is_whole" (defArgs st_is_whole) (defBody st_is_whole) (defScope st_is_whole) .none kV6 dc6 pm6 an6 cd6 ct6), sl6⟩) (c6 : PySem.W.codeIn K cd6 "is_whole" = true) (k6 : PySem.W.keepIn K (.ref f6) = true)
    {f7 : Addr} {od7 an7 : Option Addr} {sl7 : Array (Option Value)} {oc7 kV7 dc7 pm7 cd7 ct7 : Value}
    (a7 : PySem.W.nsIn K mainGlobals "is_between" = some (some (.ref f7))) (l7 : K.lookup f7 = some ⟨oc7, od7, .func (PySem.W.fnOf "is_between" "is_between" (defArgs st_is_between) (defBody st_is_between) (defScope st_is_between) .none kV7 dc7 pm7 an7 cd7 ct7), sl7⟩) (c7 : PySem.W.codeIn K cd7 "is_between" = true) (k7 : PySem.W.keepIn K (.ref f7) = true)
    {f8 : Addr} {od8 an8 : Option Addr} {sl8 : Array (Option Value)} {oc8 kV8 dc8 pm8 cd8 ct8 : Value} {T8 : Addr} {toc8 : Value} {tod8 : Option Addr} {nn8 : Nat} {tsl8 : Array (Option Value)} {t8_0 : Tok}
    (a8 : PySem.W.nsIn K mainGlobals "check_lines" = some (some (.ref f8))) (l8 : K.lookup f8 = some ⟨oc8, od8, .func (PySem.W.fnOf "check_lines" "check_lines" (defArgs st_check_lines) (defBody st_check_lines) (defScope st_check_lines) (.ref T8) kV8 dc8 pm8 an8 cd8 ct8), sl8⟩) (c8 : PySem.W.codeIn K cd8 "check_lines" = true) (k8 : PySem.W.keepIn K (.ref f8) = true)
    (e8 : K.lookup T8 = some ⟨toc8, tod8, .seq #[.int 8 t8_0] nn8, tsl8⟩)
    {f9 : Addr} {od9 an9 : Option Addr} {sl9 : Array (Option Value)} {oc9 kV9 dc9 pm9 cd9 ct9 : Value}
    (a9 : PySem.W.nsIn K mainGlobals "comparer_ok" = some (some (.ref f9))) (l9 : K.lookup f9 = some ⟨oc9, od9, .func (PySem.W.fnOf "comparer_ok" "comparer_ok" (defArgs st_comparer_ok) (defBody st_comparer_ok) (defScope st_comparer_ok) .none kV9 dc9 pm9 an9 cd9 ct9), sl9⟩) (c9 : PySem.W.codeIn K cd9 "comparer_ok" = true) (k9 : PySem.W.keepIn K (.ref f9) = true)
    {f10 : Addr} {od10 an10 : Option Addr} {sl10 : Array (Option Value)} {oc10 kV10 dc10 pm10 cd10 ct10 : Value}
    (a10 : PySem.W.nsIn K mainGlobals "first_wrong_comparer" = some (some (.ref f10))) (l10 : K.lookup f10 = some ⟨oc10, od10, .func (PySem.W.fnOf "first_wrong_comparer" "first_wrong_comparer" (defArgs st_first_wrong_comparer) (defBody st_first_wrong_comparer) (defScope st_first_wrong_comparer) .none kV10 dc10 pm10 an10 cd10 ct10), sl10⟩) (c10 : PySem.W.codeIn K cd10 "first_wrong_comparer" = true) (k10 : PySem.W.keepIn K (.ref f10) = true)
    {f11 : Addr} {od11 an11 : Option Addr} {sl11 : Array (Option Value)} {oc11 kV11 dc11 pm11 cd11 ct11 : Value}
    (a11 : PySem.W.nsIn K mainGlobals "check_sorter" = some (some (.ref f11))) (l11 : K.lookup f11 = some ⟨oc11, od11, .func (PySem.W.fnOf "check_sorter" "check_sorter" (defArgs st_check_sorter) (defBody st_check_sorter) (defScope st_check_sorter) .none kV11 dc11 pm11 an11 cd11 ct11), sl11⟩) (c11 : PySem.W.codeIn K cd11 "check_sorter" = true) (k11 : PySem.W.keepIn K (.ref f11) = true)
    {f12 : Addr} {od12 an12 : Option Addr} {sl12 : Array (Option Value)} {oc12 kV12 dc12 pm12 cd12 ct12 : Value}
    (a12 : PySem.W.nsIn K mainGlobals "check_lined" = some (some (.ref f12))) (l12 : K.lookup f12 = some ⟨oc12, od12, .func (PySem.W.fnOf "check_lined" "check_lined" (defArgs st_check_lined) (defBody st_check_lined) (defScope st_check_lined) .none kV12 dc12 pm12 an12 cd12 ct12), sl12⟩) (c12 : PySem.W.codeIn K cd12 "check_lined" = true) (k12 : PySem.W.keepIn K (.ref f12) = true)
    {f13 : Addr} {od13 an13 : Option Addr} {sl13 : Array (Option Value)} {oc13 kV13 dc13 pm13 cd13 ct13 : Value}
    (a13 : PySem.W.nsIn K mainGlobals "check_row" = some (some (.ref f13))) (l13 : K.lookup f13 = some ⟨oc13, od13, .func (PySem.W.fnOf "check_row" "check_row" (defArgs st_check_row) (defBody st_check_row) (defScope st_check_row) .none kV13 dc13 pm13 an13 cd13 ct13), sl13⟩) (c13 : PySem.W.codeIn K cd13 "check_row" = true) (k13 : PySem.W.keepIn K (.ref f13) = true)
    {f14 : Addr} {od14 an14 : Option Addr} {sl14 : Array (Option Value)} {oc14 kV14 dc14 pm14 cd14 ct14 : Value}
    (a14 : PySem.W.nsIn K mainGlobals "behind_comparer" = some (some (.ref f14))) (l14 : K.lookup f14 = some ⟨oc14, od14, .func (PySem.W.fnOf "behind_comparer" "behind_comparer" (defArgs st_behind_comparer) (defBody st_behind_comparer) (defScope st_behind_comparer) .none kV14 dc14 pm14 an14 cd14 ct14), sl14⟩) (c14 : PySem.W.codeIn K cd14 "behind_comparer" = true) (k14 : PySem.W.keepIn K (.ref f14) = true)
    {f15 : Addr} {od15 an15 : Option Addr} {sl15 : Array (Option Value)} {oc15 kV15 dc15 pm15 cd15 ct15 : Value}
    (a15 : PySem.W.nsIn K mainGlobals "run_by" = some (some (.ref f15))) (l15 : K.lookup f15 = some ⟨oc15, od15, .func (PySem.W.fnOf "run_by" "run_by" (defArgs st_run_by) (defBody st_run_by) (defScope st_run_by) .none kV15 dc15 pm15 an15 cd15 ct15), sl15⟩) (c15 : PySem.W.codeIn K cd15 "run_by" = true) (k15 : PySem.W.keepIn K (.ref f15) = true)
    {f16 : Addr} {od16 an16 : Option Addr} {sl16 : Array (Option Value)} {oc16 kV16 dc16 pm16 cd16 ct16 : Value}
    (a16 : PySem.W.nsIn K mainGlobals "sorted_by" = some (some (.ref f16))) (l16 : K.lookup f16 = some ⟨oc16, od16, .func (PySem.W.fnOf "sorted_by" "sorted_by" (defArgs st_sorted_by) (defBody st_sorted_by) (defScope st_sorted_by) .none kV16 dc16 pm16 an16 cd16 ct16), sl16⟩) (c16 : PySem.W.codeIn K cd16 "sorted_by" = true) (k16 : PySem.W.keepIn K (.ref f16) = true)
    {f17 : Addr} {od17 an17 : Option Addr} {sl17 : Array (Option Value)} {oc17 kV17 dc17 pm17 cd17 ct17 : Value}
    (a17 : PySem.W.nsIn K mainGlobals "_law_fits" = some (some (.ref f17))) (l17 : K.lookup f17 = some ⟨oc17, od17, .func (PySem.W.fnOf "_law_fits" "_law_fits" (defArgs st__law_fits) (defBody st__law_fits) (defScope st__law_fits) .none kV17 dc17 pm17 an17 cd17 ct17), sl17⟩) (c17 : PySem.W.codeIn K cd17 "_law_fits" = true) (k17 : PySem.W.keepIn K (.ref f17) = true)
    {f18 : Addr} {od18 an18 : Option Addr} {sl18 : Array (Option Value)} {oc18 kV18 dc18 pm18 cd18 ct18 : Value}
    (a18 : PySem.W.nsIn K mainGlobals "is_rising" = some (some (.ref f18))) (l18 : K.lookup f18 = some ⟨oc18, od18, .func (PySem.W.fnOf "is_rising" "is_rising" (defArgs st_is_rising) (defBody st_is_rising) (defScope st_is_rising) .none kV18 dc18 pm18 an18 cd18 ct18), sl18⟩) (c18 : PySem.W.codeIn K cd18 "is_rising" = true) (k18 : PySem.W.keepIn K (.ref f18) = true)
    {f19 : Addr} {od19 an19 : Option Addr} {sl19 : Array (Option Value)} {oc19 kV19 dc19 pm19 cd19 ct19 : Value}
    (a19 : PySem.W.nsIn K mainGlobals "does_sort" = some (some (.ref f19))) (l19 : K.lookup f19 = some ⟨oc19, od19, .func (PySem.W.fnOf "does_sort" "does_sort" (defArgs st_does_sort) (defBody st_does_sort) (defScope st_does_sort) .none kV19 dc19 pm19 an19 cd19 ct19), sl19⟩) (c19 : PySem.W.codeIn K cd19 "does_sort" = true) (k19 : PySem.W.keepIn K (.ref f19) = true)
    {f20 : Addr} {od20 an20 : Option Addr} {sl20 : Array (Option Value)} {oc20 kV20 dc20 pm20 cd20 ct20 : Value}
    (a20 : PySem.W.nsIn K mainGlobals "disorder_by" = some (some (.ref f20))) (l20 : K.lookup f20 = some ⟨oc20, od20, .func (PySem.W.fnOf "disorder_by" "disorder_by" (defArgs st_disorder_by) (defBody st_disorder_by) (defScope st_disorder_by) .none kV20 dc20 pm20 an20 cd20 ct20), sl20⟩) (c20 : PySem.W.codeIn K cd20 "disorder_by" = true) (k20 : PySem.W.keepIn K (.ref f20) = true)
    {f21 : Addr} {od21 an21 : Option Addr} {sl21 : Array (Option Value)} {oc21 kV21 dc21 pm21 cd21 ct21 : Value}
    (a21 : PySem.W.nsIn K mainGlobals "disorder" = some (some (.ref f21))) (l21 : K.lookup f21 = some ⟨oc21, od21, .func (PySem.W.fnOf "disorder" "disorder" (defArgs st_disorder) (defBody st_disorder) (defScope st_disorder) .none kV21 dc21 pm21 an21 cd21 ct21), sl21⟩) (c21 : PySem.W.codeIn K cd21 "disorder" = true) (k21 : PySem.W.keepIn K (.ref f21) = true)
    {f22 : Addr} {od22 an22 : Option Addr} {sl22 : Array (Option Value)} {oc22 kV22 dc22 pm22 cd22 ct22 : Value}
    (a22 : PySem.W.nsIn K mainGlobals "_law_disorder" = some (some (.ref f22))) (l22 : K.lookup f22 = some ⟨oc22, od22, .func (PySem.W.fnOf "_law_disorder" "_law_disorder" (defArgs st__law_disorder) (defBody st__law_disorder) (defScope st__law_disorder) .none kV22 dc22 pm22 an22 cd22 ct22), sl22⟩) (c22 : PySem.W.codeIn K cd22 "_law_disorder" = true) (k22 : PySem.W.keepIn K (.ref f22) = true)
    {f23 : Addr} {od23 an23 : Option Addr} {sl23 : Array (Option Value)} {oc23 kV23 dc23 pm23 cd23 ct23 : Value}
    (a23 : PySem.W.nsIn K mainGlobals "_law_row_right" = some (some (.ref f23))) (l23 : K.lookup f23 = some ⟨oc23, od23, .func (PySem.W.fnOf "_law_row_right" "_law_row_right" (defArgs st__law_row_right) (defBody st__law_row_right) (defScope st__law_row_right) .none kV23 dc23 pm23 an23 cd23 ct23), sl23⟩) (c23 : PySem.W.codeIn K cd23 "_law_row_right" = true) (k23 : PySem.W.keepIn K (.ref f23) = true)
    {f24 : Addr} {od24 an24 : Option Addr} {sl24 : Array (Option Value)} {oc24 kV24 dc24 pm24 cd24 ct24 : Value}
    (a24 : PySem.W.nsIn K mainGlobals "sorter_ok" = some (some (.ref f24))) (l24 : K.lookup f24 = some ⟨oc24, od24, .func (PySem.W.fnOf "sorter_ok" "sorter_ok" (defArgs st_sorter_ok) (defBody st_sorter_ok) (defScope st_sorter_ok) .none kV24 dc24 pm24 an24 cd24 ct24), sl24⟩) (c24 : PySem.W.codeIn K cd24 "sorter_ok" = true) (k24 : PySem.W.keepIn K (.ref f24) = true)
    {f25 : Addr} {od25 an25 : Option Addr} {sl25 : Array (Option Value)} {oc25 kV25 dc25 pm25 cd25 ct25 : Value}
    (a25 : PySem.W.nsIn K mainGlobals "is_sorter" = some (some (.ref f25))) (l25 : K.lookup f25 = some ⟨oc25, od25, .func (PySem.W.fnOf "is_sorter" "is_sorter" (defArgs st_is_sorter) (defBody st_is_sorter) (defScope st_is_sorter) .none kV25 dc25 pm25 an25 cd25 ct25), sl25⟩) (c25 : PySem.W.codeIn K cd25 "is_sorter" = true) (k25 : PySem.W.keepIn K (.ref f25) = true)
    {f26 : Addr} {od26 an26 : Option Addr} {sl26 : Array (Option Value)} {oc26 kV26 dc26 pm26 cd26 ct26 : Value}
    (a26 : PySem.W.nsIn K mainGlobals "_law_values_right" = some (some (.ref f26))) (l26 : K.lookup f26 = some ⟨oc26, od26, .func (PySem.W.fnOf "_law_values_right" "_law_values_right" (defArgs st__law_values_right) (defBody st__law_values_right) (defScope st__law_values_right) .none kV26 dc26 pm26 an26 cd26 ct26), sl26⟩) (c26 : PySem.W.codeIn K cd26 "_law_values_right" = true) (k26 : PySem.W.keepIn K (.ref f26) = true)
    {f27 : Addr} {od27 an27 : Option Addr} {sl27 : Array (Option Value)} {oc27 kV27 dc27 pm27 cd27 ct27 : Value}
    (a27 : PySem.W.nsIn K mainGlobals "law" = some (some (.ref f27))) (l27 : K.lookup f27 = some ⟨oc27, od27, .func (PySem.W.fnOf "law" "law" (defArgs st_law) (defBody st_law) (defScope st_law) .none kV27 dc27 pm27 an27 cd27 ct27), sl27⟩) (c27 : PySem.W.codeIn K cd27 "law" = true) (k27 : PySem.W.keepIn K (.ref f27) = true)
    (z0 : PySem.W.nsIn K mainGlobals "abs" = some none)
    (z1 : PySem.W.nsIn K mainGlobals "all" = some none)
    (z2 : PySem.W.nsIn K mainGlobals "any" = some none)
    (z3 : PySem.W.nsIn K mainGlobals "bool" = some none)
    (z4 : PySem.W.nsIn K mainGlobals "enumerate" = some none)
    (z5 : PySem.W.nsIn K mainGlobals "int" = some none)
    (z6 : PySem.W.nsIn K mainGlobals "isinstance" = some none)
    (z7 : PySem.W.nsIn K mainGlobals "len" = some none)
    (z8 : PySem.W.nsIn K mainGlobals "list" = some none)
    (z9 : PySem.W.nsIn K mainGlobals "range" = some none)
    (z10 : PySem.W.nsIn K mainGlobals "sorted" = some none)
    (z11 : PySem.W.nsIn K mainGlobals "str" = some none)
    (z12 : PySem.W.nsIn K mainGlobals "sum" = some none)
    (z13 : PySem.W.nsIn K mainGlobals "tuple" = some none)
    (z14 : PySem.W.nsIn K mainGlobals "zip" = some none)
    {tg0 : Tok} (y0 : PySem.W.nsIn K mainGlobals "LEAST_LINES" = some (some (.int 2 tg0)))
    {tg1 : Tok} (y1 : PySem.W.nsIn K mainGlobals "MOST_COMPARERS" = some (some (.int 60 tg1)))
    : ∃ fd : FuncData, (∀ (s : Shared) (u : Value), BindsTo s fd ⟨[u], []⟩ [("script", u)]) ∧ ∀ b : Heap, K.In b → b.Ns mainGlobals mg → FnA l.prog w K mg b 9 fa fd ["script"] (spG K 1 fn_law) := by
  have M : Mg mg := ⟨PySem.W.mg_none_of X G z0, PySem.W.mg_none_of X G z1, PySem.W.mg_none_of X G z2, PySem.W.mg_none_of X G z3, PySem.W.mg_none_of X G z4, PySem.W.mg_none_of X G z5, PySem.W.mg_none_of X G z6, PySem.W.mg_none_of X G z7, PySem.W.mg_none_of X G z8, PySem.W.mg_none_of X G z9, PySem.W.mg_none_of X G z10, PySem.W.mg_none_of X G z11, PySem.W.mg_none_of X G z12, PySem.W.mg_none_of X G z13, PySem.W.mg_none_of X G z14, ⟨_, PySem.W.mg_of X G y0⟩, ⟨_, PySem.W.mg_of X G y1⟩⟩
  refine ⟨(PySem.W.fnOf "law" "law" (defArgs st_law) (defBody st_law) (defScope st_law) .none kV27 dc27 pm27 an27 cd27 ct27), fun s u => .of_eq rfl, fun b _ _ => ?_⟩
  have D0 : Dfn K mg "_law_wheel" st__law_wheel f0 _ := ⟨⟨_, _, _, _, _, _, _, _, _, _, rfl, l0, c0⟩, k0, PySem.W.mg_of X G a0⟩
  have C0 := w__law_wheel (P := l.prog) (w := w) (base := b) M  D0
  have D1 : Dfn K mg "_law_turn" st__law_turn f1 _ := ⟨⟨_, _, _, _, _, _, _, _, _, _, rfl, l1, c1⟩, k1, PySem.W.mg_of X G a1⟩
  have C1 := w__law_turn (P := l.prog) (w := w) (base := b) M  D1
  have D2 : Dfn K mg "_law_sorter" st__law_sorter f2 _ := ⟨⟨_, _, _, _, _, _, _, _, _, _, rfl, l2, c2⟩, k2, PySem.W.mg_of X G a2⟩
  have C2 := w__law_sorter (P := l.prog) (w := w) (base := b) M C1 bk0 D2
  have D3 : Dfn K mg "_law_choice" st__law_choice f3 _ := ⟨⟨_, _, _, _, _, _, _, _, _, _, rfl, l3, c3⟩, k3, PySem.W.mg_of X G a3⟩
  have C3 := w__law_choice (P := l.prog) (w := w) (base := b) M C1 bk0 D3
  have D4 : Dfn K mg "_law_drawn_row" st__law_drawn_row f4 _ := ⟨⟨_, _, _, _, _, _, _, _, _, _, rfl, l4, c4⟩, k4, PySem.W.mg_of X G a4⟩
  have C4 := w__law_drawn_row (P := l.prog) (w := w) (base := b) M C1 bk0 D4
  have D5 : Dfn K mg "_law_behind" st__law_behind f5 _ := ⟨⟨_, _, _, _, _, _, _, _, _, _, rfl, l5, c5⟩, k5, PySem.W.mg_of X G a5⟩
  have C5 := w__law_behind (P := l.prog) (w := w) (base := b) M  D5
  have D6 : Dfn K mg "is_whole" st_is_whole f6 _ := ⟨⟨_, _, _, _, _, _, _, _, _, _, rfl, l6, c6⟩, k6, PySem.W.mg_of X G a6⟩
  have C6 := w_is_whole (P := l.prog) (w := w) (base := b) M  D6
  have D7 : Dfn K mg "is_between" st_is_between f7 _ := ⟨⟨_, _, _, _, _, _, _, _, _, _, rfl, l7, c7⟩, k7, PySem.W.mg_of X G a7⟩
  have C7 := w_is_between (P := l.prog) (w := w) (base := b) M C6 bk1 D7
  have D8 : Dfn K mg "check_lines" st_check_lines f8 _ := ⟨⟨_, _, _, _, _, _, _, _, _, _, rfl, l8, c8⟩, k8, PySem.W.mg_of X G a8⟩
  have C8 := w_check_lines (P := l.prog) (w := w) (base := b) M C7 bk2 D8
  have D9 : Dfn K mg "comparer_ok" st_comparer_ok f9 _ := ⟨⟨_, _, _, _, _, _, _, _, _, _, rfl, l9, c9⟩, k9, PySem.W.mg_of X G a9⟩
  have C9 := w_comparer_ok (P := l.prog) (w := w) (base := b) M C7 bk2 D9
  have D10 : Dfn K mg "first_wrong_comparer" st_first_wrong_comparer f10 _ := ⟨⟨_, _, _, _, _, _, _, _, _, _, rfl, l10, c10⟩, k10, PySem.W.mg_of X G a10⟩
  have C10 := w_first_wrong_comparer (P := l.prog) (w := w) (base := b) M C9 bk3 D10
  have D11 : Dfn K mg "check_sorter" st_check_sorter f11 _ := ⟨⟨_, _, _, _, _, _, _, _, _, _, rfl, l11, c11⟩, k11, PySem.W.mg_of X G a11⟩
  have C11 := w_check_sorter (P := l.prog) (w := w) (base := b) M C10 bk4 D11
  have D12 : Dfn K mg "check_lined" st_check_lined f12 _ := ⟨⟨_, _, _, _, _, _, _, _, _, _, rfl, l12, c12⟩, k12, PySem.W.mg_of X G a12⟩
  have C12 := w_check_lined (P := l.prog) (w := w) (base := b) M C8 C11 (bk5 e8) bk6 D12
  have D13 : Dfn K mg "check_row" st_check_row f13 _ := ⟨⟨_, _, _, _, _, _, _, _, _, _, rfl, l13, c13⟩, k13, PySem.W.mg_of X G a13⟩
  have C13 := w_check_row (P := l.prog) (w := w) (base := b) M C6 bk1 D13
  have D14 : Dfn K mg "behind_comparer" st_behind_comparer f14 _ := ⟨⟨_, _, _, _, _, _, _, _, _, _, rfl, l14, c14⟩, k14, PySem.W.mg_of X G a14⟩
  have C14 := w_behind_comparer (P := l.prog) (w := w) (base := b) M  D14
  have D15 : Dfn K mg "run_by" st_run_by f15 _ := ⟨⟨_, _, _, _, _, _, _, _, _, _, rfl, l15, c15⟩, k15, PySem.W.mg_of X G a15⟩
  have C15 := w_run_by (P := l.prog) (w := w) (base := b) M C14 bk7 D15
  have D16 : Dfn K mg "sorted_by" st_sorted_by f16 _ := ⟨⟨_, _, _, _, _, _, _, _, _, _, rfl, l16, c16⟩, k16, PySem.W.mg_of X G a16⟩
  have C16 := w_sorted_by (P := l.prog) (w := w) (base := b) M C12 C13 C15 bk8 bk9 bk10 D16
  have D17 : Dfn K mg "_law_fits" st__law_fits f17 _ := ⟨⟨_, _, _, _, _, _, _, _, _, _, rfl, l17, c17⟩, k17, PySem.W.mg_of X G a17⟩
  have C17 := w__law_fits (P := l.prog) (w := w) (base := b) M  D17
  have D18 : Dfn K mg "is_rising" st_is_rising f18 _ := ⟨⟨_, _, _, _, _, _, _, _, _, _, rfl, l18, c18⟩, k18, PySem.W.mg_of X G a18⟩
  have C18 := w_is_rising (P := l.prog) (w := w) (base := b) M  D18
  have D19 : Dfn K mg "does_sort" st_does_sort f19 _ := ⟨⟨_, _, _, _, _, _, _, _, _, _, rfl, l19, c19⟩, k19, PySem.W.mg_of X G a19⟩
  have C19 := w_does_sort (P := l.prog) (w := w) (base := b) M C12 C13 C18 C15 bk8 bk9 bk11 bk10 D19
  have D20 : Dfn K mg "disorder_by" st_disorder_by f20 _ := ⟨⟨_, _, _, _, _, _, _, _, _, _, rfl, l20, c20⟩, k20, PySem.W.mg_of X G a20⟩
  have C20 := w_disorder_by (P := l.prog) (w := w) (base := b) M  D20
  have D21 : Dfn K mg "disorder" st_disorder f21 _ := ⟨⟨_, _, _, _, _, _, _, _, _, _, rfl, l21, c21⟩, k21, PySem.W.mg_of X G a21⟩
  have C21 := w_disorder (P := l.prog) (w := w) (base := b) M C8 C13 C20 (bk5 e8) bk9 bk12 D21
  have D22 : Dfn K mg "_law_disorder" st__law_disorder f22 _ := ⟨⟨_, _, _, _, _, _, _, _, _, _, rfl, l22, c22⟩, k22, PySem.W.mg_of X G a22⟩
  have C22 := w__law_disorder (P := l.prog) (w := w) (base := b) M  D22
  have D23 : Dfn K mg "_law_row_right" st__law_row_right f23 _ := ⟨⟨_, _, _, _, _, _, _, _, _, _, rfl, l23, c23⟩, k23, PySem.W.mg_of X G a23⟩
  have C23 := w__law_row_right (P := l.prog) (w := w) (base := b) M C4 C1 C5 C16 C17 C19 C21 C22 bk13 bk0 bk14 bk15 bk16 bk17 bk18 bk19 bk20 bk21 bk22 D23
  have D24 : Dfn K mg "sorter_ok" st_sorter_ok f24 _ := ⟨⟨_, _, _, _, _, _, _, _, _, _, rfl, l24, c24⟩, k24, PySem.W.mg_of X G a24⟩
  have C24 := w_sorter_ok (P := l.prog) (w := w) (base := b) M C10 bk4 D24
  have D25 : Dfn K mg "is_sorter" st_is_sorter f25 _ := ⟨⟨_, _, _, _, _, _, _, _, _, _, rfl, l25, c25⟩, k25, PySem.W.mg_of X G a25⟩
  have C25 := w_is_sorter (P := l.prog) (w := w) (base := b) M C8 C24 (bk5 e8) bk23 D25
  have D26 : Dfn K mg "_law_values_right" st__law_values_right f26 _ := ⟨⟨_, _, _, _, _, _, _, _, _, _, rfl, l26, c26⟩, k26, PySem.W.mg_of X G a26⟩
  have C26 := w__law_values_right (P := l.prog) (w := w) (base := b) M C25 C17 bk24 bk17 bk25 D26
  have D27 : Dfn K mg "law" st_law f27 _ := ⟨⟨_, _, _, _, _, _, _, _, _, _, rfl, l27, c27⟩, k27, PySem.W.mg_of X G a27⟩
  have C27 := w_law (P := l.prog) (w := w) (base := b) M C0 C1 C2 C3 C23 C26 bk26 bk0 bk27 bk28 bk29 bk30 D27
  obtain ⟨f, F, e, _⟩ := C27.ex
  cases e.symm.trans hfa
  exact F
end T51

namespace T51
open L2 L2.G PySem PySem.Spec PyProof.Rows
theorem cl_is_whole : Cl fn_is_whole := ⟨_, _, rfl⟩
theorem cl_is_between : Cl fn_is_between := ⟨_, _, rfl⟩
theorem cl_comparer_ok : Cl fn_comparer_ok := ⟨_, _, rfl⟩
def isInt : D → Bool
  | .int _ => true
  | _ => false
theorem isI_int (d : D) : isI "int" d = (match d with | .int _ => true | .bool _ => true | _ => false) := by
  cases d <;> rfl
theorem isI_bool (d : D) : isI "bool" d = (match d with | .bool _ => true | _ => false) := by
  cases d <;> rfl
theorem isI_tuple (d : D) : isI "tuple" d = (match d with | .tuple _ => true | _ => false) := by
  cases d <;> rfl
theorem is_whole_v (d : D) : ap fn_is_whole [d] = some (.bool (isInt d)) := by
  refine (ap_def _).trans ?_
  cases d <;> simp (config := {maxSteps := 3000000}) [rD, env0, sizeLine_eq, dSeq, dSkip, dRet, dIfS, dAsg, dAsgL, dAsgT, dDrop, dNo, dVar, dC, dBin, dOp, dB, dNot, dAnd, dOr, dAndV, dOrV, dNotV, dIsi, dChain2, dCh, dChE, dTup, dItems, asD, dLst, dConsD, dCons, dNil, R.bind, R.then, slD, free, tgN, tgT, tgCons, tgNil, oVal, oS, rsv, rsvs, dCb, gLe, gLt, gGt, gGe, gI0, gI, gMinus, gAdd, gIx, gLen, asSeq, asLs, gTuple, gList, gIsX, isNonA, dSome, dNone, dSl, gSl, vR, g_is_whole, isI_int, isI_bool, isInt]
theorem is_between_v (v lo hi : Int) : ap fn_is_between [.int v, .int lo, .int hi] = some (.bool (decide (lo ≤ v) && decide (v ≤ hi))) := by
  refine (ap_def _).trans ?_
  by_cases h1 : lo ≤ v <;> simp (config := {maxSteps := 3000000}) [rD, env0, sizeLine_eq, dSeq, dSkip, dRet, dIfS, dAsg, dAsgL, dAsgT, dDrop, dNo, dVar, dC, dBin, dOp, dB, dNot, dAnd, dOr, dAndV, dOrV, dNotV, dIsi, dChain2, dCh, dChE, dTup, dItems, asD, dLst, dConsD, dCons, dNil, R.bind, R.then, slD, free, tgN, tgT, tgCons, tgNil, oVal, oS, rsv, rsvs, dCb, gLe, gLt, gGt, gGe, gI0, gI, gMinus, gAdd, gIx, gLen, asSeq, asLs, gTuple, gList, gIsX, isNonA, dSome, dNone, dSl, gSl, vR, g_is_between, dcl1 cl_is_whole, is_whole_v, isInt, h1]
theorem is_between_o (d lo hi : D) (h : isInt d = false) : ap fn_is_between [d, lo, hi] = some (.bool false) := by
  refine (ap_def _).trans ?_
  simp (config := {maxSteps := 3000000}) [rD, env0, sizeLine_eq, dSeq, dSkip, dRet, dIfS, dAsg, dAsgL, dAsgT, dDrop, dNo, dVar, dC, dBin, dOp, dB, dNot, dAnd, dOr, dAndV, dOrV, dNotV, dIsi, dChain2, dCh, dChE, dTup, dItems, asD, dLst, dConsD, dCons, dNil, R.bind, R.then, slD, free, tgN, tgT, tgCons, tgNil, oVal, oS, rsv, rsvs, dCb, gLe, gLt, gGt, gGe, gI0, gI, gMinus, gAdd, gIx, gLen, asSeq, asLs, gTuple, gList, gIsX, isNonA, dSome, dNone, dSl, gSl, vR, g_is_between, dcl1 cl_is_whole, is_whole_v, h]

/-! ## comparers -/
abbrev tI (l : List Int) : D := .tuple (l.map .int)
abbrev pD (p : Nat × Nat) : D := .tuple [.int p.1, .int p.2]
abbrev tS (s : List (Nat × Nat)) : D := .tuple (s.map pD)
def okP (n : Nat) (p : Nat × Nat) : Prop := p.1 < p.2 ∧ p.2 < n
def cOk (n : Int) : D → Bool
  | .tuple [.int x, .int y] => (decide (0 ≤ x) && decide (x ≤ n - 1)) && (decide (x + 1 ≤ y) && decide (y ≤ n - 1))
  | _ => false
theorem comparer_ok_v (n x y : Int) : ap fn_comparer_ok [.int n, .tuple [.int x, .int y]] = some (.bool (cOk n (.tuple [.int x, .int y]))) := by
  refine (ap_def _).trans ?_
  cases h1 : (decide (0 ≤ x) && decide (x ≤ n - 1)) <;>
  simp (config := {maxSteps := 3000000}) [rD, env0, sizeLine_eq, dSeq, dSkip, dRet, dIfS, dAsg, dAsgL, dAsgT, dDrop, dNo, dVar, dC, dBin, dOp, dB, dNot, dAnd, dOr, dAndV, dOrV, dNotV, dIsi, dChain2, dCh, dChE, dTup, dItems, asD, dLst, dConsD, dCons, dNil, R.bind, R.then, slD, free, tgN, tgT, tgCons, tgNil, oVal, oS, rsv, rsvs, dCb, gLe, gLt, gGt, gGe, gI0, gI, gMinus, gAdd, gIx, gLen, asSeq, asLs, gTuple, gList, gIsX, isNonA, dSome, dNone, dSl, gSl, vR, g_comparer_ok, dcl3 cl_is_between, is_between_v, isI_tuple, gE, toD, PyData.eqv, SeqAt.shaped, PyData.canLay0, PyData.depth, sizeLine_eq, atI, ixN, cOk, h1]
theorem comparer_ok_all (n : Int) (v : D) : ap fn_comparer_ok [.int n, v] = some (.bool (cOk n v)) := by
  cases v with
  | tuple ds =>
    match ds with
    | [] => refine (ap_def _).trans ?_; simp (config := {maxSteps := 3000000}) [rD, env0, sizeLine_eq, dSeq, dSkip, dRet, dIfS, dAsg, dAsgL, dAsgT, dDrop, dNo, dVar, dC, dBin, dOp, dB, dNot, dAnd, dOr, dAndV, dOrV, dNotV, dIsi, dChain2, dCh, dChE, dTup, dItems, asD, dLst, dConsD, dCons, dNil, R.bind, R.then, slD, free, tgN, tgT, tgCons, tgNil, oVal, oS, rsv, rsvs, dCb, gLe, gLt, gGt, gGe, gI0, gI, gMinus, gAdd, gIx, gLen, asSeq, asLs, gTuple, gList, gIsX, isNonA, dSome, dNone, dSl, gSl, vR, g_comparer_ok, isI_tuple, gE, toD, PyData.eqv, SeqAt.shaped, PyData.canLay0, PyData.depth, sizeLine_eq, cOk]
    | [x] => refine (ap_def _).trans ?_; simp (config := {maxSteps := 3000000}) [rD, env0, sizeLine_eq, dSeq, dSkip, dRet, dIfS, dAsg, dAsgL, dAsgT, dDrop, dNo, dVar, dC, dBin, dOp, dB, dNot, dAnd, dOr, dAndV, dOrV, dNotV, dIsi, dChain2, dCh, dChE, dTup, dItems, asD, dLst, dConsD, dCons, dNil, R.bind, R.then, slD, free, tgN, tgT, tgCons, tgNil, oVal, oS, rsv, rsvs, dCb, gLe, gLt, gGt, gGe, gI0, gI, gMinus, gAdd, gIx, gLen, asSeq, asLs, gTuple, gList, gIsX, isNonA, dSome, dNone, dSl, gSl, vR, g_comparer_ok, isI_tuple, gE, toD, PyData.eqv, SeqAt.shaped, PyData.canLay0, PyData.depth, sizeLine_eq, cOk]
    | [x, y] =>
      cases hx : isInt x with
      | false =>
        have e : cOk n (.tuple [x, y]) = false := by cases x <;> first | rfl | cases hx
        rw [e]
        refine (ap_def _).trans ?_
        simp (config := {maxSteps := 3000000}) [rD, env0, sizeLine_eq, dSeq, dSkip, dRet, dIfS, dAsg, dAsgL, dAsgT, dDrop, dNo, dVar, dC, dBin, dOp, dB, dNot, dAnd, dOr, dAndV, dOrV, dNotV, dIsi, dChain2, dCh, dChE, dTup, dItems, asD, dLst, dConsD, dCons, dNil, R.bind, R.then, slD, free, tgN, tgT, tgCons, tgNil, oVal, oS, rsv, rsvs, dCb, gLe, gLt, gGt, gGe, gI0, gI, gMinus, gAdd, gIx, gLen, asSeq, asLs, gTuple, gList, gIsX, isNonA, dSome, dNone, dSl, gSl, vR, g_comparer_ok, dcl3 cl_is_between, is_between_o x _ _ hx, isI_tuple, gE, toD, PyData.eqv, SeqAt.shaped, PyData.canLay0, PyData.depth, sizeLine_eq, atI, ixN]
      | true =>
        obtain ⟨i, rfl⟩ : ∃ i, x = .int i := by cases x <;> first | exact ⟨_, rfl⟩ | cases hx
        cases hy : isInt y with
        | true =>
          obtain ⟨j, rfl⟩ : ∃ i, y = .int i := by cases y <;> first | exact ⟨_, rfl⟩ | cases hy
          exact comparer_ok_v n i j
        | false =>
          have e : cOk n (.tuple [.int i, y]) = false := by cases y <;> first | rfl | cases hy
          rw [e]
          refine (ap_def _).trans ?_
          cases h1 : (decide (0 ≤ i) && decide (i ≤ n - 1)) <;>
          simp (config := {maxSteps := 3000000}) [rD, env0, sizeLine_eq, dSeq, dSkip, dRet, dIfS, dAsg, dAsgL, dAsgT, dDrop, dNo, dVar, dC, dBin, dOp, dB, dNot, dAnd, dOr, dAndV, dOrV, dNotV, dIsi, dChain2, dCh, dChE, dTup, dItems, asD, dLst, dConsD, dCons, dNil, R.bind, R.then, slD, free, tgN, tgT, tgCons, tgNil, oVal, oS, rsv, rsvs, dCb, gLe, gLt, gGt, gGe, gI0, gI, gMinus, gAdd, gIx, gLen, asSeq, asLs, gTuple, gList, gIsX, isNonA, dSome, dNone, dSl, gSl, vR, g_comparer_ok, dcl3 cl_is_between, is_between_v, is_between_o y _ _ hy, isI_tuple, gE, toD, PyData.eqv, SeqAt.shaped, PyData.canLay0, PyData.depth, sizeLine_eq, atI, ixN, h1]
    | x :: y :: z :: r =>
      have e : cOk n (.tuple (x :: y :: z :: r)) = false := by cases x <;> first | rfl | (cases y <;> rfl)
      rw [e]
      refine (ap_def _).trans ?_
      have e3 : ((((r.length : Nat) : Int) + 1 + 1 + 1) == (2 : Int)) = false := by rw [beq_eq_false_iff_ne]; omega
      simp (config := {maxSteps := 3000000}) [rD, env0, sizeLine_eq, dSeq, dSkip, dRet, dIfS, dAsg, dAsgL, dAsgT, dDrop, dNo, dVar, dC, dBin, dOp, dB, dNot, dAnd, dOr, dAndV, dOrV, dNotV, dIsi, dChain2, dCh, dChE, dTup, dItems, asD, dLst, dConsD, dCons, dNil, R.bind, R.then, slD, free, tgN, tgT, tgCons, tgNil, oVal, oS, rsv, rsvs, dCb, gLe, gLt, gGt, gGe, gI0, gI, gMinus, gAdd, gIx, gLen, asSeq, asLs, gTuple, gList, gIsX, isNonA, dSome, dNone, dSl, gSl, vR, g_comparer_ok, isI_tuple, gE, toD, PyData.eqv, SeqAt.shaped, PyData.canLay0, PyData.depth, sizeLine_eq, e3]
  | _ => refine (ap_def _).trans ?_; simp (config := {maxSteps := 3000000}) [rD, env0, sizeLine_eq, dSeq, dSkip, dRet, dIfS, dAsg, dAsgL, dAsgT, dDrop, dNo, dVar, dC, dBin, dOp, dB, dNot, dAnd, dOr, dAndV, dOrV, dNotV, dIsi, dChain2, dCh, dChE, dTup, dItems, asD, dLst, dConsD, dCons, dNil, R.bind, R.then, slD, free, tgN, tgT, tgCons, tgNil, oVal, oS, rsv, rsvs, dCb, gLe, gLt, gGt, gGe, gI0, gI, gMinus, gAdd, gIx, gLen, asSeq, asLs, gTuple, gList, gIsX, isNonA, dSome, dNone, dSl, gSl, vR, g_comparer_ok, isI_tuple, cOk]
theorem cl_comparer_ok' : Cl fn_comparer_ok := ⟨_, _, rfl⟩
def firstBad (n : Int) : List D → Nat → Option Nat
  | [], _ => none
  | v :: vs, k => if k = 60 ∨ cOk n v = false then some k else firstBad n vs (k + 1)
abbrev oV (o : Option D) : Option Sl := o.map Sl.val
theorem fw_loop (n : Int) (V : D) : ∀ (vs : List D) (k : Nat) (a b : Option D),
    (∀ j, firstBad n vs k = some j → ∃ ρ, loop (tgT 2 (tgCons (tgN 2) (tgCons (tgN 3) (tgNil)))) (dIfS (dOr (dB (dBin gEq (dVar 2) (dC d_MOST_COMPARERS))) (dNot (dB (dCl fn_comparer_ok (dConsD (dVar 0) (dConsD (dVar 3) (dNil))) dNil [0, 1] [])))) (dRet (dVar 2)) (dSkip)) [] ((vs.zipIdx k).map fun p => PyData.tuple [.int (p.2 : Nat), p.1]) [some (.val (.int n)), some (.val V), oV a, oV b] = .ret (.int (j : Nat)) ρ) ∧
    (firstBad n vs k = none → ∃ ρ, loop (tgT 2 (tgCons (tgN 2) (tgCons (tgN 3) (tgNil)))) (dIfS (dOr (dB (dBin gEq (dVar 2) (dC d_MOST_COMPARERS))) (dNot (dB (dCl fn_comparer_ok (dConsD (dVar 0) (dConsD (dVar 3) (dNil))) dNil [0, 1] [])))) (dRet (dVar 2)) (dSkip)) [] ((vs.zipIdx k).map fun p => PyData.tuple [.int (p.2 : Nat), p.1]) [some (.val (.int n)), some (.val V), oV a, oV b] = .nx ρ)
  | [], k, a, b => ⟨(fun j h => by cases h), fun _ => ⟨_, loop_nil⟩⟩
  | v :: vs, k, a, b => by
    have hb : tgT 2 (tgCons (tgN 2) (tgCons (tgN 3) (tgNil))) (PyData.tuple [.int (k : Nat), v]) [some (.val (.int n)), some (.val V), oV a, oV b] = .ok () [some (.val (.int n)), some (.val V), some (.val (.int (k : Nat))), some (.val v)] := by
      cases a <;> cases b <;> simp (config := {maxSteps := 3000000}) [rD, env0, sizeLine_eq, dSeq, dSkip, dRet, dIfS, dAsg, dAsgL, dAsgT, dDrop, dNo, dVar, dC, dBin, dOp, dB, dNot, dAnd, dOr, dAndV, dOrV, dNotV, dIsi, dChain2, dCh, dChE, dTup, dItems, asD, dLst, dConsD, dCons, dNil, R.bind, R.then, slD, free, tgN, tgT, tgCons, tgNil, oVal, oS, rsv, rsvs, dCb, gLe, gLt, gGt, gGe, gI0, gI, gMinus, gAdd, gIx, gLen, asSeq, asLs, gTuple, gList, gIsX, isNonA, dSome, dNone, dSl, gSl, vR, oV]
    have ih := fw_loop n V vs (k + 1) (some (.int (k : Nat))) (some v)
    rw [List.zipIdx_cons, List.map_cons, loop_cons hb]
    have e60 : (((k : Nat) : Int) == 60) = decide (k = 60) := by
      by_cases z : k = 60
      · subst z; rfl
      · rw [decide_eq_false z, beq_eq_false_iff_ne]; omega
    by_cases h : k = 60 ∨ cOk n v = false
    · have e : firstBad n (v :: vs) k = some k := if_pos h
      rw [e]
      refine ⟨fun j hj => ?_, fun hj => by cases hj⟩
      cases hj
      refine ⟨[some (.val (.int n)), some (.val V), some (.val (.int (k : Nat))), some (.val v)], ?_⟩
      rcases h with h | h
      · simp (config := {maxSteps := 3000000}) [rD, env0, sizeLine_eq, dSeq, dSkip, dRet, dIfS, dAsg, dAsgL, dAsgT, dDrop, dNo, dVar, dC, dBin, dOp, dB, dNot, dAnd, dOr, dAndV, dOrV, dNotV, dIsi, dChain2, dCh, dChE, dTup, dItems, asD, dLst, dConsD, dCons, dNil, R.bind, R.then, slD, free, tgN, tgT, tgCons, tgNil, oVal, oS, rsv, rsvs, dCb, gLe, gLt, gGt, gGe, gI0, gI, gMinus, gAdd, gIx, gLen, asSeq, asLs, gTuple, gList, gIsX, isNonA, dSome, dNone, dSl, gSl, vR, d_MOST_COMPARERS, gE, toD, PyData.eqv, SeqAt.shaped, PyData.canLay0, PyData.depth, e60, h]
      · by_cases z : k = 60
        · simp (config := {maxSteps := 3000000}) [rD, env0, sizeLine_eq, dSeq, dSkip, dRet, dIfS, dAsg, dAsgL, dAsgT, dDrop, dNo, dVar, dC, dBin, dOp, dB, dNot, dAnd, dOr, dAndV, dOrV, dNotV, dIsi, dChain2, dCh, dChE, dTup, dItems, asD, dLst, dConsD, dCons, dNil, R.bind, R.then, slD, free, tgN, tgT, tgCons, tgNil, oVal, oS, rsv, rsvs, dCb, gLe, gLt, gGt, gGe, gI0, gI, gMinus, gAdd, gIx, gLen, asSeq, asLs, gTuple, gList, gIsX, isNonA, dSome, dNone, dSl, gSl, vR, d_MOST_COMPARERS, gE, toD, PyData.eqv, SeqAt.shaped, PyData.canLay0, PyData.depth, e60, z]
        · simp (config := {maxSteps := 3000000}) [rD, env0, sizeLine_eq, dSeq, dSkip, dRet, dIfS, dAsg, dAsgL, dAsgT, dDrop, dNo, dVar, dC, dBin, dOp, dB, dNot, dAnd, dOr, dAndV, dOrV, dNotV, dIsi, dChain2, dCh, dChE, dTup, dItems, asD, dLst, dConsD, dCons, dNil, R.bind, R.then, slD, free, tgN, tgT, tgCons, tgNil, oVal, oS, rsv, rsvs, dCb, gLe, gLt, gGt, gGe, gI0, gI, gMinus, gAdd, gIx, gLen, asSeq, asLs, gTuple, gList, gIsX, isNonA, dSome, dNone, dSl, gSl, vR, d_MOST_COMPARERS, gE, toD, PyData.eqv, SeqAt.shaped, PyData.canLay0, PyData.depth, e60, z, dcl2 cl_comparer_ok', comparer_ok_all, h]
    · have e : firstBad n (v :: vs) k = firstBad n vs (k + 1) := if_neg h
      rw [e]
      have h1 : ¬ k = 60 := fun z => h (.inl z)
      have h2 : cOk n v = true := by cases z : cOk n v <;> first | rfl | exact absurd (.inr z) h
      have step : dIfS (dOr (dB (dBin gEq (dVar 2) (dC d_MOST_COMPARERS))) (dNot (dB (dCl fn_comparer_ok (dConsD (dVar 0) (dConsD (dVar 3) (dNil))) dNil [0, 1] [])))) (dRet (dVar 2)) (dSkip) [some (.val (.int n)), some (.val V), some (.val (.int (k : Nat))), some (.val v)] = .nx [some (.val (.int n)), some (.val V), some (.val (.int (k : Nat))), some (.val v)] := by
        simp (config := {maxSteps := 3000000}) [rD, env0, sizeLine_eq, dSeq, dSkip, dRet, dIfS, dAsg, dAsgL, dAsgT, dDrop, dNo, dVar, dC, dBin, dOp, dB, dNot, dAnd, dOr, dAndV, dOrV, dNotV, dIsi, dChain2, dCh, dChE, dTup, dItems, asD, dLst, dConsD, dCons, dNil, R.bind, R.then, slD, free, tgN, tgT, tgCons, tgNil, oVal, oS, rsv, rsvs, dCb, gLe, gLt, gGt, gGe, gI0, gI, gMinus, gAdd, gIx, gLen, asSeq, asLs, gTuple, gList, gIsX, isNonA, dSome, dNone, dSl, gSl, vR, d_MOST_COMPARERS, gE, toD, PyData.eqv, SeqAt.shaped, PyData.canLay0, PyData.depth, e60, h1, dcl2 cl_comparer_ok', comparer_ok_all, h2]
      rw [step]
      exact ih
theorem first_wrong_v (n : Int) (vs : List D) : ap fn_first_wrong_comparer [.int n, .tuple vs] = some (match firstBad n vs 0 with
    | none => .none
    | some j => .int (j : Nat)) := by
  refine (ap_def _).trans ?_
  have L := fw_loop n (.tuple vs) vs 0 none none
  have eI : (dEn (dVar 1)) [some (.val (.int n)), some (.val (.tuple vs)), none, none] = .ok ((vs.zipIdx 0).map fun p => PyData.tuple [.int (p.2 : Nat), p.1]) [some (.val (.int n)), some (.val (.tuple vs)), none, none] := by
    simp (config := {maxSteps := 3000000}) [rD, env0, sizeLine_eq, dSeq, dSkip, dRet, dIfS, dAsg, dAsgL, dAsgT, dDrop, dNo, dVar, dC, dBin, dOp, dB, dNot, dAnd, dOr, dAndV, dOrV, dNotV, dIsi, dChain2, dCh, dChE, dTup, dItems, asD, dLst, dConsD, dCons, dNil, R.bind, R.then, slD, free, tgN, tgT, tgCons, tgNil, oVal, oS, rsv, rsvs, dCb, gLe, gLt, gGt, gGe, gI0, gI, gMinus, gAdd, gIx, gLen, asSeq, asLs, gTuple, gList, gIsX, isNonA, dSome, dNone, dSl, gSl, vR, dEn, dIt, enumD]
  show rD (g_first_wrong_comparer [some (.val (.int n)), some (.val (.tuple vs)), none, none]) = _
  unfold g_first_wrong_comparer dSeq dFor
  rw [eI]
  simp only [R.then, forget]
  cases h : firstBad n vs 0 with
  | none =>
    obtain ⟨ρ, e⟩ := L.2 h
    simp only [oV, Option.map_none] at e
    rw [e]
    rfl
  | some j =>
    obtain ⟨ρ, e⟩ := L.1 j h
    simp only [oV, Option.map_none] at e
    rw [e]
    rfl
end T51

namespace T51
open L2 L2.G PySem PySem.Spec PyProof.Rows
theorem fb_ok (n : Int) : ∀ (vs : List D) (k : Nat), (∀ v ∈ vs, cOk n v = true) → k + vs.length ≤ 60 → firstBad n vs k = none
  | [], _, _, _ => rfl
  | v :: vs, k, h, hl => by
    have h1 : ¬ (k = 60 ∨ cOk n v = false) := by
      rintro (z | z)
      · rw [List.length_cons] at hl; omega
      · rw [h v (List.mem_cons_self ..)] at z; cases z
    unfold firstBad
    rw [if_neg h1]
    exact fb_ok n vs (k + 1) (fun x hx => h x (List.mem_cons_of_mem _ hx)) (by rw [List.length_cons] at hl; omega)
theorem fb_bad (n : Int) : ∀ (vs : List D) (k : Nat), (∃ v ∈ vs, cOk n v = false) → firstBad n vs k ≠ none
  | [], _, ⟨_, h, _⟩ => by cases h
  | v :: vs, k, ⟨x, hx, e⟩ => by
    unfold firstBad
    split
    · intro z; cases z
    · rename_i q
      cases hx with
      | head => exact absurd (.inr e) q
      | tail _ hx => exact fb_bad n vs (k + 1) ⟨x, hx, e⟩
theorem fb_long (n : Int) : ∀ (vs : List D) (k : Nat), k ≤ 60 → 60 < k + vs.length → firstBad n vs k ≠ none
  | [], k, h1, h2 => by simp only [List.length_nil] at h2; omega
  | v :: vs, k, h1, h2 => by
    unfold firstBad
    split
    · intro z; cases z
    · rename_i q
      exact fb_long n vs (k + 1) (by have : k ≠ 60 := fun z => q (.inl z); omega) (by rw [List.length_cons] at h2; omega)
theorem cl_first_wrong : Cl fn_first_wrong_comparer := ⟨_, _, rfl⟩
theorem cl_sorter_ok : Cl fn_sorter_ok := ⟨_, _, rfl⟩
theorem cl_check_lines : Cl fn_check_lines := ⟨_, _, rfl⟩
theorem cl_check_sorter : Cl fn_check_sorter := ⟨_, _, rfl⟩
theorem cl_check_lined : Cl fn_check_lined := ⟨_, _, rfl⟩
theorem cl_check_row : Cl fn_check_row := ⟨_, _, rfl⟩
theorem cl_run_by : Cl fn_run_by := ⟨_, _, rfl⟩
theorem cl_behind : Cl fn_behind_comparer := ⟨_, _, rfl⟩
theorem cl_rising : Cl fn_is_rising := ⟨_, _, rfl⟩
theorem cl_disorder_by : Cl fn_disorder_by := ⟨_, _, rfl⟩
theorem cl_is_sorter : Cl fn_is_sorter := ⟨_, _, rfl⟩
theorem cl_sorted_by : Cl fn_sorted_by := ⟨_, _, rfl⟩
theorem cl_does_sort : Cl fn_does_sort := ⟨_, _, rfl⟩
theorem cl_disorder : Cl fn_disorder := ⟨_, _, rfl⟩
def sOk (n : Int) : D → Bool
  | .tuple vs => (firstBad n vs 0).isNone
  | _ => false
theorem sorter_ok_v (n : Int) (v : D) : ap fn_sorter_ok [.int n, v] = some (.bool (sOk n v)) := by
  cases v with
  | tuple vs =>
    refine (ap_def _).trans ?_
    cases h : firstBad n vs 0 <;> simp (config := {maxSteps := 3000000}) [rD, env0, sizeLine_eq, dSeq, dSkip, dRet, dIfS, dAsg, dAsgL, dAsgT, dDrop, dNo, dVar, dC, dBin, dOp, dB, dNot, dAnd, dOr, dAndV, dOrV, dNotV, dIsi, dChain2, dCh, dChE, dTup, dItems, asD, dLst, dConsD, dCons, dNil, R.bind, R.then, slD, free, tgN, tgT, tgCons, tgNil, oVal, oS, rsv, rsvs, dCb, gLe, gLt, gGt, gGe, gI0, gI, gMinus, gAdd, gIx, gLen, asSeq, asLs, gTuple, gList, gIsX, isNonA, dSome, dNone, dSl, gSl, vR, g_sorter_ok, isI_tuple, dcl2 cl_first_wrong, first_wrong_v, h, sOk]
  | _ => refine (ap_def _).trans ?_; simp (config := {maxSteps := 3000000}) [rD, env0, sizeLine_eq, dSeq, dSkip, dRet, dIfS, dAsg, dAsgL, dAsgT, dDrop, dNo, dVar, dC, dBin, dOp, dB, dNot, dAnd, dOr, dAndV, dOrV, dNotV, dIsi, dChain2, dCh, dChE, dTup, dItems, asD, dLst, dConsD, dCons, dNil, R.bind, R.then, slD, free, tgN, tgT, tgCons, tgNil, oVal, oS, rsv, rsvs, dCb, gLe, gLt, gGt, gGe, gI0, gI, gMinus, gAdd, gIx, gLen, asSeq, asLs, gTuple, gList, gIsX, isNonA, dSome, dNone, dSl, gSl, vR, g_sorter_ok, isI_tuple, sOk]
theorem check_lines_v (n : Int) (h1 : 2 ≤ n) (h2 : n ≤ 8) : ap fn_check_lines [.int n, .int 8] = some .none := by
  refine (ap_def _).trans ?_
  simp (config := {maxSteps := 3000000}) [rD, env0, sizeLine_eq, dSeq, dSkip, dRet, dIfS, dAsg, dAsgL, dAsgT, dDrop, dNo, dVar, dC, dBin, dOp, dB, dNot, dAnd, dOr, dAndV, dOrV, dNotV, dIsi, dChain2, dCh, dChE, dTup, dItems, asD, dLst, dConsD, dCons, dNil, R.bind, R.then, slD, free, tgN, tgT, tgCons, tgNil, oVal, oS, rsv, rsvs, dCb, gLe, gLt, gGt, gGe, gI0, gI, gMinus, gAdd, gIx, gLen, asSeq, asLs, gTuple, gList, gIsX, isNonA, dSome, dNone, dSl, gSl, vR, g_check_lines, dcl3 cl_is_between, is_between_v, d_LEAST_LINES, h1, h2]
theorem is_sorter_v (n : Int) (v : D) (h1 : 2 ≤ n) (h2 : n ≤ 8) : ap fn_is_sorter [.int n, v] = some (.bool (sOk n v)) := by
  refine (ap_def _).trans ?_
  simp (config := {maxSteps := 3000000}) [rD, env0, sizeLine_eq, dSeq, dSkip, dRet, dIfS, dAsg, dAsgL, dAsgT, dDrop, dNo, dVar, dC, dBin, dOp, dB, dNot, dAnd, dOr, dAndV, dOrV, dNotV, dIsi, dChain2, dCh, dChE, dTup, dItems, asD, dLst, dConsD, dCons, dNil, R.bind, R.then, slD, free, tgN, tgT, tgCons, tgNil, oVal, oS, rsv, rsvs, dCb, gLe, gLt, gGt, gGe, gI0, gI, gMinus, gAdd, gIx, gLen, asSeq, asLs, gTuple, gList, gIsX, isNonA, dSome, dNone, dSl, gSl, vR, g_is_sorter, dcl1d cl_check_lines, check_lines_v n h1 h2, dcl2 cl_sorter_ok, sorter_ok_v]
theorem check_sorter_v (n : Int) (vs : List D) (h : firstBad n vs 0 = none) : ap fn_check_sorter [.int n, .tuple vs] = some .none := by
  refine (ap_def _).trans ?_
  simp (config := {maxSteps := 3000000}) [rD, env0, sizeLine_eq, dSeq, dSkip, dRet, dIfS, dAsg, dAsgL, dAsgT, dDrop, dNo, dVar, dC, dBin, dOp, dB, dNot, dAnd, dOr, dAndV, dOrV, dNotV, dIsi, dChain2, dCh, dChE, dTup, dItems, asD, dLst, dConsD, dCons, dNil, R.bind, R.then, slD, free, tgN, tgT, tgCons, tgNil, oVal, oS, rsv, rsvs, dCb, gLe, gLt, gGt, gGe, gI0, gI, gMinus, gAdd, gIx, gLen, asSeq, asLs, gTuple, gList, gIsX, isNonA, dSome, dNone, dSl, gSl, vR, g_check_sorter, isI_tuple, dcl2 cl_first_wrong, first_wrong_v, h]
theorem check_lined_v (n : Int) (vs : List D) (h1 : 2 ≤ n) (h2 : n ≤ 8) (h : firstBad n vs 0 = none) : ap fn_check_lined [.int n, .tuple vs] = some .none := by
  refine (ap_def _).trans ?_
  simp (config := {maxSteps := 3000000}) [rD, env0, sizeLine_eq, dSeq, dSkip, dRet, dIfS, dAsg, dAsgL, dAsgT, dDrop, dNo, dVar, dC, dBin, dOp, dB, dNot, dAnd, dOr, dAndV, dOrV, dNotV, dIsi, dChain2, dCh, dChE, dTup, dItems, asD, dLst, dConsD, dCons, dNil, R.bind, R.then, slD, free, tgN, tgT, tgCons, tgNil, oVal, oS, rsv, rsvs, dCb, gLe, gLt, gGt, gGe, gI0, gI, gMinus, gAdd, gIx, gLen, asSeq, asLs, gTuple, gList, gIsX, isNonA, dSome, dNone, dSl, gSl, vR, g_check_lined, dcl1d cl_check_lines, check_lines_v n h1 h2, dcl2 cl_check_sorter, check_sorter_v n vs h]
theorem all_isInt (row : List Int) : asBools (row.map ((fun d => PyData.bool (isInt d)) ∘ PyData.int)) = some (row.map fun _ => true) := by
  induction row with
  | nil => rfl
  | cons x r ih =>
    rw [List.map_cons]
    show (asBools (r.map ((fun d => PyData.bool (isInt d)) ∘ PyData.int))).map (true :: ·) = _
    rw [ih]
    rfl
theorem all_yes (row : List Int) : (row.all fun _ => true) = true := List.all_eq_true.mpr fun _ _ => rfl
theorem check_row_v (row : List Int) (n : Nat) (hl : row.length = n) (hn : n ≤ 8) : ap fn_check_row [.int n, tI row] = some .none := by
  refine (ap_def _).trans ?_
  have C : dLc (dIt (dVar 1)) (tgN 2) dYes (dCl fn_is_whole (dConsD (dVar 2) dNil) dNil [0] []) [2] [some (.val (.int n)), some (.val (tI row)), none] = .ok ((row.map PyData.int).map fun d => PyData.bool (isInt d)) [some (.val (.int n)), some (.val (tI row)), none] := by
    have := dLc_map (fi := dIt (dVar 1)) (ft := tgN 2) (fc := dYes) (fe := dCl fn_is_whole (dConsD (dVar 2) dNil) dNil [0] []) (vs := [2]) (ρ := [some (.val (.int n)), some (.val (tI row)), none]) (ds := row.map PyData.int) (fun _ => true) (fun d => .bool (isInt d)) (by simp (config := {maxSteps := 3000000}) [rD, env0, sizeLine_eq, dSeq, dSkip, dRet, dIfS, dAsg, dAsgL, dAsgT, dDrop, dNo, dVar, dC, dBin, dOp, dB, dNot, dAnd, dOr, dAndV, dOrV, dNotV, dIsi, dChain2, dCh, dChE, dTup, dItems, asD, dLst, dConsD, dCons, dNil, R.bind, R.then, slD, free, tgN, tgT, tgCons, tgNil, oVal, oS, rsv, rsvs, dCb, gLe, gLt, gGt, gGe, gI0, gI, gMinus, gAdd, gIx, gLen, asSeq, asLs, gTuple, gList, gIsX, isNonA, dSome, dNone, dSl, gSl, vR, dIt]) (by simp (config := {maxSteps := 3000000}) [rD, env0, sizeLine_eq, dSeq, dSkip, dRet, dIfS, dAsg, dAsgL, dAsgT, dDrop, dNo, dVar, dC, dBin, dOp, dB, dNot, dAnd, dOr, dAndV, dOrV, dNotV, dIsi, dChain2, dCh, dChE, dTup, dItems, asD, dLst, dConsD, dCons, dNil, R.bind, R.then, slD, free, tgN, tgT, tgCons, tgNil, oVal, oS, rsv, rsvs, dCb, gLe, gLt, gGt, gGe, gI0, gI, gMinus, gAdd, gIx, gLen, asSeq, asLs, gTuple, gList, gIsX, isNonA, dSome, dNone, dSl, gSl, vR, ownV, okV, isOwn]) (len_S _ (by rw [List.length_map]; omega)) (by simp (config := {maxSteps := 3000000}) [rD, env0, sizeLine_eq, dSeq, dSkip, dRet, dIfS, dAsg, dAsgL, dAsgT, dDrop, dNo, dVar, dC, dBin, dOp, dB, dNot, dAnd, dOr, dAndV, dOrV, dNotV, dIsi, dChain2, dCh, dChE, dTup, dItems, asD, dLst, dConsD, dCons, dNil, R.bind, R.then, slD, free, tgN, tgT, tgCons, tgNil, oVal, oS, rsv, rsvs, dCb, gLe, gLt, gGt, gGe, gI0, gI, gMinus, gAdd, gIx, gLen, asSeq, asLs, gTuple, gList, gIsX, isNonA, dSome, dNone, dSl, gSl, vR, G.backV, wipeD]) (fun d _ => ⟨_, by simp (config := {maxSteps := 3000000}) [rD, env0, sizeLine_eq, dSeq, dSkip, dRet, dIfS, dAsg, dAsgL, dAsgT, dDrop, dNo, dVar, dC, dBin, dOp, dB, dNot, dAnd, dOr, dAndV, dOrV, dNotV, dIsi, dChain2, dCh, dChE, dTup, dItems, asD, dLst, dConsD, dCons, dNil, R.bind, R.then, slD, free, tgN, tgT, tgCons, tgNil, oVal, oS, rsv, rsvs, dCb, gLe, gLt, gGt, gGe, gI0, gI, gMinus, gAdd, gIx, gLen, asSeq, asLs, gTuple, gList, gIsX, isNonA, dSome, dNone, dSl, gSl, vR, wipeD]; rfl, by simp (config := {maxSteps := 3000000}) [rD, env0, sizeLine_eq, dSeq, dSkip, dRet, dIfS, dAsg, dAsgL, dAsgT, dDrop, dNo, dVar, dC, dBin, dOp, dB, dNot, dAnd, dOr, dAndV, dOrV, dNotV, dIsi, dChain2, dCh, dChE, dTup, dItems, asD, dLst, dConsD, dCons, dNil, R.bind, R.then, slD, free, tgN, tgT, tgCons, tgNil, oVal, oS, rsv, rsvs, dCb, gLe, gLt, gGt, gGe, gI0, gI, gMinus, gAdd, gIx, gLen, asSeq, asLs, gTuple, gList, gIsX, isNonA, dSome, dNone, dSl, gSl, vR, dYes], fun _ => by simp (config := {maxSteps := 3000000}) [rD, env0, sizeLine_eq, dSeq, dSkip, dRet, dIfS, dAsg, dAsgL, dAsgT, dDrop, dNo, dVar, dC, dBin, dOp, dB, dNot, dAnd, dOr, dAndV, dOrV, dNotV, dIsi, dChain2, dCh, dChE, dTup, dItems, asD, dLst, dConsD, dCons, dNil, R.bind, R.then, slD, free, tgN, tgT, tgCons, tgNil, oVal, oS, rsv, rsvs, dCb, gLe, gLt, gGt, gGe, gI0, gI, gMinus, gAdd, gIx, gLen, asSeq, asLs, gTuple, gList, gIsX, isNonA, dSome, dNone, dSl, gSl, vR, dcl1 cl_is_whole, is_whole_v], by simp (config := {maxSteps := 3000000}) [rD, env0, sizeLine_eq, dSeq, dSkip, dRet, dIfS, dAsg, dAsgL, dAsgT, dDrop, dNo, dVar, dC, dBin, dOp, dB, dNot, dAnd, dOr, dAndV, dOrV, dNotV, dIsi, dChain2, dCh, dChE, dTup, dItems, asD, dLst, dConsD, dCons, dNil, R.bind, R.then, slD, free, tgN, tgT, tgCons, tgNil, oVal, oS, rsv, rsvs, dCb, gLe, gLt, gGt, gGe, gI0, gI, gMinus, gAdd, gIx, gLen, asSeq, asLs, gTuple, gList, gIsX, isNonA, dSome, dNone, dSl, gSl, vR, okV], by simp (config := {maxSteps := 3000000}) [rD, env0, sizeLine_eq, dSeq, dSkip, dRet, dIfS, dAsg, dAsgL, dAsgT, dDrop, dNo, dVar, dC, dBin, dOp, dB, dNot, dAnd, dOr, dAndV, dOrV, dNotV, dIsi, dChain2, dCh, dChE, dTup, dItems, asD, dLst, dConsD, dCons, dNil, R.bind, R.then, slD, free, tgN, tgT, tgCons, tgNil, oVal, oS, rsv, rsvs, dCb, gLe, gLt, gGt, gGe, gI0, gI, gMinus, gAdd, gIx, gLen, asSeq, asLs, gTuple, gList, gIsX, isNonA, dSome, dNone, dSl, gSl, vR, wipeD]⟩)
    rw [this, List.filter_eq_self.mpr (fun _ _ => rfl)]
  simp (config := {maxSteps := 3000000}) [rD, env0, sizeLine_eq, dSeq, dSkip, dRet, dIfS, dAsg, dAsgL, dAsgT, dDrop, dNo, dVar, dC, dBin, dOp, dB, dNot, dAnd, dOr, dAndV, dOrV, dNotV, dIsi, dChain2, dCh, dChE, dTup, dItems, asD, dLst, dConsD, dCons, dNil, R.bind, R.then, slD, free, tgN, tgT, tgCons, tgNil, oVal, oS, rsv, rsvs, dCb, gLe, gLt, gGt, gGe, gI0, gI, gMinus, gAdd, gIx, gLen, asSeq, asLs, gTuple, gList, gIsX, isNonA, dSome, dNone, dSl, gSl, vR, g_check_row, isI_tuple, gE, toD, PyData.eqv, SeqAt.shaped, PyData.canLay0, PyData.depth, hl, C, gAll, gBools, all_isInt, all_yes]
/-! ## exchanging -/
def gt (row : List Int) (k : Nat) : Int := row.getD k 0
def ex (row : List Int) (p : Nat × Nat) : List Int := if gt row p.1 ≤ gt row p.2 then row else (row.set p.1 (gt row p.2)).set p.2 (gt row p.1)
theorem ex_len (row : List Int) (p : Nat × Nat) : (ex row p).length = row.length := by
  unfold ex
  split
  · rfl
  · rw [List.length_set, List.length_set]
theorem at_row (row : List Int) {k : Nat} (h : k < row.length) : atI (row.map PyData.int) (k : Int) = some (.int (gt row k)) := by
  rw [atI_nat _ (by rw [List.length_map]; exact h), List.getElem?_map, List.getElem?_eq_getElem h]
  simp [gt, List.getD, List.getElem?_eq_getElem h]
theorem ix_row (row : List Int) {k : Nat} (h : k < row.length) : ixN (row.map PyData.int).length (k : Int) = some k := by
  unfold ixN
  rw [List.length_map, if_pos (Int.natCast_nonneg _), if_pos (by omega), Int.toNat_natCast]
theorem set_row (row : List Int) (i : Nat) (z : Int) : (row.map PyData.int).set i (.int z) = (row.set i z).map PyData.int := by
  rw [List.map_set]
theorem behind_v (row : List Int) (p : Nat × Nat) (h1 : p.1 < row.length) (h2 : p.2 < row.length) : ap fn_behind_comparer [tI row, pD p] = some (tI (ex row p)) := by
  refine (ap_def _).trans ?_
  have e3 := ix_row row h2
  have e1 := ix_row row h1
  have a1 := at_row row h1
  have a2 := at_row row h2
  by_cases q : gt row p.1 ≤ gt row p.2
  · simp (config := {maxSteps := 3000000}) [rD, env0, sizeLine_eq, dSeq, dSkip, dRet, dIfS, dAsg, dAsgL, dAsgT, dDrop, dNo, dVar, dC, dBin, dOp, dB, dNot, dAnd, dOr, dAndV, dOrV, dNotV, dIsi, dChain2, dCh, dChE, dTup, dItems, asD, dLst, dConsD, dCons, dNil, R.bind, R.then, slD, free, tgN, tgT, tgCons, tgNil, oVal, oS, rsv, rsvs, dCb, gLe, gLt, gGt, gGe, gI0, gI, gMinus, gAdd, gIx, gLen, asSeq, asLs, gTuple, gList, gIsX, isNonA, dSome, dNone, dSl, gSl, vR, g_behind_comparer, a1, a2, q, ex]
  · simp only [List.length_map] at e1 e3
    simp (config := {maxSteps := 3000000}) [rD, env0, sizeLine_eq, dSeq, dSkip, dRet, dIfS, dAsg, dAsgL, dAsgT, dDrop, dNo, dVar, dC, dBin, dOp, dB, dNot, dAnd, dOr, dAndV, dOrV, dNotV, dIsi, dChain2, dCh, dChE, dTup, dItems, asD, dLst, dConsD, dCons, dNil, R.bind, R.then, slD, free, tgN, tgT, tgCons, tgNil, oVal, oS, rsv, rsvs, dCb, gLe, gLt, gGt, gGe, gI0, gI, gMinus, gAdd, gIx, gLen, asSeq, asLs, gTuple, gList, gIsX, isNonA, dSome, dNone, dSl, gSl, vR, g_behind_comparer, a1, a2, q, ex, tgSub, e1, e3]
theorem run_loop (S : D) : ∀ (s : List (Nat × Nat)) (row here : List Int) (o : Option D), (∀ p ∈ s, p.1 < here.length ∧ p.2 < here.length) →
    ∃ o', loop (tgN 3) (dAsg 2 (dCl fn_behind_comparer (dConsD (dVar 2) (dConsD (dVar 3) (dNil))) dNil [0, 1] [])) [] (s.map pD) [some (.val S), some (.val (tI row)), some (.val (tI here)), oV o] = .nx [some (.val S), some (.val (tI row)), some (.val (tI (s.foldl ex here))), oV o']
  | [], row, here, o, _ => ⟨o, loop_nil⟩
  | p :: s, row, here, o, h => by
    have hp := h p (List.mem_cons_self ..)
    have hb : tgN 3 (pD p) [some (.val S), some (.val (tI row)), some (.val (tI here)), oV o] = .ok () [some (.val S), some (.val (tI row)), some (.val (tI here)), some (.val (pD p))] := by
      cases o <;> simp (config := {maxSteps := 3000000}) [rD, env0, sizeLine_eq, dSeq, dSkip, dRet, dIfS, dAsg, dAsgL, dAsgT, dDrop, dNo, dVar, dC, dBin, dOp, dB, dNot, dAnd, dOr, dAndV, dOrV, dNotV, dIsi, dChain2, dCh, dChE, dTup, dItems, asD, dLst, dConsD, dCons, dNil, R.bind, R.then, slD, free, tgN, tgT, tgCons, tgNil, oVal, oS, rsv, rsvs, dCb, gLe, gLt, gGt, gGe, gI0, gI, gMinus, gAdd, gIx, gLen, asSeq, asLs, gTuple, gList, gIsX, isNonA, dSome, dNone, dSl, gSl, vR, oV]
    obtain ⟨o', ih⟩ := run_loop S s row (ex here p) (some (pD p)) fun x hx => by rw [ex_len]; exact h x (List.mem_cons_of_mem _ hx)
    refine ⟨o', ?_⟩
    rw [List.map_cons, loop_cons hb, List.foldl_cons]
    have step : dAsg 2 (dCl fn_behind_comparer (dConsD (dVar 2) (dConsD (dVar 3) (dNil))) dNil [0, 1] []) [some (.val S), some (.val (tI row)), some (.val (tI here)), some (.val (pD p))] = .nx [some (.val S), some (.val (tI row)), some (.val (tI (ex here p))), some (.val (pD p))] := by
      have := behind_v here p hp.1 hp.2
      simp (config := {maxSteps := 3000000}) [rD, env0, sizeLine_eq, dSeq, dSkip, dRet, dIfS, dAsg, dAsgL, dAsgT, dDrop, dNo, dVar, dC, dBin, dOp, dB, dNot, dAnd, dOr, dAndV, dOrV, dNotV, dIsi, dChain2, dCh, dChE, dTup, dItems, asD, dLst, dConsD, dCons, dNil, R.bind, R.then, slD, free, tgN, tgT, tgCons, tgNil, oVal, oS, rsv, rsvs, dCb, gLe, gLt, gGt, gGe, gI0, gI, gMinus, gAdd, gIx, gLen, asSeq, asLs, gTuple, gList, gIsX, isNonA, dSome, dNone, dSl, gSl, vR, dcl2 cl_behind, this]
    rw [step]
    exact ih
theorem run_by_v (s : List (Nat × Nat)) (row : List Int) (h : ∀ p ∈ s, p.1 < row.length ∧ p.2 < row.length) : ap fn_run_by [tS s, tI row] = some (tI (s.foldl ex row)) := by
  refine (ap_def _).trans ?_
  obtain ⟨o', L⟩ := run_loop (tS s) s row row none h
  simp only [oV, Option.map_none] at L
  simp (config := {maxSteps := 3000000}) [rD, env0, sizeLine_eq, dSeq, dSkip, dRet, dIfS, dAsg, dAsgL, dAsgT, dDrop, dNo, dVar, dC, dBin, dOp, dB, dNot, dAnd, dOr, dAndV, dOrV, dNotV, dIsi, dChain2, dCh, dChE, dTup, dItems, asD, dLst, dConsD, dCons, dNil, R.bind, R.then, slD, free, tgN, tgT, tgCons, tgNil, oVal, oS, rsv, rsvs, dCb, gLe, gLt, gGt, gGe, gI0, gI, gMinus, gAdd, gIx, gLen, asSeq, asLs, gTuple, gList, gIsX, isNonA, dSome, dNone, dSl, gSl, vR, g_run_by, dFor, dIt, forget, L]
end T51

namespace T51
open L2 L2.G PySem PySem.Spec PyProof.Rows
def rising (row : List Int) : Bool := ((row.zip (row.drop 1)).map fun p => decide (p.1 ≤ p.2)).all id
theorem filt_all {α : Type} (l : List α) : l.filter (fun _ => true) = l := List.filter_eq_self.mpr fun _ _ => rfl
theorem zip_ints (a b : List Int) : zipD (a.map PyData.int) (b.map PyData.int) = (a.zip b).map fun p => PyData.tuple [.int p.1, .int p.2] := by
  unfold zipD
  rw [List.zip_map, List.map_map]
  rfl
theorem rising_v (row : List Int) (hl : row.length ≤ 8) : ap fn_is_rising [tI row] = some (.bool (rising row)) := by
  refine (ap_def _).trans ?_
  have C := dLc_of (fi := dItZ (dVar 0) (dSl (oVal (dVar 0)) (dSome (dC (.int 1))) dNone)) (ft := tgT 2 (tgCons (tgN 1) (tgCons (tgN 2) tgNil))) (fc := dYes) (fe := dBin gLe (dVar 1) (dVar 2)) (vs := [1, 2]) (ρ := [some (.val (tI row)), none, none])
    (row.zip (row.drop 1)) (fun p => .tuple [.int p.1, .int p.2]) (fun _ => true) (fun p => .bool (decide (p.1 ≤ p.2))) (by have := cut_from (row.map .int) 1; simp only [Int.natCast_one] at this; simp (config := {maxSteps := 3000000}) [rD, env0, sizeLine_eq, dSeq, dSkip, dRet, dIfS, dAsg, dAsgL, dAsgT, dDrop, dNo, dVar, dC, dBin, dOp, dB, dNot, dAnd, dOr, dAndV, dOrV, dNotV, dIsi, dChain2, dCh, dChE, dTup, dItems, asD, dLst, dConsD, dCons, dNil, R.bind, R.then, slD, free, tgN, tgT, tgCons, tgNil, oVal, oS, rsv, rsvs, dCb, gLe, gLt, gGt, gGe, gI0, gI, gMinus, gAdd, gIx, gLen, asSeq, asLs, gTuple, gList, gIsX, isNonA, dSome, dNone, dSl, gSl, vR, dItZ, this]; rfl) (by rw [← zip_ints, List.map_drop, List.drop_one]) (by simp (config := {maxSteps := 3000000}) [rD, env0, sizeLine_eq, dSeq, dSkip, dRet, dIfS, dAsg, dAsgL, dAsgT, dDrop, dNo, dVar, dC, dBin, dOp, dB, dNot, dAnd, dOr, dAndV, dOrV, dNotV, dIsi, dChain2, dCh, dChE, dTup, dItems, asD, dLst, dConsD, dCons, dNil, R.bind, R.then, slD, free, tgN, tgT, tgCons, tgNil, oVal, oS, rsv, rsvs, dCb, gLe, gLt, gGt, gGe, gI0, gI, gMinus, gAdd, gIx, gLen, asSeq, asLs, gTuple, gList, gIsX, isNonA, dSome, dNone, dSl, gSl, vR, ownV, okV, isOwn]) (len_S _ (by rw [List.length_zip]; omega)) (by simp (config := {maxSteps := 3000000}) [rD, env0, sizeLine_eq, dSeq, dSkip, dRet, dIfS, dAsg, dAsgL, dAsgT, dDrop, dNo, dVar, dC, dBin, dOp, dB, dNot, dAnd, dOr, dAndV, dOrV, dNotV, dIsi, dChain2, dCh, dChE, dTup, dItems, asD, dLst, dConsD, dCons, dNil, R.bind, R.then, slD, free, tgN, tgT, tgCons, tgNil, oVal, oS, rsv, rsvs, dCb, gLe, gLt, gGt, gGe, gI0, gI, gMinus, gAdd, gIx, gLen, asSeq, asLs, gTuple, gList, gIsX, isNonA, dSome, dNone, dSl, gSl, vR, G.backV, wipeD])
    (fun p _ => ⟨_, by simp (config := {maxSteps := 3000000}) [rD, env0, sizeLine_eq, dSeq, dSkip, dRet, dIfS, dAsg, dAsgL, dAsgT, dDrop, dNo, dVar, dC, dBin, dOp, dB, dNot, dAnd, dOr, dAndV, dOrV, dNotV, dIsi, dChain2, dCh, dChE, dTup, dItems, asD, dLst, dConsD, dCons, dNil, R.bind, R.then, slD, free, tgN, tgT, tgCons, tgNil, oVal, oS, rsv, rsvs, dCb, gLe, gLt, gGt, gGe, gI0, gI, gMinus, gAdd, gIx, gLen, asSeq, asLs, gTuple, gList, gIsX, isNonA, dSome, dNone, dSl, gSl, vR, wipeD]; rfl, by simp (config := {maxSteps := 3000000}) [rD, env0, sizeLine_eq, dSeq, dSkip, dRet, dIfS, dAsg, dAsgL, dAsgT, dDrop, dNo, dVar, dC, dBin, dOp, dB, dNot, dAnd, dOr, dAndV, dOrV, dNotV, dIsi, dChain2, dCh, dChE, dTup, dItems, asD, dLst, dConsD, dCons, dNil, R.bind, R.then, slD, free, tgN, tgT, tgCons, tgNil, oVal, oS, rsv, rsvs, dCb, gLe, gLt, gGt, gGe, gI0, gI, gMinus, gAdd, gIx, gLen, asSeq, asLs, gTuple, gList, gIsX, isNonA, dSome, dNone, dSl, gSl, vR, dYes], fun _ => by simp (config := {maxSteps := 3000000}) [rD, env0, sizeLine_eq, dSeq, dSkip, dRet, dIfS, dAsg, dAsgL, dAsgT, dDrop, dNo, dVar, dC, dBin, dOp, dB, dNot, dAnd, dOr, dAndV, dOrV, dNotV, dIsi, dChain2, dCh, dChE, dTup, dItems, asD, dLst, dConsD, dCons, dNil, R.bind, R.then, slD, free, tgN, tgT, tgCons, tgNil, oVal, oS, rsv, rsvs, dCb, gLe, gLt, gGt, gGe, gI0, gI, gMinus, gAdd, gIx, gLen, asSeq, asLs, gTuple, gList, gIsX, isNonA, dSome, dNone, dSl, gSl, vR], by simp (config := {maxSteps := 3000000}) [rD, env0, sizeLine_eq, dSeq, dSkip, dRet, dIfS, dAsg, dAsgL, dAsgT, dDrop, dNo, dVar, dC, dBin, dOp, dB, dNot, dAnd, dOr, dAndV, dOrV, dNotV, dIsi, dChain2, dCh, dChE, dTup, dItems, asD, dLst, dConsD, dCons, dNil, R.bind, R.then, slD, free, tgN, tgT, tgCons, tgNil, oVal, oS, rsv, rsvs, dCb, gLe, gLt, gGt, gGe, gI0, gI, gMinus, gAdd, gIx, gLen, asSeq, asLs, gTuple, gList, gIsX, isNonA, dSome, dNone, dSl, gSl, vR, okV], by simp (config := {maxSteps := 3000000}) [rD, env0, sizeLine_eq, dSeq, dSkip, dRet, dIfS, dAsg, dAsgL, dAsgT, dDrop, dNo, dVar, dC, dBin, dOp, dB, dNot, dAnd, dOr, dAndV, dOrV, dNotV, dIsi, dChain2, dCh, dChE, dTup, dItems, asD, dLst, dConsD, dCons, dNil, R.bind, R.then, slD, free, tgN, tgT, tgCons, tgNil, oVal, oS, rsv, rsvs, dCb, gLe, gLt, gGt, gGe, gI0, gI, gMinus, gAdd, gIx, gLen, asSeq, asLs, gTuple, gList, gIsX, isNonA, dSome, dNone, dSl, gSl, vR, wipeD]⟩)
  rw [filt_all] at C
  simp only [rD, env0, sizeLine_eq, dSeq, dSkip, dRet, dIfS, dAsg, dAsgL, dAsgT, dDrop, dNo, dVar, dC, dBin, dOp, dB, dNot, dAnd, dOr, dAndV, dOrV, dNotV, dIsi, dChain2, dCh, dChE, dTup, dItems, asD, dLst, dConsD, dCons, dNil, R.bind, R.then, slD, free, tgN, tgT, tgCons, tgNil, oVal, oS, rsv, rsvs, dCb, gLe, gLt, gGt, gGe, gI0, gI, gMinus, gAdd, gIx, gLen, asSeq, asLs, gTuple, gList, gIsX, isNonA, dSome, dNone, dSl, gSl, vR, g_is_rising, List.map_cons, List.map_nil, List.replicate, List.cons_append, List.nil_append, C, gAll, gBools, asBools_map, rising]
def cntLt (l : List Int) (x : Int) : Nat := (l.filter fun o => decide (o < x)).length
def inv (row : List Int) : Int := (row.zipIdx.map fun p => ((cntLt (row.drop (p.2 + 1)) p.1 : Nat) : Int)).sum
theorem enum_ints (row : List Int) : enumD (row.map PyData.int) = row.zipIdx.map fun p => PyData.tuple [.int (p.2 : Nat), .int p.1] := by
  unfold enumD
  rw [List.zipIdx_map, List.map_map]
  rfl
theorem cut_row (row : List Int) (k : Nat) : cutD (row.map PyData.int) (some ((k : Int) + 1)) none = (row.drop (k + 1)).map PyData.int := by
  have := cut_from (row.map .int) (k + 1)
  rw [show (((k + 1 : Nat)) : Int) = (k : Int) + 1 by omega] at this
  rw [this, List.map_drop]
theorem disorder_in (row : List Int) (hl : row.length ≤ 8) (k : Nat) (x : Int) : dCb gLen (dConsD (dLst (dLc (dIt (dSl (oVal (dVar 0)) (dSome (dBin gAdd (dVar 1) (dC (.int 1)))) dNone)) (tgN 3) (dB (dBin gGt (dVar 2) (dVar 3))) (dC (.int 1)) [3])) (dNil)) [some (.val (tI row)), some (.val (.int (k : Nat))), some (.val (.int x)), none] = .ok (.int ((cntLt (row.drop (k + 1)) x : Nat) : Int)) [some (.val (tI row)), some (.val (.int (k : Nat))), some (.val (.int x)), none] := by
  have C := dLc_of (fi := dIt (dSl (oVal (dVar 0)) (dSome (dBin gAdd (dVar 1) (dC (.int 1)))) dNone)) (ft := tgN 3) (fc := dB (dBin gGt (dVar 2) (dVar 3))) (fe := dC (.int 1)) (vs := [3]) (ρ := [some (.val (tI row)), some (.val (.int (k : Nat))), some (.val (.int x)), none])
    (row.drop (k + 1)) PyData.int (fun o => decide (o < x)) (fun _ => .int 1) (by simp (config := {maxSteps := 3000000}) [rD, env0, sizeLine_eq, dSeq, dSkip, dRet, dIfS, dAsg, dAsgL, dAsgT, dDrop, dNo, dVar, dC, dBin, dOp, dB, dNot, dAnd, dOr, dAndV, dOrV, dNotV, dIsi, dChain2, dCh, dChE, dTup, dItems, asD, dLst, dConsD, dCons, dNil, R.bind, R.then, slD, free, tgN, tgT, tgCons, tgNil, oVal, oS, rsv, rsvs, dCb, gLe, gLt, gGt, gGe, gI0, gI, gMinus, gAdd, gIx, gLen, asSeq, asLs, gTuple, gList, gIsX, isNonA, dSome, dNone, dSl, gSl, vR, dIt, cut_row]; rfl) (by first | rfl | simp) (by simp (config := {maxSteps := 3000000}) [rD, env0, sizeLine_eq, dSeq, dSkip, dRet, dIfS, dAsg, dAsgL, dAsgT, dDrop, dNo, dVar, dC, dBin, dOp, dB, dNot, dAnd, dOr, dAndV, dOrV, dNotV, dIsi, dChain2, dCh, dChE, dTup, dItems, asD, dLst, dConsD, dCons, dNil, R.bind, R.then, slD, free, tgN, tgT, tgCons, tgNil, oVal, oS, rsv, rsvs, dCb, gLe, gLt, gGt, gGe, gI0, gI, gMinus, gAdd, gIx, gLen, asSeq, asLs, gTuple, gList, gIsX, isNonA, dSome, dNone, dSl, gSl, vR, ownV, okV, isOwn]) (len_S _ (by rw [List.length_drop]; omega)) (by simp (config := {maxSteps := 3000000}) [rD, env0, sizeLine_eq, dSeq, dSkip, dRet, dIfS, dAsg, dAsgL, dAsgT, dDrop, dNo, dVar, dC, dBin, dOp, dB, dNot, dAnd, dOr, dAndV, dOrV, dNotV, dIsi, dChain2, dCh, dChE, dTup, dItems, asD, dLst, dConsD, dCons, dNil, R.bind, R.then, slD, free, tgN, tgT, tgCons, tgNil, oVal, oS, rsv, rsvs, dCb, gLe, gLt, gGt, gGe, gI0, gI, gMinus, gAdd, gIx, gLen, asSeq, asLs, gTuple, gList, gIsX, isNonA, dSome, dNone, dSl, gSl, vR, G.backV, wipeD])
    (fun p _ => ⟨_, by simp (config := {maxSteps := 3000000}) [rD, env0, sizeLine_eq, dSeq, dSkip, dRet, dIfS, dAsg, dAsgL, dAsgT, dDrop, dNo, dVar, dC, dBin, dOp, dB, dNot, dAnd, dOr, dAndV, dOrV, dNotV, dIsi, dChain2, dCh, dChE, dTup, dItems, asD, dLst, dConsD, dCons, dNil, R.bind, R.then, slD, free, tgN, tgT, tgCons, tgNil, oVal, oS, rsv, rsvs, dCb, gLe, gLt, gGt, gGe, gI0, gI, gMinus, gAdd, gIx, gLen, asSeq, asLs, gTuple, gList, gIsX, isNonA, dSome, dNone, dSl, gSl, vR, wipeD]; rfl, by simp (config := {maxSteps := 3000000}) [rD, env0, sizeLine_eq, dSeq, dSkip, dRet, dIfS, dAsg, dAsgL, dAsgT, dDrop, dNo, dVar, dC, dBin, dOp, dB, dNot, dAnd, dOr, dAndV, dOrV, dNotV, dIsi, dChain2, dCh, dChE, dTup, dItems, asD, dLst, dConsD, dCons, dNil, R.bind, R.then, slD, free, tgN, tgT, tgCons, tgNil, oVal, oS, rsv, rsvs, dCb, gLe, gLt, gGt, gGe, gI0, gI, gMinus, gAdd, gIx, gLen, asSeq, asLs, gTuple, gList, gIsX, isNonA, dSome, dNone, dSl, gSl, vR], fun _ => by simp (config := {maxSteps := 3000000}) [rD, env0, sizeLine_eq, dSeq, dSkip, dRet, dIfS, dAsg, dAsgL, dAsgT, dDrop, dNo, dVar, dC, dBin, dOp, dB, dNot, dAnd, dOr, dAndV, dOrV, dNotV, dIsi, dChain2, dCh, dChE, dTup, dItems, asD, dLst, dConsD, dCons, dNil, R.bind, R.then, slD, free, tgN, tgT, tgCons, tgNil, oVal, oS, rsv, rsvs, dCb, gLe, gLt, gGt, gGe, gI0, gI, gMinus, gAdd, gIx, gLen, asSeq, asLs, gTuple, gList, gIsX, isNonA, dSome, dNone, dSl, gSl, vR], by simp (config := {maxSteps := 3000000}) [rD, env0, sizeLine_eq, dSeq, dSkip, dRet, dIfS, dAsg, dAsgL, dAsgT, dDrop, dNo, dVar, dC, dBin, dOp, dB, dNot, dAnd, dOr, dAndV, dOrV, dNotV, dIsi, dChain2, dCh, dChE, dTup, dItems, asD, dLst, dConsD, dCons, dNil, R.bind, R.then, slD, free, tgN, tgT, tgCons, tgNil, oVal, oS, rsv, rsvs, dCb, gLe, gLt, gGt, gGe, gI0, gI, gMinus, gAdd, gIx, gLen, asSeq, asLs, gTuple, gList, gIsX, isNonA, dSome, dNone, dSl, gSl, vR, okV], by simp (config := {maxSteps := 3000000}) [rD, env0, sizeLine_eq, dSeq, dSkip, dRet, dIfS, dAsg, dAsgL, dAsgT, dDrop, dNo, dVar, dC, dBin, dOp, dB, dNot, dAnd, dOr, dAndV, dOrV, dNotV, dIsi, dChain2, dCh, dChE, dTup, dItems, asD, dLst, dConsD, dCons, dNil, R.bind, R.then, slD, free, tgN, tgT, tgCons, tgNil, oVal, oS, rsv, rsvs, dCb, gLe, gLt, gGt, gGe, gI0, gI, gMinus, gAdd, gIx, gLen, asSeq, asLs, gTuple, gList, gIsX, isNonA, dSome, dNone, dSl, gSl, vR, wipeD]⟩)
  simp (config := {maxSteps := 3000000}) [rD, env0, sizeLine_eq, dSeq, dSkip, dRet, dIfS, dAsg, dAsgL, dAsgT, dDrop, dNo, dVar, dC, dBin, dOp, dB, dNot, dAnd, dOr, dAndV, dOrV, dNotV, dIsi, dChain2, dCh, dChE, dTup, dItems, asD, dLst, dConsD, dCons, dNil, R.bind, R.then, slD, free, tgN, tgT, tgCons, tgNil, oVal, oS, rsv, rsvs, dCb, gLe, gLt, gGt, gGe, gI0, gI, gMinus, gAdd, gIx, gLen, asSeq, asLs, gTuple, gList, gIsX, isNonA, dSome, dNone, dSl, gSl, vR, C, cntLt]
theorem disorder_by_v (row : List Int) (hl : row.length ≤ 8) : ap fn_disorder_by [tI row] = some (.int (inv row)) := by
  refine (ap_def _).trans ?_
  have C := dLc_of (fi := dEn (dVar 0)) (ft := tgT 2 (tgCons (tgN 1) (tgCons (tgN 2) tgNil))) (fc := dYes) (fe := dCb gLen (dConsD (dLst (dLc (dIt (dSl (oVal (dVar 0)) (dSome (dBin gAdd (dVar 1) (dC (.int 1)))) dNone)) (tgN 3) (dB (dBin gGt (dVar 2) (dVar 3))) (dC (.int 1)) [3])) (dNil))) (vs := [1, 2]) (ρ := [some (.val (tI row)), none, none, none])
    row.zipIdx (fun p => .tuple [.int (p.2 : Nat), .int p.1]) (fun _ => true) (fun p => .int ((cntLt (row.drop (p.2 + 1)) p.1 : Nat) : Int)) (by simp (config := {maxSteps := 3000000}) [rD, env0, sizeLine_eq, dSeq, dSkip, dRet, dIfS, dAsg, dAsgL, dAsgT, dDrop, dNo, dVar, dC, dBin, dOp, dB, dNot, dAnd, dOr, dAndV, dOrV, dNotV, dIsi, dChain2, dCh, dChE, dTup, dItems, asD, dLst, dConsD, dCons, dNil, R.bind, R.then, slD, free, tgN, tgT, tgCons, tgNil, oVal, oS, rsv, rsvs, dCb, gLe, gLt, gGt, gGe, gI0, gI, gMinus, gAdd, gIx, gLen, asSeq, asLs, gTuple, gList, gIsX, isNonA, dSome, dNone, dSl, gSl, vR, dEn, dIt]; rfl) (by exact enum_ints row) (by simp (config := {maxSteps := 3000000}) [rD, env0, sizeLine_eq, dSeq, dSkip, dRet, dIfS, dAsg, dAsgL, dAsgT, dDrop, dNo, dVar, dC, dBin, dOp, dB, dNot, dAnd, dOr, dAndV, dOrV, dNotV, dIsi, dChain2, dCh, dChE, dTup, dItems, asD, dLst, dConsD, dCons, dNil, R.bind, R.then, slD, free, tgN, tgT, tgCons, tgNil, oVal, oS, rsv, rsvs, dCb, gLe, gLt, gGt, gGe, gI0, gI, gMinus, gAdd, gIx, gLen, asSeq, asLs, gTuple, gList, gIsX, isNonA, dSome, dNone, dSl, gSl, vR, ownV, okV, isOwn]) (len_S _ (by rw [List.length_zipIdx]; omega)) (by simp (config := {maxSteps := 3000000}) [rD, env0, sizeLine_eq, dSeq, dSkip, dRet, dIfS, dAsg, dAsgL, dAsgT, dDrop, dNo, dVar, dC, dBin, dOp, dB, dNot, dAnd, dOr, dAndV, dOrV, dNotV, dIsi, dChain2, dCh, dChE, dTup, dItems, asD, dLst, dConsD, dCons, dNil, R.bind, R.then, slD, free, tgN, tgT, tgCons, tgNil, oVal, oS, rsv, rsvs, dCb, gLe, gLt, gGt, gGe, gI0, gI, gMinus, gAdd, gIx, gLen, asSeq, asLs, gTuple, gList, gIsX, isNonA, dSome, dNone, dSl, gSl, vR, G.backV, wipeD])
    (fun p _ => ⟨_, by simp (config := {maxSteps := 3000000}) [rD, env0, sizeLine_eq, dSeq, dSkip, dRet, dIfS, dAsg, dAsgL, dAsgT, dDrop, dNo, dVar, dC, dBin, dOp, dB, dNot, dAnd, dOr, dAndV, dOrV, dNotV, dIsi, dChain2, dCh, dChE, dTup, dItems, asD, dLst, dConsD, dCons, dNil, R.bind, R.then, slD, free, tgN, tgT, tgCons, tgNil, oVal, oS, rsv, rsvs, dCb, gLe, gLt, gGt, gGe, gI0, gI, gMinus, gAdd, gIx, gLen, asSeq, asLs, gTuple, gList, gIsX, isNonA, dSome, dNone, dSl, gSl, vR, wipeD]; rfl, by simp (config := {maxSteps := 3000000}) [rD, env0, sizeLine_eq, dSeq, dSkip, dRet, dIfS, dAsg, dAsgL, dAsgT, dDrop, dNo, dVar, dC, dBin, dOp, dB, dNot, dAnd, dOr, dAndV, dOrV, dNotV, dIsi, dChain2, dCh, dChE, dTup, dItems, asD, dLst, dConsD, dCons, dNil, R.bind, R.then, slD, free, tgN, tgT, tgCons, tgNil, oVal, oS, rsv, rsvs, dCb, gLe, gLt, gGt, gGe, gI0, gI, gMinus, gAdd, gIx, gLen, asSeq, asLs, gTuple, gList, gIsX, isNonA, dSome, dNone, dSl, gSl, vR, dYes], fun _ => by exact disorder_in row hl p.2 p.1, by simp (config := {maxSteps := 3000000}) [rD, env0, sizeLine_eq, dSeq, dSkip, dRet, dIfS, dAsg, dAsgL, dAsgT, dDrop, dNo, dVar, dC, dBin, dOp, dB, dNot, dAnd, dOr, dAndV, dOrV, dNotV, dIsi, dChain2, dCh, dChE, dTup, dItems, asD, dLst, dConsD, dCons, dNil, R.bind, R.then, slD, free, tgN, tgT, tgCons, tgNil, oVal, oS, rsv, rsvs, dCb, gLe, gLt, gGt, gGe, gI0, gI, gMinus, gAdd, gIx, gLen, asSeq, asLs, gTuple, gList, gIsX, isNonA, dSome, dNone, dSl, gSl, vR, okV], by simp (config := {maxSteps := 3000000}) [rD, env0, sizeLine_eq, dSeq, dSkip, dRet, dIfS, dAsg, dAsgL, dAsgT, dDrop, dNo, dVar, dC, dBin, dOp, dB, dNot, dAnd, dOr, dAndV, dOrV, dNotV, dIsi, dChain2, dCh, dChE, dTup, dItems, asD, dLst, dConsD, dCons, dNil, R.bind, R.then, slD, free, tgN, tgT, tgCons, tgNil, oVal, oS, rsv, rsvs, dCb, gLe, gLt, gGt, gGe, gI0, gI, gMinus, gAdd, gIx, gLen, asSeq, asLs, gTuple, gList, gIsX, isNonA, dSome, dNone, dSl, gSl, vR, wipeD]⟩)
  rw [filt_all] at C
  simp only [rD, env0, sizeLine_eq, dSeq, dSkip, dRet, dIfS, dAsg, dAsgL, dAsgT, dDrop, dNo, dVar, dC, dBin, dOp, dB, dNot, dAnd, dOr, dAndV, dOrV, dNotV, dIsi, dChain2, dCh, dChE, dTup, dItems, asD, dLst, dConsD, dCons, dNil, R.bind, R.then, slD, free, tgN, tgT, tgCons, tgNil, oVal, oS, rsv, rsvs, dCb, gLe, gLt, gGt, gGe, gI0, gI, gMinus, gAdd, gIx, gLen, asSeq, asLs, gTuple, gList, gIsX, isNonA, dSome, dNone, dSl, gSl, vR, g_disorder_by, List.map_cons, List.map_nil, List.replicate, List.cons_append, List.nil_append, C, gSum, gInts, asInts_map, inv]
theorem law_disorder_in (row : List Int) (hl : row.length ≤ 8) (k : Nat) (x : Int) : dCb gLen (dConsD (dLst (dLc (dIt (dSl (oVal (dVar 0)) (dSome (dBin gAdd (dVar 1) (dC (.int 1)))) dNone)) (tgN 3) (dB (dBin gLt (dVar 3) (dVar 2))) (dVar 3) [3])) (dNil)) [some (.val (tI row)), some (.val (.int (k : Nat))), some (.val (.int x)), none] = .ok (.int ((cntLt (row.drop (k + 1)) x : Nat) : Int)) [some (.val (tI row)), some (.val (.int (k : Nat))), some (.val (.int x)), none] := by
  have C := dLc_of (fi := dIt (dSl (oVal (dVar 0)) (dSome (dBin gAdd (dVar 1) (dC (.int 1)))) dNone)) (ft := tgN 3) (fc := dB (dBin gLt (dVar 3) (dVar 2))) (fe := dVar 3) (vs := [3]) (ρ := [some (.val (tI row)), some (.val (.int (k : Nat))), some (.val (.int x)), none])
    (row.drop (k + 1)) PyData.int (fun o => decide (o < x)) (fun o => .int o) (by simp (config := {maxSteps := 3000000}) [rD, env0, sizeLine_eq, dSeq, dSkip, dRet, dIfS, dAsg, dAsgL, dAsgT, dDrop, dNo, dVar, dC, dBin, dOp, dB, dNot, dAnd, dOr, dAndV, dOrV, dNotV, dIsi, dChain2, dCh, dChE, dTup, dItems, asD, dLst, dConsD, dCons, dNil, R.bind, R.then, slD, free, tgN, tgT, tgCons, tgNil, oVal, oS, rsv, rsvs, dCb, gLe, gLt, gGt, gGe, gI0, gI, gMinus, gAdd, gIx, gLen, asSeq, asLs, gTuple, gList, gIsX, isNonA, dSome, dNone, dSl, gSl, vR, dIt, cut_row]; rfl) (by first | rfl | simp) (by simp (config := {maxSteps := 3000000}) [rD, env0, sizeLine_eq, dSeq, dSkip, dRet, dIfS, dAsg, dAsgL, dAsgT, dDrop, dNo, dVar, dC, dBin, dOp, dB, dNot, dAnd, dOr, dAndV, dOrV, dNotV, dIsi, dChain2, dCh, dChE, dTup, dItems, asD, dLst, dConsD, dCons, dNil, R.bind, R.then, slD, free, tgN, tgT, tgCons, tgNil, oVal, oS, rsv, rsvs, dCb, gLe, gLt, gGt, gGe, gI0, gI, gMinus, gAdd, gIx, gLen, asSeq, asLs, gTuple, gList, gIsX, isNonA, dSome, dNone, dSl, gSl, vR, ownV, okV, isOwn]) (len_S _ (by rw [List.length_drop]; omega)) (by simp (config := {maxSteps := 3000000}) [rD, env0, sizeLine_eq, dSeq, dSkip, dRet, dIfS, dAsg, dAsgL, dAsgT, dDrop, dNo, dVar, dC, dBin, dOp, dB, dNot, dAnd, dOr, dAndV, dOrV, dNotV, dIsi, dChain2, dCh, dChE, dTup, dItems, asD, dLst, dConsD, dCons, dNil, R.bind, R.then, slD, free, tgN, tgT, tgCons, tgNil, oVal, oS, rsv, rsvs, dCb, gLe, gLt, gGt, gGe, gI0, gI, gMinus, gAdd, gIx, gLen, asSeq, asLs, gTuple, gList, gIsX, isNonA, dSome, dNone, dSl, gSl, vR, G.backV, wipeD])
    (fun p _ => ⟨_, by simp (config := {maxSteps := 3000000}) [rD, env0, sizeLine_eq, dSeq, dSkip, dRet, dIfS, dAsg, dAsgL, dAsgT, dDrop, dNo, dVar, dC, dBin, dOp, dB, dNot, dAnd, dOr, dAndV, dOrV, dNotV, dIsi, dChain2, dCh, dChE, dTup, dItems, asD, dLst, dConsD, dCons, dNil, R.bind, R.then, slD, free, tgN, tgT, tgCons, tgNil, oVal, oS, rsv, rsvs, dCb, gLe, gLt, gGt, gGe, gI0, gI, gMinus, gAdd, gIx, gLen, asSeq, asLs, gTuple, gList, gIsX, isNonA, dSome, dNone, dSl, gSl, vR, wipeD]; rfl, by simp (config := {maxSteps := 3000000}) [rD, env0, sizeLine_eq, dSeq, dSkip, dRet, dIfS, dAsg, dAsgL, dAsgT, dDrop, dNo, dVar, dC, dBin, dOp, dB, dNot, dAnd, dOr, dAndV, dOrV, dNotV, dIsi, dChain2, dCh, dChE, dTup, dItems, asD, dLst, dConsD, dCons, dNil, R.bind, R.then, slD, free, tgN, tgT, tgCons, tgNil, oVal, oS, rsv, rsvs, dCb, gLe, gLt, gGt, gGe, gI0, gI, gMinus, gAdd, gIx, gLen, asSeq, asLs, gTuple, gList, gIsX, isNonA, dSome, dNone, dSl, gSl, vR], fun _ => by simp (config := {maxSteps := 3000000}) [rD, env0, sizeLine_eq, dSeq, dSkip, dRet, dIfS, dAsg, dAsgL, dAsgT, dDrop, dNo, dVar, dC, dBin, dOp, dB, dNot, dAnd, dOr, dAndV, dOrV, dNotV, dIsi, dChain2, dCh, dChE, dTup, dItems, asD, dLst, dConsD, dCons, dNil, R.bind, R.then, slD, free, tgN, tgT, tgCons, tgNil, oVal, oS, rsv, rsvs, dCb, gLe, gLt, gGt, gGe, gI0, gI, gMinus, gAdd, gIx, gLen, asSeq, asLs, gTuple, gList, gIsX, isNonA, dSome, dNone, dSl, gSl, vR], by simp (config := {maxSteps := 3000000}) [rD, env0, sizeLine_eq, dSeq, dSkip, dRet, dIfS, dAsg, dAsgL, dAsgT, dDrop, dNo, dVar, dC, dBin, dOp, dB, dNot, dAnd, dOr, dAndV, dOrV, dNotV, dIsi, dChain2, dCh, dChE, dTup, dItems, asD, dLst, dConsD, dCons, dNil, R.bind, R.then, slD, free, tgN, tgT, tgCons, tgNil, oVal, oS, rsv, rsvs, dCb, gLe, gLt, gGt, gGe, gI0, gI, gMinus, gAdd, gIx, gLen, asSeq, asLs, gTuple, gList, gIsX, isNonA, dSome, dNone, dSl, gSl, vR, okV], by simp (config := {maxSteps := 3000000}) [rD, env0, sizeLine_eq, dSeq, dSkip, dRet, dIfS, dAsg, dAsgL, dAsgT, dDrop, dNo, dVar, dC, dBin, dOp, dB, dNot, dAnd, dOr, dAndV, dOrV, dNotV, dIsi, dChain2, dCh, dChE, dTup, dItems, asD, dLst, dConsD, dCons, dNil, R.bind, R.then, slD, free, tgN, tgT, tgCons, tgNil, oVal, oS, rsv, rsvs, dCb, gLe, gLt, gGt, gGe, gI0, gI, gMinus, gAdd, gIx, gLen, asSeq, asLs, gTuple, gList, gIsX, isNonA, dSome, dNone, dSl, gSl, vR, wipeD]⟩)
  simp (config := {maxSteps := 3000000}) [rD, env0, sizeLine_eq, dSeq, dSkip, dRet, dIfS, dAsg, dAsgL, dAsgT, dDrop, dNo, dVar, dC, dBin, dOp, dB, dNot, dAnd, dOr, dAndV, dOrV, dNotV, dIsi, dChain2, dCh, dChE, dTup, dItems, asD, dLst, dConsD, dCons, dNil, R.bind, R.then, slD, free, tgN, tgT, tgCons, tgNil, oVal, oS, rsv, rsvs, dCb, gLe, gLt, gGt, gGe, gI0, gI, gMinus, gAdd, gIx, gLen, asSeq, asLs, gTuple, gList, gIsX, isNonA, dSome, dNone, dSl, gSl, vR, C, cntLt]
theorem law_disorder_v (row : List Int) (hl : row.length ≤ 8) : ap fn__law_disorder [tI row] = some (.int (inv row)) := by
  refine (ap_def _).trans ?_
  have C := dLc_of (fi := dEn (dVar 0)) (ft := tgT 2 (tgCons (tgN 1) (tgCons (tgN 2) tgNil))) (fc := dYes) (fe := dCb gLen (dConsD (dLst (dLc (dIt (dSl (oVal (dVar 0)) (dSome (dBin gAdd (dVar 1) (dC (.int 1)))) dNone)) (tgN 3) (dB (dBin gLt (dVar 3) (dVar 2))) (dVar 3) [3])) (dNil))) (vs := [1, 2]) (ρ := [some (.val (tI row)), none, none, none])
    row.zipIdx (fun p => .tuple [.int (p.2 : Nat), .int p.1]) (fun _ => true) (fun p => .int ((cntLt (row.drop (p.2 + 1)) p.1 : Nat) : Int)) (by simp (config := {maxSteps := 3000000}) [rD, env0, sizeLine_eq, dSeq, dSkip, dRet, dIfS, dAsg, dAsgL, dAsgT, dDrop, dNo, dVar, dC, dBin, dOp, dB, dNot, dAnd, dOr, dAndV, dOrV, dNotV, dIsi, dChain2, dCh, dChE, dTup, dItems, asD, dLst, dConsD, dCons, dNil, R.bind, R.then, slD, free, tgN, tgT, tgCons, tgNil, oVal, oS, rsv, rsvs, dCb, gLe, gLt, gGt, gGe, gI0, gI, gMinus, gAdd, gIx, gLen, asSeq, asLs, gTuple, gList, gIsX, isNonA, dSome, dNone, dSl, gSl, vR, dEn, dIt]; rfl) (by exact enum_ints row) (by simp (config := {maxSteps := 3000000}) [rD, env0, sizeLine_eq, dSeq, dSkip, dRet, dIfS, dAsg, dAsgL, dAsgT, dDrop, dNo, dVar, dC, dBin, dOp, dB, dNot, dAnd, dOr, dAndV, dOrV, dNotV, dIsi, dChain2, dCh, dChE, dTup, dItems, asD, dLst, dConsD, dCons, dNil, R.bind, R.then, slD, free, tgN, tgT, tgCons, tgNil, oVal, oS, rsv, rsvs, dCb, gLe, gLt, gGt, gGe, gI0, gI, gMinus, gAdd, gIx, gLen, asSeq, asLs, gTuple, gList, gIsX, isNonA, dSome, dNone, dSl, gSl, vR, ownV, okV, isOwn]) (len_S _ (by rw [List.length_zipIdx]; omega)) (by simp (config := {maxSteps := 3000000}) [rD, env0, sizeLine_eq, dSeq, dSkip, dRet, dIfS, dAsg, dAsgL, dAsgT, dDrop, dNo, dVar, dC, dBin, dOp, dB, dNot, dAnd, dOr, dAndV, dOrV, dNotV, dIsi, dChain2, dCh, dChE, dTup, dItems, asD, dLst, dConsD, dCons, dNil, R.bind, R.then, slD, free, tgN, tgT, tgCons, tgNil, oVal, oS, rsv, rsvs, dCb, gLe, gLt, gGt, gGe, gI0, gI, gMinus, gAdd, gIx, gLen, asSeq, asLs, gTuple, gList, gIsX, isNonA, dSome, dNone, dSl, gSl, vR, G.backV, wipeD])
    (fun p _ => ⟨_, by simp (config := {maxSteps := 3000000}) [rD, env0, sizeLine_eq, dSeq, dSkip, dRet, dIfS, dAsg, dAsgL, dAsgT, dDrop, dNo, dVar, dC, dBin, dOp, dB, dNot, dAnd, dOr, dAndV, dOrV, dNotV, dIsi, dChain2, dCh, dChE, dTup, dItems, asD, dLst, dConsD, dCons, dNil, R.bind, R.then, slD, free, tgN, tgT, tgCons, tgNil, oVal, oS, rsv, rsvs, dCb, gLe, gLt, gGt, gGe, gI0, gI, gMinus, gAdd, gIx, gLen, asSeq, asLs, gTuple, gList, gIsX, isNonA, dSome, dNone, dSl, gSl, vR, wipeD]; rfl, by simp (config := {maxSteps := 3000000}) [rD, env0, sizeLine_eq, dSeq, dSkip, dRet, dIfS, dAsg, dAsgL, dAsgT, dDrop, dNo, dVar, dC, dBin, dOp, dB, dNot, dAnd, dOr, dAndV, dOrV, dNotV, dIsi, dChain2, dCh, dChE, dTup, dItems, asD, dLst, dConsD, dCons, dNil, R.bind, R.then, slD, free, tgN, tgT, tgCons, tgNil, oVal, oS, rsv, rsvs, dCb, gLe, gLt, gGt, gGe, gI0, gI, gMinus, gAdd, gIx, gLen, asSeq, asLs, gTuple, gList, gIsX, isNonA, dSome, dNone, dSl, gSl, vR, dYes], fun _ => by exact law_disorder_in row hl p.2 p.1, by simp (config := {maxSteps := 3000000}) [rD, env0, sizeLine_eq, dSeq, dSkip, dRet, dIfS, dAsg, dAsgL, dAsgT, dDrop, dNo, dVar, dC, dBin, dOp, dB, dNot, dAnd, dOr, dAndV, dOrV, dNotV, dIsi, dChain2, dCh, dChE, dTup, dItems, asD, dLst, dConsD, dCons, dNil, R.bind, R.then, slD, free, tgN, tgT, tgCons, tgNil, oVal, oS, rsv, rsvs, dCb, gLe, gLt, gGt, gGe, gI0, gI, gMinus, gAdd, gIx, gLen, asSeq, asLs, gTuple, gList, gIsX, isNonA, dSome, dNone, dSl, gSl, vR, okV], by simp (config := {maxSteps := 3000000}) [rD, env0, sizeLine_eq, dSeq, dSkip, dRet, dIfS, dAsg, dAsgL, dAsgT, dDrop, dNo, dVar, dC, dBin, dOp, dB, dNot, dAnd, dOr, dAndV, dOrV, dNotV, dIsi, dChain2, dCh, dChE, dTup, dItems, asD, dLst, dConsD, dCons, dNil, R.bind, R.then, slD, free, tgN, tgT, tgCons, tgNil, oVal, oS, rsv, rsvs, dCb, gLe, gLt, gGt, gGe, gI0, gI, gMinus, gAdd, gIx, gLen, asSeq, asLs, gTuple, gList, gIsX, isNonA, dSome, dNone, dSl, gSl, vR, wipeD]⟩)
  rw [filt_all] at C
  simp only [rD, env0, sizeLine_eq, dSeq, dSkip, dRet, dIfS, dAsg, dAsgL, dAsgT, dDrop, dNo, dVar, dC, dBin, dOp, dB, dNot, dAnd, dOr, dAndV, dOrV, dNotV, dIsi, dChain2, dCh, dChE, dTup, dItems, asD, dLst, dConsD, dCons, dNil, R.bind, R.then, slD, free, tgN, tgT, tgCons, tgNil, oVal, oS, rsv, rsvs, dCb, gLe, gLt, gGt, gGe, gI0, gI, gMinus, gAdd, gIx, gLen, asSeq, asLs, gTuple, gList, gIsX, isNonA, dSome, dNone, dSl, gSl, vR, g__law_disorder, List.map_cons, List.map_nil, List.replicate, List.cons_append, List.nil_append, C, gSum, gInts, asInts_map, inv]
end T51

namespace T51
open L2 L2.G PySem PySem.Spec PyProof.Rows
def okS (n : Nat) (s : List (Nat × Nat)) : Prop := (∀ p ∈ s, okP n p) ∧ s.length ≤ 60
theorem cOk_p {n : Nat} {p : Nat × Nat} (h : okP n p) : cOk n (pD p) = true := by
  obtain ⟨h1, h2⟩ := h
  have a1 : (0 : Int) ≤ (p.1 : Int) := by omega
  have a2 : (p.1 : Int) ≤ (n : Int) - 1 := by omega
  have a3 : (p.1 : Int) + 1 ≤ (p.2 : Int) := by omega
  have a4 : (p.2 : Int) ≤ (n : Int) - 1 := by omega
  simp only [cOk, a1, a2, a3, a4, decide_true, Bool.and_self]
theorem fb_s {n : Nat} {s : List (Nat × Nat)} (h : okS n s) : firstBad n (s.map pD) 0 = none :=
  fb_ok _ _ _ (fun v hv => by obtain ⟨p, hp, rfl⟩ := List.mem_map.mp hv; exact cOk_p (h.1 p hp)) (by rw [List.length_map]; have := h.2; omega)
def runs (s : List (Nat × Nat)) (row : List Int) : List Int := s.foldl ex row
theorem runs_len (s : List (Nat × Nat)) : ∀ row : List Int, (runs s row).length = row.length := by
  induction s with
  | nil => intro row; rfl
  | cons p s ih => intro row; show (runs s (ex row p)).length = _; rw [ih, ex_len]
theorem okS_at {n : Nat} {s : List (Nat × Nat)} (h : okS n s) {row : List Int} (hl : row.length = n) : ∀ p ∈ s, p.1 < row.length ∧ p.2 < row.length := fun p hp => by
  obtain ⟨a, b⟩ := h.1 p hp
  omega
theorem sorted_by_v {n : Nat} (h1 : 2 ≤ n) (h2 : n ≤ 8) {s : List (Nat × Nat)} (h : okS n s) {row : List Int} (hl : row.length = n) : ap fn_sorted_by [.int n, tS s, tI row] = some (tI (runs s row)) := by
  refine (ap_def _).trans ?_
  have c1 := check_lined_v n (s.map pD) (by omega) (by omega) (fb_s h)
  have c2 := check_row_v row n hl h2
  have c3 := run_by_v s row (okS_at h hl)
  simp (config := {maxSteps := 3000000}) [rD, env0, sizeLine_eq, dSeq, dSkip, dRet, dIfS, dAsg, dAsgL, dAsgT, dDrop, dNo, dVar, dC, dBin, dOp, dB, dNot, dAnd, dOr, dAndV, dOrV, dNotV, dIsi, dChain2, dCh, dChE, dTup, dItems, asD, dLst, dConsD, dCons, dNil, R.bind, R.then, slD, free, tgN, tgT, tgCons, tgNil, oVal, oS, rsv, rsvs, dCb, gLe, gLt, gGt, gGe, gI0, gI, gMinus, gAdd, gIx, gLen, asSeq, asLs, gTuple, gList, gIsX, isNonA, dSome, dNone, dSl, gSl, vR, g_sorted_by, dcl2 cl_check_lined, c1, dcl2 cl_check_row, c2, dcl2 cl_run_by, c3, runs]
theorem does_sort_v {n : Nat} (h1 : 2 ≤ n) (h2 : n ≤ 8) {s : List (Nat × Nat)} (h : okS n s) {row : List Int} (hl : row.length = n) : ap fn_does_sort [.int n, tS s, tI row] = some (.bool (rising (runs s row))) := by
  refine (ap_def _).trans ?_
  have c1 := check_lined_v n (s.map pD) (by omega) (by omega) (fb_s h)
  have c2 := check_row_v row n hl h2
  have c3 := run_by_v s row (okS_at h hl)
  have c4 := rising_v (runs s row) (by rw [runs_len]; omega)
  simp only [runs] at c4 ⊢
  simp (config := {maxSteps := 3000000}) [rD, env0, sizeLine_eq, dSeq, dSkip, dRet, dIfS, dAsg, dAsgL, dAsgT, dDrop, dNo, dVar, dC, dBin, dOp, dB, dNot, dAnd, dOr, dAndV, dOrV, dNotV, dIsi, dChain2, dCh, dChE, dTup, dItems, asD, dLst, dConsD, dCons, dNil, R.bind, R.then, slD, free, tgN, tgT, tgCons, tgNil, oVal, oS, rsv, rsvs, dCb, gLe, gLt, gGt, gGe, gI0, gI, gMinus, gAdd, gIx, gLen, asSeq, asLs, gTuple, gList, gIsX, isNonA, dSome, dNone, dSl, gSl, vR, g_does_sort, dcl2 cl_check_lined, c1, dcl2 cl_check_row, c2, dcl2 cl_run_by, c3, dcl1 cl_rising, c4]
theorem disorder_v {n : Nat} (h1 : 2 ≤ n) (h2 : n ≤ 8) {row : List Int} (hl : row.length = n) : ap fn_disorder [.int n, tI row] = some (.int (inv row)) := by
  refine (ap_def _).trans ?_
  have c1 := check_lines_v n (by omega) (by omega)
  have c2 := check_row_v row n hl h2
  have c3 := disorder_by_v row (by omega)
  simp (config := {maxSteps := 3000000}) [rD, env0, sizeLine_eq, dSeq, dSkip, dRet, dIfS, dAsg, dAsgL, dAsgT, dDrop, dNo, dVar, dC, dBin, dOp, dB, dNot, dAnd, dOr, dAndV, dOrV, dNotV, dIsi, dChain2, dCh, dChE, dTup, dItems, asD, dLst, dConsD, dCons, dNil, R.bind, R.then, slD, free, tgN, tgT, tgCons, tgNil, oVal, oS, rsv, rsvs, dCb, gLe, gLt, gGt, gGe, gI0, gI, gMinus, gAdd, gIx, gLen, asSeq, asLs, gTuple, gList, gIsX, isNonA, dSome, dNone, dSl, gSl, vR, g_disorder, dcl1d cl_check_lines, c1, dcl2 cl_check_row, c2, dcl1 cl_disorder_by, c3]
/-! ## the law's own exchanging -/
theorem lb_loop (S : D) (R0 : D) : ∀ (s : List (Nat × Nat)) (here : List Int) (o o' : Option D), (∀ p ∈ s, p.1 < here.length ∧ p.2 < here.length) →
    ∃ u u', loop (tgT 2 (tgCons (tgN 3) (tgCons (tgN 4) (tgNil)))) (dIfS (dB (dBin gGt (dOp gIx (oS 2) (oVal (dVar 3))) (dOp gIx (oS 2) (oVal (dVar 4))))) (dAsgT (dTup (dConsD (dOp gIx (oS 2) (oVal (dVar 4))) (dConsD (dOp gIx (oS 2) (oVal (dVar 3))) (dNil)))) (tgT 2 (tgCons (tgSub 2 (dVar 3)) (tgCons (tgSub 2 (dVar 4)) (tgNil))))) (dSkip)) [] (s.map pD) [some (.val S), some (.val R0), some (.own (here.map .int)), oV o, oV o'] = .nx [some (.val S), some (.val R0), some (.own ((runs s here).map .int)), oV u, oV u']
  | [], here, o, o', _ => ⟨o, o', loop_nil⟩
  | p :: s, here, o, o', h => by
    have hp := h p (List.mem_cons_self ..)
    have hb : tgT 2 (tgCons (tgN 3) (tgCons (tgN 4) (tgNil))) (pD p) [some (.val S), some (.val R0), some (.own (here.map .int)), oV o, oV o'] = .ok () [some (.val S), some (.val R0), some (.own (here.map .int)), some (.val (.int p.1)), some (.val (.int p.2))] := by
      cases o <;> cases o' <;> simp (config := {maxSteps := 3000000}) [rD, env0, sizeLine_eq, dSeq, dSkip, dRet, dIfS, dAsg, dAsgL, dAsgT, dDrop, dNo, dVar, dC, dBin, dOp, dB, dNot, dAnd, dOr, dAndV, dOrV, dNotV, dIsi, dChain2, dCh, dChE, dTup, dItems, asD, dLst, dConsD, dCons, dNil, R.bind, R.then, slD, free, tgN, tgT, tgCons, tgNil, oVal, oS, rsv, rsvs, dCb, gLe, gLt, gGt, gGe, gI0, gI, gMinus, gAdd, gIx, gLen, asSeq, asLs, gTuple, gList, gIsX, isNonA, dSome, dNone, dSl, gSl, vR, oV]
    obtain ⟨u, u', ih⟩ := lb_loop S R0 s (ex here p) (some (.int p.1)) (some (.int p.2)) fun x hx => by rw [ex_len]; exact h x (List.mem_cons_of_mem _ hx)
    refine ⟨u, u', ?_⟩
    rw [List.map_cons, loop_cons hb]
    have e1 := ix_row here hp.1
    have e3 := ix_row here hp.2
    have a1 := at_row here hp.1
    have a2 := at_row here hp.2
    simp only [List.length_map] at e1 e3
    have step : dIfS (dB (dBin gGt (dOp gIx (oS 2) (oVal (dVar 3))) (dOp gIx (oS 2) (oVal (dVar 4))))) (dAsgT (dTup (dConsD (dOp gIx (oS 2) (oVal (dVar 4))) (dConsD (dOp gIx (oS 2) (oVal (dVar 3))) (dNil)))) (tgT 2 (tgCons (tgSub 2 (dVar 3)) (tgCons (tgSub 2 (dVar 4)) (tgNil))))) (dSkip) [some (.val S), some (.val R0), some (.own (here.map .int)), some (.val (.int p.1)), some (.val (.int p.2))] = .nx [some (.val S), some (.val R0), some (.own ((ex here p).map .int)), some (.val (.int p.1)), some (.val (.int p.2))] := by
      by_cases q : gt here p.1 ≤ gt here p.2
      · have q2 : ¬ gt here p.2 < gt here p.1 := by omega
        simp (config := {maxSteps := 3000000}) [rD, env0, sizeLine_eq, dSeq, dSkip, dRet, dIfS, dAsg, dAsgL, dAsgT, dDrop, dNo, dVar, dC, dBin, dOp, dB, dNot, dAnd, dOr, dAndV, dOrV, dNotV, dIsi, dChain2, dCh, dChE, dTup, dItems, asD, dLst, dConsD, dCons, dNil, R.bind, R.then, slD, free, tgN, tgT, tgCons, tgNil, oVal, oS, rsv, rsvs, dCb, gLe, gLt, gGt, gGe, gI0, gI, gMinus, gAdd, gIx, gLen, asSeq, asLs, gTuple, gList, gIsX, isNonA, dSome, dNone, dSl, gSl, vR, a1, a2, q, q2, ex]
      · have q2 : gt here p.2 < gt here p.1 := by omega
        simp (config := {maxSteps := 3000000}) [rD, env0, sizeLine_eq, dSeq, dSkip, dRet, dIfS, dAsg, dAsgL, dAsgT, dDrop, dNo, dVar, dC, dBin, dOp, dB, dNot, dAnd, dOr, dAndV, dOrV, dNotV, dIsi, dChain2, dCh, dChE, dTup, dItems, asD, dLst, dConsD, dCons, dNil, R.bind, R.then, slD, free, tgN, tgT, tgCons, tgNil, oVal, oS, rsv, rsvs, dCb, gLe, gLt, gGt, gGe, gI0, gI, gMinus, gAdd, gIx, gLen, asSeq, asLs, gTuple, gList, gIsX, isNonA, dSome, dNone, dSl, gSl, vR, a1, a2, q, q2, ex, tgSub, e1, e3]
    rw [step]
    exact ih
theorem law_behind_v (s : List (Nat × Nat)) (row : List Int) (h : ∀ p ∈ s, p.1 < row.length ∧ p.2 < row.length) : ap fn__law_behind [tS s, tI row] = some (tI (runs s row)) := by
  refine (ap_def _).trans ?_
  obtain ⟨u, u', L⟩ := lb_loop (tS s) (tI row) s row none none h
  simp only [oV, Option.map_none] at L
  simp (config := {maxSteps := 3000000}) [rD, env0, sizeLine_eq, dSeq, dSkip, dRet, dIfS, dAsg, dAsgL, dAsgT, dDrop, dNo, dVar, dC, dBin, dOp, dB, dNot, dAnd, dOr, dAndV, dOrV, dNotV, dIsi, dChain2, dCh, dChE, dTup, dItems, asD, dLst, dConsD, dCons, dNil, R.bind, R.then, slD, free, tgN, tgT, tgCons, tgNil, oVal, oS, rsv, rsvs, dCb, gLe, gLt, gGt, gGe, gI0, gI, gMinus, gAdd, gIx, gLen, asSeq, asLs, gTuple, gList, gIsX, isNonA, dSome, dNone, dSl, gSl, vR, g__law_behind, dFor, dIt, forget, L]
end T51

namespace T51
open L2 L2.G PySem PySem.Spec PyProof.Rows
theorem cl_turn : Cl fn__law_turn := ⟨_, _, rfl⟩
theorem cl_fits : Cl fn__law_fits := ⟨_, _, rfl⟩
theorem cl_choice : Cl fn__law_choice := ⟨_, _, rfl⟩
theorem cl_lsorter : Cl fn__law_sorter := ⟨_, _, rfl⟩
theorem cl_drawn : Cl fn__law_drawn_row := ⟨_, _, rfl⟩
/-! ## the wheel -/
def wh (z : Str) (s : Int) : List (Key × D) := [(Sum.inr "row", .str z), (Sum.inr "spin", .int s)]
structure Dig (z : Str) : Prop where
  d : NumText.AllDigits z.cps.toList
  l : z.length ≤ 100
def VW (w : List (Key × D)) : Prop := ∃ z s, w = wh z s ∧ Dig z
theorem kv1 (z : Str) (s : Int) : kvG (wh z s) (Sum.inr "row") = some (.str z) := by rfl
theorem kv2 (z : Str) (s : Int) : kvG (wh z s) (Sum.inr "spin") = some (.int s) := by rfl
theorem kp1 (z y : Str) (s : Int) : kvP (wh z s) (Sum.inr "row") (.str y) = wh y s := by rfl
theorem kp2 (z : Str) (s t : Int) : kvP (wh z s) (Sum.inr "spin") (.int t) = wh z t := by rfl
theorem wh_len (z : Str) (s : Int) : (wh z s).length = 2 := rfl
theorem len_l (z : Str) : z.length = z.cps.toList.length := by rw [Array.length_toList]; rfl
theorem dig_ok {z : Str} (h : Dig z) : PyData.canLay0 (.str z) = true := by
  show PyData.strOk z = true
  unfold PyData.strOk
  rw [Array.all_eq_true_iff_forall_mem]
  intro c hc
  have := h.d c (Array.mem_toList_iff.mpr hc)
  simp only [decide_eq_true_eq]
  omega
theorem cut3 (z : Str) : (cutS z none (some 3)).cps.toList = z.cps.toList.take 3 := by
  unfold cutS
  have := HT.sIx_nat z.length z.length 3
  rw [show (some (3 : Int)) = some ((3 : Nat) : Int) from rfl, this, HT.sIx_none]
  simp only [Nat.sub_zero, List.drop_zero]
  rw [len_l]
  by_cases h : 3 ≤ z.cps.toList.length
  · rw [Nat.min_eq_left h]
  · rw [Nat.min_eq_right (by omega), List.take_length, List.take_of_length_le (by omega)]
theorem cut3' (z : Str) : (cutS z (some 3) none).cps.toList = z.cps.toList.drop 3 := by
  unfold cutS
  have := HT.sIx_nat z.length 0 3
  rw [show (some (3 : Int)) = some ((3 : Nat) : Int) from rfl, this, HT.sIx_none]
  show (z.cps.toList.drop _).take _ = _
  rw [len_l]
  by_cases h : 3 ≤ z.cps.toList.length
  · rw [Nat.min_eq_left h, List.take_of_length_le (by rw [List.length_drop]; omega)]
  · rw [Nat.min_eq_right (by omega), List.drop_of_length_le (Nat.le_refl _), List.take_nil, List.drop_of_length_le (by omega)]
theorem fmod_in (a b : Int) (h : 0 < b) : 0 ≤ a.fmod b ∧ a.fmod b < b := ⟨Int.fmod_nonneg_of_pos a h, Int.fmod_lt_of_pos a h⟩
theorem str_ne {z : Str} (h : z.cps.toList ≠ []) : (z == ("" : Str)) = false := by
  rw [beq_eq_false_iff_ne]
  intro e
  subst e
  exact h rfl
theorem dig0 : Dig ("" : Str) := ⟨(fun c hc => absurd (show c ∈ ([] : List Nat) from hc) List.not_mem_nil), Nat.zero_le _⟩
theorem hok0 : PyData.canLay0 (.str ("" : Str)) = true := dig_ok dig0
theorem turn_v {w : List (Key × D)} (hw : VW w) {m : Int} (hm : 0 < m) : ∃ r w', apW fn__law_turn w [.int m] = some (.int r, w') ∧ 0 ≤ r ∧ r < m ∧ VW w' := by
  obtain ⟨z, s, rfl, hz⟩ := hw
  have hs : z.length ≤ 16777216 := by have := hz.l; omega
  have hok := dig_ok hz
  have mne : ¬ m = 0 := by omega
  by_cases e : z.cps.toList = []
  · have ez : z = ("" : Str) := by
      have : z.cps = #[] := by
        apply Array.toList_inj.mp
        exact e
      cases z
      simp only at this
      subst this
      rfl
    refine ⟨_, wh z ((s * 40692 + 8675309).fmod 2147483399), ?_, (fmod_in (((s * 40692 + 8675309).fmod 2147483399).fdiv 29) m hm).1, (fmod_in _ m hm).2, z, _, rfl, hz⟩
    refine (apW_def _ _).trans ?_
    subst ez
    simp (config := {maxSteps := 3000000}) [rD, env0, sizeLine_eq, dSeq, dSkip, dRet, dIfS, dAsg, dAsgL, dAsgT, dDrop, dNo, dVar, dC, dBin, dOp, dB, dNot, dAnd, dOr, dAndV, dOrV, dNotV, dIsi, dChain2, dCh, dChE, dTup, dItems, asD, dLst, dConsD, dCons, dNil, R.bind, R.then, slD, free, tgN, tgT, tgCons, tgNil, oVal, oS, rsv, rsvs, dCb, gLe, gLt, gGt, gGe, gI0, gI, gMinus, gAdd, gIx, gLen, asSeq, asLs, gTuple, gList, gIsX, isNonA, dSome, dNone, dSl, gSl, vR, g__law_turn, rW, dGet, dctOf, kv1, kv2, gE, toD, SeqAt.shaped, hok, PyData.depth, PyData.eqv, gMul, mulOk, small, wh_len, gFdiv, gMod, tgGet, dctTo, kp2, gInt, mne]
  · have e2 := str_ne e
    have d3 : NumText.AllDigits (cutS z none (some 3)).cps.toList := by
      rw [cut3]
      exact fun c hc => hz.d c (List.mem_of_mem_take hc)
    have n3 : (cutS z none (some 3)).cps.toList ≠ [] := by
      rw [cut3]
      intro q
      rw [List.take_eq_nil_iff] at q
      rcases q with q | q
      · cases q
      · exact e q
    have l3 : (cutS z none (some 3)).length ≤ 640 := by
      rw [len_l, cut3, List.length_take]
      omega
    have i3 := PySem.intText_digits d3 n3 (by omega)
    have dd : Dig (cutS z (some 3) none) := by
      refine ⟨?_, ?_⟩
      · rw [cut3']
        exact fun c hc => hz.d c (List.mem_of_mem_drop hc)
      · have := hz.l
        rw [len_l] at this
        rw [len_l, cut3', List.length_drop]
        omega
    refine ⟨_, wh (cutS z (some 3) none) s, ?_, (fmod_in ((NumText.digitsVal (cutS z none (some 3)).cps.toList : Nat) : Int) m hm).1, (fmod_in _ m hm).2, _, _, rfl, dd⟩
    refine (apW_def _ _).trans ?_
    simp (config := {maxSteps := 3000000}) [rD, env0, sizeLine_eq, dSeq, dSkip, dRet, dIfS, dAsg, dAsgL, dAsgT, dDrop, dNo, dVar, dC, dBin, dOp, dB, dNot, dAnd, dOr, dAndV, dOrV, dNotV, dIsi, dChain2, dCh, dChE, dTup, dItems, asD, dLst, dConsD, dCons, dNil, R.bind, R.then, slD, free, tgN, tgT, tgCons, tgNil, oVal, oS, rsv, rsvs, dCb, gLe, gLt, gGt, gGe, gI0, gI, gMinus, gAdd, gIx, gLen, asSeq, asLs, gTuple, gList, gIsX, isNonA, dSome, dNone, dSl, gSl, vR, g__law_turn, rW, dGet, dctOf, kv1, kv2, gE, toD, SeqAt.shaped, hok, PyData.depth, PyData.eqv, e2, hok0, hs, tgGet, wh_len, gMod, dctTo, kp1, gInt, l3, i3, mne]
theorem call_w1 {fn : Fn} (c : Cl fn) {ρ : En} {i : Nat} {s : Sl} {w w' : List (Key × D)} {f1 : En → R D} {a r : D} (h0 : slD ρ i = some s) (hw : dctOf ρ i = some w) (h1 : f1 ρ = .ok a ρ) (e : apW fn w [a] = some (r, w')) :
    dCl fn (dCons (oS i) (dConsD f1 dNil)) dNil [0, 1] [] ρ = .ok r (dctTo ρ i w') := by
  rw [dclw1 c h0 h1 hw]
  unfold wR
  rw [hw]
  simp only [e]
theorem call_w2 {fn : Fn} (c : Cl fn) {ρ ρ1 : En} {i : Nat} {s : Sl} {w w' : List (Key × D)} {f1 f2 : En → R D} {a b r : D} (h0 : slD ρ i = some s) (h1 : f1 ρ = .ok a ρ) (h2 : f2 ρ = .ok b ρ1) (hw : dctOf ρ1 i = some w) (e : apW fn w [a, b] = some (r, w')) :
    dCl fn (dCons (oS i) (dConsD f1 (dConsD f2 dNil))) dNil [0, 1, 2] [] ρ = .ok r (dctTo ρ1 i w') := by
  rw [dclw2 c h0 h1 h2 hw]
  unfold wR
  rw [hw]
  simp only [e]
theorem turn_at {w : List (Key × D)} (hw : VW w) {m : Int} (hm : 0 < m) : ∃ r w', (0 ≤ r ∧ r < m) ∧ VW w' ∧ ∀ (rest : En) (f1 : En → R D), f1 (some (.arg w) :: rest) = .ok (.int m) (some (.arg w) :: rest) →
    dCl fn__law_turn (dCons (oS 0) (dConsD f1 dNil)) dNil [0, 1] [] (some (.arg w) :: rest) = .ok (.int r) (some (.arg w') :: rest) := by
  obtain ⟨r, w', e, h1, h2, h3⟩ := turn_v hw hm
  exact ⟨r, w', ⟨h1, h2⟩, h3, fun rest f1 hf => (call_w1 cl_turn (s := .arg w) rfl rfl hf e).trans rfl⟩
theorem choice_v {w : List (Key × D)} (hw : VW w) (ds : List D) (h0 : ds ≠ []) (hl : ds.length ≤ 100) : ∃ d w', apW fn__law_choice w [.tuple ds] = some (d, w') ∧ d ∈ ds ∧ VW w' := by
  have hp : 0 < ds.length := List.length_pos_iff.mpr h0
  obtain ⟨r, w', ⟨h1, h2⟩, h3, H⟩ := turn_at hw (m := (ds.length : Int)) (by omega)
  obtain ⟨k, rfl⟩ := Int.eq_ofNat_of_zero_le h1
  have hk : k < ds.length := by omega
  refine ⟨ds[k], w', ?_, List.getElem_mem hk, h3⟩
  refine (apW_def _ _).trans ?_
  have e := H [some (.val (.tuple ds))] (dCb gLen (dConsD (dVar 1) (dNil))) (by simp (config := {maxSteps := 3000000}) [rD, env0, sizeLine_eq, dSeq, dSkip, dRet, dIfS, dAsg, dAsgL, dAsgT, dDrop, dNo, dVar, dC, dBin, dOp, dB, dNot, dAnd, dOr, dAndV, dOrV, dNotV, dIsi, dChain2, dCh, dChE, dTup, dItems, asD, dLst, dConsD, dCons, dNil, R.bind, R.then, slD, free, tgN, tgT, tgCons, tgNil, oVal, oS, rsv, rsvs, dCb, gLe, gLt, gGt, gGe, gI0, gI, gMinus, gAdd, gIx, gLen, asSeq, asLs, gTuple, gList, gIsX, isNonA, dSome, dNone, dSl, gSl, vR])
  have ea := atI_nat ds hk
  rw [List.getElem?_eq_getElem hk] at ea
  simp (config := {maxSteps := 3000000}) [rD, env0, sizeLine_eq, dSeq, dSkip, dRet, dIfS, dAsg, dAsgL, dAsgT, dDrop, dNo, dVar, dC, dBin, dOp, dB, dNot, dAnd, dOr, dAndV, dOrV, dNotV, dIsi, dChain2, dCh, dChE, dTup, dItems, asD, dLst, dConsD, dCons, dNil, R.bind, R.then, slD, free, tgN, tgT, tgCons, tgNil, oVal, oS, rsv, rsvs, dCb, gLe, gLt, gGt, gGe, gI0, gI, gMinus, gAdd, gIx, gLen, asSeq, asLs, gTuple, gList, gIsX, isNonA, dSome, dNone, dSl, gSl, vR, g__law_choice, rW, e, ea]
end T51

namespace T51
open L2 L2.G PySem PySem.Spec PyProof.Rows
theorem ls_loop (n m : Nat) (hn : 2 ≤ n) (L : List D) : ∀ (w : List (Key × D)) (acc : List (Nat × Nat)) (a b : Option D), VW w → acc.length + L.length ≤ 1000 → ∃ w' s a' b', VW w' ∧ (∀ p ∈ s, okP n p) ∧ s.length = L.length ∧
    loop (tgN 4) (dSeq (dAsg 5 (dCl fn__law_turn (dCons (oS 0) (dConsD (dBin gMinus (dVar 1) (dC (.int 1))) (dNil))) dNil [0, 1] []))
      (dApp 3 (dTup (dConsD (dVar 5) (dConsD (dBin gAdd (dBin gAdd (dVar 5) (dC (.int 1))) (dCl fn__law_turn (dCons (oS 0) (dConsD (dBin gMinus (dBin gMinus (dVar 1) (dC (.int 1))) (dVar 5)) (dNil))) dNil [0, 1] [])) (dNil)))))) [] L
      [some (.arg w), some (.val (.int n)), some (.val (.int m)), some (.own (acc.map pD)), oV a, oV b] = .nx [some (.arg w'), some (.val (.int n)), some (.val (.int m)), some (.own ((acc ++ s).map pD)), oV a', oV b'] := by
  induction L with
  | nil => exact fun w acc a b hw _ => ⟨w, [], a, b, hw, (fun p hp => by cases hp), rfl, by rw [List.append_nil]; exact loop_nil⟩
  | cons d L ih =>
    intro w acc a b hw hl
    obtain ⟨r, w1, ⟨h1, h2⟩, hw1, H1⟩ := turn_at hw (m := (n : Int) - 1) (by omega)
    obtain ⟨x, rfl⟩ := Int.eq_ofNat_of_zero_le h1
    obtain ⟨r, w2, ⟨h3, h4⟩, hw2, H2⟩ := turn_at hw1 (m := (n : Int) - 1 - (x : Int)) (by omega)
    obtain ⟨y, rfl⟩ := Int.eq_ofNat_of_zero_le h3
    rw [List.length_cons] at hl
    obtain ⟨w', s, a', b', q1, q2, q3, q4⟩ := ih w2 (acc ++ [(x, x + 1 + y)]) (some d) (some (.int x)) hw2 (by rw [List.length_append, List.length_singleton]; omega)
    refine ⟨w', (x, x + 1 + y) :: s, a', b', q1, ?_, by rw [List.length_cons, List.length_cons, q3], ?_⟩
    · intro p hp
      cases hp with
      | head => exact ⟨by show x < x + 1 + y; omega, by show x + 1 + y < n; omega⟩
      | tail _ hp => exact q2 p hp
    · have hb : tgN 4 d [some (.arg w), some (.val (.int n)), some (.val (.int m)), some (.own (acc.map pD)), oV a, oV b] = .ok () [some (.arg w), some (.val (.int n)), some (.val (.int m)), some (.own (acc.map pD)), some (.val d), oV b] := by
        cases a <;> simp (config := {maxSteps := 3000000}) [rD, env0, sizeLine_eq, dSeq, dSkip, dRet, dIfS, dAsg, dAsgL, dAsgT, dDrop, dNo, dVar, dC, dBin, dOp, dB, dNot, dAnd, dOr, dAndV, dOrV, dNotV, dIsi, dChain2, dCh, dChE, dTup, dItems, asD, dLst, dConsD, dCons, dNil, R.bind, R.then, slD, free, tgN, tgT, tgCons, tgNil, oVal, oS, rsv, rsvs, dCb, gLe, gLt, gGt, gGe, gI0, gI, gMinus, gAdd, gIx, gLen, asSeq, asLs, gTuple, gList, gIsX, isNonA, dSome, dNone, dSl, gSl, vR, oV]
      rw [loop_cons hb]
      have e1 := H1 [some (.val (.int n)), some (.val (.int m)), some (.own (acc.map pD)), some (.val d), oV b] (dBin gMinus (dVar 1) (dC (.int 1))) (by simp (config := {maxSteps := 3000000}) [rD, env0, sizeLine_eq, dSeq, dSkip, dRet, dIfS, dAsg, dAsgL, dAsgT, dDrop, dNo, dVar, dC, dBin, dOp, dB, dNot, dAnd, dOr, dAndV, dOrV, dNotV, dIsi, dChain2, dCh, dChE, dTup, dItems, asD, dLst, dConsD, dCons, dNil, R.bind, R.then, slD, free, tgN, tgT, tgCons, tgNil, oVal, oS, rsv, rsvs, dCb, gLe, gLt, gGt, gGe, gI0, gI, gMinus, gAdd, gIx, gLen, asSeq, asLs, gTuple, gList, gIsX, isNonA, dSome, dNone, dSl, gSl, vR])
      have e2 := H2 [some (.val (.int n)), some (.val (.int m)), some (.own (acc.map pD)), some (.val d), some (.val (.int x))] (dBin gMinus (dBin gMinus (dVar 1) (dC (.int 1))) (dVar 5)) (by simp (config := {maxSteps := 3000000}) [rD, env0, sizeLine_eq, dSeq, dSkip, dRet, dIfS, dAsg, dAsgL, dAsgT, dDrop, dNo, dVar, dC, dBin, dOp, dB, dNot, dAnd, dOr, dAndV, dOrV, dNotV, dIsi, dChain2, dCh, dChE, dTup, dItems, asD, dLst, dConsD, dCons, dNil, R.bind, R.then, slD, free, tgN, tgT, tgCons, tgNil, oVal, oS, rsv, rsvs, dCb, gLe, gLt, gGt, gGe, gI0, gI, gMinus, gAdd, gIx, gLen, asSeq, asLs, gTuple, gList, gIsX, isNonA, dSome, dNone, dSl, gSl, vR])
      have el : acc.length < 16777216 := by omega
      have fr : free [some (.arg w1), some (.val (.int n)), some (.val (.int m)), some (.own (acc.map pD)), some (.val d), oV b] 5 = true := by
        cases b <;> rfl
      have step : dSeq (dAsg 5 (dCl fn__law_turn (dCons (oS 0) (dConsD (dBin gMinus (dVar 1) (dC (.int 1))) (dNil))) dNil [0, 1] [])) (dApp 3 (dTup (dConsD (dVar 5) (dConsD (dBin gAdd (dBin gAdd (dVar 5) (dC (.int 1))) (dCl fn__law_turn (dCons (oS 0) (dConsD (dBin gMinus (dBin gMinus (dVar 1) (dC (.int 1))) (dVar 5)) (dNil))) dNil [0, 1] [])) (dNil))))) [some (.arg w), some (.val (.int n)), some (.val (.int m)), some (.own (acc.map pD)), some (.val d), oV b] = .nx [some (.arg w2), some (.val (.int n)), some (.val (.int m)), some (.own ((acc ++ [(x, x + 1 + y)]).map pD)), some (.val d), some (.val (.int x))] := by
        cases b <;> simp only [oV, Option.map_none, Option.map_some] at e1 <;> simp (config := {maxSteps := 3000000}) [rD, env0, sizeLine_eq, dSeq, dSkip, dRet, dIfS, dAsg, dAsgL, dAsgT, dDrop, dNo, dVar, dC, dBin, dOp, dB, dNot, dAnd, dOr, dAndV, dOrV, dNotV, dIsi, dChain2, dCh, dChE, dTup, dItems, asD, dLst, dConsD, dCons, dNil, R.bind, R.then, slD, free, tgN, tgT, tgCons, tgNil, oVal, oS, rsv, rsvs, dCb, gLe, gLt, gGt, gGe, gI0, gI, gMinus, gAdd, gIx, gLen, asSeq, asLs, gTuple, gList, gIsX, isNonA, dSome, dNone, dSl, gSl, vR, e1, e2, dApp, el, oV]
      rw [step]
      simp only [oV, Option.map_some] at q4
      rw [List.append_assoc] at q4
      exact q4
end T51

namespace T51
open L2 L2.G PySem PySem.Spec PyProof.Rows
theorem lsorter_v {w : List (Key × D)} (hw : VW w) {n m : Nat} (hn : 2 ≤ n) (hm : m ≤ 60) : ∃ s w', apW fn__law_sorter w [.int n, .int m] = some (tS s, w') ∧ okS n s ∧ VW w' := by
  obtain ⟨w', s, a', b', h1, h2, h3, h4⟩ := ls_loop n m hn (rgD 0 m) w [] none none hw (by unfold rgD; simp; omega)
  have hlen : s.length = m := by rw [h3]; unfold rgD; simp
  refine ⟨s, w', ?_, ⟨h2, by omega⟩, h1⟩
  refine (apW_def _ _).trans ?_
  simp only [oV, Option.map_none, List.map_nil, List.nil_append] at h4
  have er := rg_ok m (by omega)
  have s1 : dAsgL 3 (dItems (dNil)) [some (.arg w), some (.val (.int n)), some (.val (.int m)), none, none, none] = .nx [some (.arg w), some (.val (.int n)), some (.val (.int m)), some (.own []), none, none] := by simp (config := {maxSteps := 3000000}) [rD, env0, sizeLine_eq, dSeq, dSkip, dRet, dIfS, dAsg, dAsgL, dAsgT, dDrop, dNo, dVar, dC, dBin, dOp, dB, dNot, dAnd, dOr, dAndV, dOrV, dNotV, dIsi, dChain2, dCh, dChE, dTup, dItems, asD, dLst, dConsD, dCons, dNil, R.bind, R.then, slD, free, tgN, tgT, tgCons, tgNil, oVal, oS, rsv, rsvs, dCb, gLe, gLt, gGt, gGe, gI0, gI, gMinus, gAdd, gIx, gLen, asSeq, asLs, gTuple, gList, gIsX, isNonA, dSome, dNone, dSl, gSl, vR]
  have s2 : dIt1 (dVar 2) [some (.arg w), some (.val (.int n)), some (.val (.int m)), some (.own []), none, none] = .ok (rgD 0 m) [some (.arg w), some (.val (.int n)), some (.val (.int m)), some (.own []), none, none] := it1_ok (by simp (config := {maxSteps := 3000000}) [rD, env0, sizeLine_eq, dSeq, dSkip, dRet, dIfS, dAsg, dAsgL, dAsgT, dDrop, dNo, dVar, dC, dBin, dOp, dB, dNot, dAnd, dOr, dAndV, dOrV, dNotV, dIsi, dChain2, dCh, dChE, dTup, dItems, asD, dLst, dConsD, dCons, dNil, R.bind, R.then, slD, free, tgN, tgT, tgCons, tgNil, oVal, oS, rsv, rsvs, dCb, gLe, gLt, gGt, gGe, gI0, gI, gMinus, gAdd, gIx, gLen, asSeq, asLs, gTuple, gList, gIsX, isNonA, dSome, dNone, dSl, gSl, vR]) er
  have s3 : dRet (dCb gTuple (dCons (oS 3) (dNil))) [some (.arg w'), some (.val (.int n)), some (.val (.int m)), some (.own (s.map pD)), oV a', oV b'] = .ret (tS s) [some (.arg w'), some (.val (.int n)), some (.val (.int m)), some (.own (s.map pD)), oV a', oV b'] := by simp (config := {maxSteps := 3000000}) [rD, env0, sizeLine_eq, dSeq, dSkip, dRet, dIfS, dAsg, dAsgL, dAsgT, dDrop, dNo, dVar, dC, dBin, dOp, dB, dNot, dAnd, dOr, dAndV, dOrV, dNotV, dIsi, dChain2, dCh, dChE, dTup, dItems, asD, dLst, dConsD, dCons, dNil, R.bind, R.then, slD, free, tgN, tgT, tgCons, tgNil, oVal, oS, rsv, rsvs, dCb, gLe, gLt, gGt, gGe, gI0, gI, gMinus, gAdd, gIx, gLen, asSeq, asLs, gTuple, gList, gIsX, isNonA, dSome, dNone, dSl, gSl, vR]
  have s4 := (seq_nx s1).trans ((seq_nx ((for_ok s2).trans h4)).trans s3)
  exact (congrArg (rW w) s4).trans rfl
end T51

namespace T51
open L2 L2.G PySem PySem.Spec PyProof.Rows
theorem fits_v {a : D} (h : tm a = true) (hd : a.depth ≤ 64) (hw : a.weight ≤ 2 ^ 17) : ap fn__law_fits [a, a] = some (.bool true) := by
  refine (ap_def _).trans ?_
  have e1 := shaped_of h hd
  have e2 := shows_of h hd hw
  have e3 := SeqAt.eqv_refl a (tm_lay a h)
  have e4 := shown_text h
  simp (config := {maxSteps := 3000000}) [rD, env0, sizeLine_eq, dSeq, dSkip, dRet, dIfS, dAsg, dAsgL, dAsgT, dDrop, dNo, dVar, dC, dBin, dOp, dB, dNot, dAnd, dOr, dAndV, dOrV, dNotV, dIsi, dChain2, dCh, dChE, dTup, dItems, asD, dLst, dConsD, dCons, dNil, R.bind, R.then, slD, free, tgN, tgT, tgCons, tgNil, oVal, oS, rsv, rsvs, dCb, gLe, gLt, gGt, gGe, gI0, gI, gMinus, gAdd, gIx, gLen, asSeq, asLs, gTuple, gList, gIsX, isNonA, dSome, dNone, dSl, gSl, vR, g__law_fits, gE, toD, tm_lay a h, hd, e3, dRp, e2, SeqAt.shaped, e4, PyData.depth, PyData.eqv]
theorem small_ok {i : Int} (h1 : -1000000 ≤ i) (h2 : i ≤ 1000000) : small i = true := by
  have a : -(2 ^ 64) < i := Int.lt_of_lt_of_le (by decide) h1
  have b : i < 2 ^ 64 := Int.lt_of_le_of_lt h2 (by decide)
  unfold small
  rw [decide_eq_true a, decide_eq_true b]
  rfl
/-! ## drawn rows -/
def big (x : Int) : Prop := x.natAbs < 10 ^ 28
theorem drawn_lcl (V0 Y : D) (P : Int → Prop) (fe : En → R D) (H : ∀ w d, VW w → ∃ x w', VW w' ∧ P x ∧ fe [some (.arg w), some (.val V0), some (.val Y), some (.val d)] = .ok (.int x) [some (.arg w'), some (.val V0), some (.val Y), some (.val d)]) :
    ∀ (L : List D) (w : List (Key × D)), VW w → ∃ (xs : List Int) (w' : List (Key × D)), VW w' ∧ (∀ x ∈ xs, P x) ∧ xs.length = L.length ∧ lcl (tgN 3) dYes fe [3] L [some (.arg w), some (.val V0), some (.val Y), none] = .ok (xs.map .int) [some (.arg w'), some (.val V0), some (.val Y), none]
  | [], w, hw => ⟨[], w, hw, (fun x hx => by cases hx), rfl, by unfold lcl; rfl⟩
  | d :: L, w, hw => by
    obtain ⟨x, w1, hw1, hx, e⟩ := H w d hw
    obtain ⟨xs, w', hw', hxs, hl, e2⟩ := drawn_lcl V0 Y P fe H L w1 hw1
    refine ⟨x :: xs, w', hw', ?_, by rw [List.length_cons, List.length_cons, hl], ?_⟩
    · intro y hy
      rcases List.mem_cons.mp hy with z | hy
      · rw [z]; exact hx
      · exact hxs y hy
    · unfold lcl
      have a1 : tgN 3 d [some (.arg w), some (.val V0), some (.val Y), none] = .ok () [some (.arg w), some (.val V0), some (.val Y), some (.val d)] := by rfl
      rw [a1]
      simp only [R.bind, dYes]
      rw [e]
      simp only []
      rw [if_pos (show okV [some (.arg w1), some (.val V0), some (.val Y), some (.val d)] [3] = true from rfl)]
      have a2 : wipeD [some (.arg w1), some (.val V0), some (.val Y), some (.val d)] [3] = [some (.arg w1), some (.val V0), some (.val Y), none] := rfl
      rw [a2, e2]
      rfl
theorem drawn_lc {V0 : Nat} {Y : D} {P : Int → Prop} {fe : En → R D} (h8 : V0 ≤ 8) (H : ∀ w d, VW w → ∃ x w', VW w' ∧ P x ∧ fe [some (.arg w), some (.val (.int V0)), some (.val Y), some (.val d)] = .ok (.int x) [some (.arg w'), some (.val (.int V0)), some (.val Y), some (.val d)])
    {w : List (Key × D)} (hw : VW w) : ∃ (xs : List Int) (w' : List (Key × D)), VW w' ∧ (∀ x ∈ xs, P x) ∧ xs.length = V0 ∧
      dRet (dCb gTuple (dConsD (dLst (dLc (dIt1 (dVar 1)) (tgN 3) dYes fe [3])) dNil)) [some (.arg w), some (.val (.int V0)), some (.val Y), none] = .ret (tI xs) [some (.arg w'), some (.val (.int V0)), some (.val Y), none] := by
  obtain ⟨xs, w', h1, h2, h3, h4⟩ := drawn_lcl (.int V0) Y P fe H (rgD 0 V0) w hw
  have hl : (rgD 0 (V0 : Int)).length = V0 := by rw [rgD_nat, List.length_map, List.length_range]
  refine ⟨xs, w', h1, h2, by rw [h3, hl], ?_⟩
  have e1 : dIt1 (dVar 1) [some (.arg w), some (.val (.int V0)), some (.val Y), none] = .ok (rgD 0 V0) [some (.arg w), some (.val (.int V0)), some (.val Y), none] := it1_ok (by rfl) (rg_ok V0 (by omega))
  have e2 : dLc (dIt1 (dVar 1)) (tgN 3) dYes fe [3] [some (.arg w), some (.val (.int V0)), some (.val Y), none] = .ok (xs.map .int) [some (.arg w'), some (.val (.int V0)), some (.val Y), none] := by
    unfold dLc
    rw [e1]
    simp only [R.bind]
    rw [if_pos ⟨rfl, len_S _ (by rw [hl]; omega)⟩]
    have a2 : wipeD [some (.arg w), some (.val (.int V0)), some (.val Y), none] [3] = [some (.arg w), some (.val (.int V0)), some (.val Y), none] := rfl
    rw [a2, h4]
    rfl
  unfold dRet dCb dConsD dLst
  rw [e2]
  rfl
theorem big_small {x : Int} (a b : Int) (h1 : a ≤ x) (h2 : x ≤ b) (ha : -(10 ^ 27) ≤ a := by decide) (hb : b ≤ 10 ^ 27 := by decide) : big x := by
  unfold big
  have e1 : (10 : Int) ^ 27 = 1000000000000000000000000000 := by decide
  have e2 : (10 : Nat) ^ 28 = 10000000000000000000000000000 := by decide
  rw [e1] at ha hb
  rw [e2]
  omega
theorem if_no {c : En → R Bool} {f g : En → RS} {ρ ρ1 : En} (h : c ρ = .ok false ρ1) : dIfS c f g ρ = g ρ1 := by
  unfold dIfS
  rw [h]
theorem if_yes {c : En → R Bool} {f g : En → RS} {ρ ρ1 : En} (h : c ρ = .ok true ρ1) : dIfS c f g ρ = f ρ1 := by
  unfold dIfS
  rw [h]
theorem seq_ret {f g : En → RS} {ρ ρ1 : En} {d : D} (h : f ρ = .ret d ρ1) : dSeq f g ρ = .ret d ρ1 := by
  unfold dSeq
  rw [h]
theorem drawn_v {w : List (Key × D)} (hw : VW w) {n : Nat} (h8 : n ≤ 8) : ∃ row w', apW fn__law_drawn_row w [.int n] = some (tI row, w') ∧ row.length = n ∧ (∀ x ∈ row, big x) ∧ VW w' := by
  obtain ⟨r, w1, ⟨q1, q2⟩, hw1, H1⟩ := turn_at hw (m := 4) (by decide)
  have e1 := H1 [some (.val (.int n)), none, none] (dC (.int 4)) rfl
  have s1 : dAsg 2 (dCl fn__law_turn (dCons (oS 0) (dConsD (dC (.int 4)) (dNil))) dNil [0, 1] []) [some (.arg w), some (.val (.int n)), none, none] = .nx [some (.arg w1), some (.val (.int n)), some (.val (.int r)), none] := by
    unfold dAsg
    rw [e1]
    rfl
  have c0 : dB (dBin gEq (dVar 2) (dC (.int 0))) [some (.arg w1), some (.val (.int n)), some (.val (.int r)), none] = .ok (r == 0) [some (.arg w1), some (.val (.int n)), some (.val (.int r)), none] := by simp (config := {maxSteps := 3000000}) [rD, env0, sizeLine_eq, dSeq, dSkip, dRet, dIfS, dAsg, dAsgL, dAsgT, dDrop, dNo, dVar, dC, dBin, dOp, dB, dNot, dAnd, dOr, dAndV, dOrV, dNotV, dIsi, dChain2, dCh, dChE, dTup, dItems, asD, dLst, dConsD, dCons, dNil, R.bind, R.then, slD, free, tgN, tgT, tgCons, tgNil, oVal, oS, rsv, rsvs, dCb, gLe, gLt, gGt, gGe, gI0, gI, gMinus, gAdd, gIx, gLen, asSeq, asLs, gTuple, gList, gIsX, isNonA, dSome, dNone, dSl, gSl, vR, gE, toD, SeqAt.shaped, PyData.canLay0, PyData.depth, PyData.eqv]
  have c1 : dB (dBin gEq (dVar 2) (dC (.int 1))) [some (.arg w1), some (.val (.int n)), some (.val (.int r)), none] = .ok (r == 1) [some (.arg w1), some (.val (.int n)), some (.val (.int r)), none] := by simp (config := {maxSteps := 3000000}) [rD, env0, sizeLine_eq, dSeq, dSkip, dRet, dIfS, dAsg, dAsgL, dAsgT, dDrop, dNo, dVar, dC, dBin, dOp, dB, dNot, dAnd, dOr, dAndV, dOrV, dNotV, dIsi, dChain2, dCh, dChE, dTup, dItems, asD, dLst, dConsD, dCons, dNil, R.bind, R.then, slD, free, tgN, tgT, tgCons, tgNil, oVal, oS, rsv, rsvs, dCb, gLe, gLt, gGt, gGe, gI0, gI, gMinus, gAdd, gIx, gLen, asSeq, asLs, gTuple, gList, gIsX, isNonA, dSome, dNone, dSl, gSl, vR, gE, toD, SeqAt.shaped, PyData.canLay0, PyData.depth, PyData.eqv]
  show ∃ row w', (apW (fnOf 2 g__law_drawn_row) w [.int n]) = some (tI row, w') ∧ _
  rw [apW_def]
  show ∃ row w', rW w (g__law_drawn_row [some (.arg w), some (.val (.int n)), none, none]) = some (tI row, w') ∧ _
  unfold g__law_drawn_row
  rw [seq_nx s1]
  by_cases z0 : r = 0
  · subst z0
    obtain ⟨xs, w', a1, a2, a3, a4⟩ := drawn_lc (V0 := n) (Y := .int 0) (P := big) (fe := dCl fn__law_turn (dCons (oS 0) (dConsD (dC (.int 3)) (dNil))) dNil [0, 1] []) h8 (fun w d hw => by
      obtain ⟨x, w', ⟨p1, p2⟩, p3, p4⟩ := turn_at hw (m := 3) (by decide)
      exact ⟨x, w', p3, big_small 0 3 p1 (by omega), p4 _ _ rfl⟩) hw1
    have q : dSeq (dIfS (dB (dBin gEq (dVar 2) (dC (.int 0)))) (dRet (dCb gTuple (dConsD (dLst (dLc (dIt1 (dVar 1)) (tgN 3) (dYes) (dCl fn__law_turn (dCons (oS 0) (dConsD (dC (.int 3)) (dNil))) dNil [0, 1] []) [3])) (dNil)))) (dSkip)) (dSeq (dIfS (dB (dBin gEq (dVar 2) (dC (.int 1)))) (dRet (dCb gTuple (dConsD (dLst (dLc (dIt1 (dVar 1)) (tgN 3) (dYes) (dBin gAdd (dBin gMul (dBin gMinus (dCl fn__law_turn (dCons (oS 0) (dConsD (dC (.int 900)) (dNil))) dNil [0, 1] []) (dC (.int 450))) (dBin gPow (dC (.int 10)) (dC (.int 25)))) (dCl fn__law_turn (dCons (oS 0) (dConsD (dC (.int 2)) (dNil))) dNil [0, 1] [])) [3])) (dNil)))) (dSkip))
      (dRet (dCb gTuple (dConsD (dLst (dLc (dIt1 (dVar 1)) (tgN 3) (dYes) (dBin gMinus (dCl fn__law_turn (dCons (oS 0) (dConsD (dC (.int 90)) (dNil))) dNil [0, 1] []) (dBin gMul (dC (.int 30)) (dVar 2))) [3])) (dNil))))) [some (.arg w1), some (.val (.int n)), some (.val (.int 0)), none] = .ret (tI xs) [some (.arg w'), some (.val (.int n)), some (.val (.int 0)), none] := seq_ret ((if_yes c0).trans a4)
    rw [q]
    exact ⟨xs, w', rfl, a3, a2, a1⟩
  · have b0 : (r == 0) = false := beq_eq_false_iff_ne.mpr z0
    rw [b0] at c0
    rw [seq_nx ((if_no (g := dSkip) c0).trans (show dSkip _ = RS.nx _ from rfl))]
    by_cases z1 : r = 1
    · subst z1
      obtain ⟨xs, w', a1, a2, a3, a4⟩ := drawn_lc (V0 := n) (Y := .int 1) (P := big) (fe := dBin gAdd (dBin gMul (dBin gMinus (dCl fn__law_turn (dCons (oS 0) (dConsD (dC (.int 900)) (dNil))) dNil [0, 1] []) (dC (.int 450))) (dBin gPow (dC (.int 10)) (dC (.int 25)))) (dCl fn__law_turn (dCons (oS 0) (dConsD (dC (.int 2)) (dNil))) dNil [0, 1] [])) h8 (fun w d hw => by
        obtain ⟨x, w', ⟨p1, p2⟩, p3, p4⟩ := turn_at hw (m := 900) (by decide)
        obtain ⟨y, w2, ⟨p5, p6⟩, p7, p8⟩ := turn_at p3 (m := 2) (by decide)
        have e1 := p4 [some (.val (.int n)), some (.val (.int 1)), some (.val d)] (dC (.int 900)) rfl
        have e2 := p8 [some (.val (.int n)), some (.val (.int 1)), some (.val d)] (dC (.int 2)) rfl
        have hm : mulOk (x - 450) 10000000000000000000000000 = true := by
          have := small_ok (i := x - 450) (by omega) (by omega)
          unfold mulOk
          rw [this]
          rfl
        refine ⟨(x - 450) * 10000000000000000000000000 + y, w2, p7, ?_, ?_⟩
        · unfold big
          have e2 : (10 : Nat) ^ 28 = 10000000000000000000000000000 := by decide
          rw [e2]
          omega
        · simp (config := {maxSteps := 3000000}) [rD, env0, sizeLine_eq, dSeq, dSkip, dRet, dIfS, dAsg, dAsgL, dAsgT, dDrop, dNo, dVar, dC, dBin, dOp, dB, dNot, dAnd, dOr, dAndV, dOrV, dNotV, dIsi, dChain2, dCh, dChE, dTup, dItems, asD, dLst, dConsD, dCons, dNil, R.bind, R.then, slD, free, tgN, tgT, tgCons, tgNil, oVal, oS, rsv, rsvs, dCb, gLe, gLt, gGt, gGe, gI0, gI, gMinus, gAdd, gIx, gLen, asSeq, asLs, gTuple, gList, gIsX, isNonA, dSome, dNone, dSl, gSl, vR, e1, e2, gMul, hm]) hw1
      rw [seq_ret ((if_yes c1).trans a4)]
      exact ⟨xs, w', rfl, a3, a2, a1⟩
    · have b1 : (r == 1) = false := beq_eq_false_iff_ne.mpr z1
      rw [b1] at c1
      rw [seq_nx ((if_no (g := dSkip) c1).trans (show dSkip _ = RS.nx _ from rfl))]
      obtain ⟨xs, w', a1, a2, a3, a4⟩ := drawn_lc (V0 := n) (Y := .int r) (P := big) (fe := dBin gMinus (dCl fn__law_turn (dCons (oS 0) (dConsD (dC (.int 90)) (dNil))) dNil [0, 1] []) (dBin gMul (dC (.int 30)) (dVar 2))) h8 (fun w d hw => by
        obtain ⟨x, w', ⟨p1, p2⟩, p3, p4⟩ := turn_at hw (m := 90) (by decide)
        have e1 := p4 [some (.val (.int n)), some (.val (.int r)), some (.val d)] (dC (.int 90)) rfl
        have hm : mulOk 30 r = true := by
          have := small_ok (i := 30) (by decide) (by decide)
          unfold mulOk
          rw [this]
          rfl
        refine ⟨x - 30 * r, w', p3, big_small (-90) 90 (by omega) (by omega), ?_⟩
        simp (config := {maxSteps := 3000000}) [rD, env0, sizeLine_eq, dSeq, dSkip, dRet, dIfS, dAsg, dAsgL, dAsgT, dDrop, dNo, dVar, dC, dBin, dOp, dB, dNot, dAnd, dOr, dAndV, dOrV, dNotV, dIsi, dChain2, dCh, dChE, dTup, dItems, asD, dLst, dConsD, dCons, dNil, R.bind, R.then, slD, free, tgN, tgT, tgCons, tgNil, oVal, oS, rsv, rsvs, dCb, gLe, gLt, gGt, gGe, gI0, gI, gMinus, gAdd, gIx, gLen, asSeq, asLs, gTuple, gList, gIsX, isNonA, dSome, dNone, dSl, gSl, vR, e1, gMul, hm]) hw1
      rw [a4]
      exact ⟨xs, w', rfl, a3, a2, a1⟩
end T51

namespace T51
open L2 L2.G PySem PySem.Spec PyProof.Rows
/-! ## what exchanging does to rows -/
theorem gt_at {row : List Int} {k : Nat} (h : k < row.length) : gt row k = row[k] := by
  unfold gt
  rw [List.getD_eq_getElem?_getD, List.getElem?_eq_getElem h]
  rfl
theorem ex_perm {row : List Int} {p : Nat × Nat} (h1 : p.1 < row.length) (h2 : p.2 < row.length) : (ex row p).Perm row := by
  unfold ex
  split
  · exact .refl _
  · rw [gt_at h1, gt_at h2]
    exact List.set_set_perm h1 h2
theorem runs_perm : ∀ (s : List (Nat × Nat)) (row : List Int), (∀ p ∈ s, p.1 < row.length ∧ p.2 < row.length) → (runs s row).Perm row
  | [], row, _ => .refl _
  | p :: s, row, h => by
    have hp := h p (List.mem_cons_self ..)
    have q := runs_perm s (ex row p) fun x hx => by rw [ex_len]; exact h x (List.mem_cons_of_mem _ hx)
    exact q.trans (ex_perm hp.1 hp.2)
theorem rising_cons (x y : Int) (r : List Int) : rising (x :: y :: r) = (decide (x ≤ y) && rising (y :: r)) := by
  rfl
theorem rising_pw : ∀ row : List Int, rising row = true → row.Pairwise (· ≤ ·)
  | [], _ => .nil
  | [x], _ => List.pairwise_singleton _ _
  | x :: y :: r, h => by
    rw [rising_cons, Bool.and_eq_true] at h
    have q := rising_pw (y :: r) h.2
    refine List.pairwise_cons.mpr ⟨fun z hz => ?_, q⟩
    have hxy := of_decide_eq_true h.1
    rcases List.mem_cons.mp hz with e | hz
    · omega
    · have := (List.pairwise_cons.mp q).1 z hz
      omega
theorem pw_rising : ∀ row : List Int, row.Pairwise (· ≤ ·) → rising row = true
  | [], _ => rfl
  | [x], _ => rfl
  | x :: y :: r, h => by
    rw [rising_cons, pw_rising (y :: r) (List.pairwise_cons.mp h).2, decide_eq_true ((List.pairwise_cons.mp h).1 y (List.mem_cons_self ..))]
    rfl
theorem sortI_of {a b : List Int} (h : a.Perm b) : sortI a = sortI b := pairwise_uniq ((sortI_perm a).trans (h.trans (sortI_perm b).symm)) (sortI_sorted a) (sortI_sorted b)
theorem rising_sort {a b : List Int} (h : a.Perm b) : rising a = decide (a = sortI b) := by
  by_cases e : a = sortI b
  · rw [decide_eq_true e, e]
    exact pw_rising _ (sortI_sorted b)
  · rw [decide_eq_false e]
    cases q : rising a with
    | false => rfl
    | true => exact absurd (pairwise_uniq (h.trans (sortI_perm b).symm) (rising_pw a q) (sortI_sorted b)) e
theorem ex_still {row : List Int} {p : Nat × Nat} (h : row.Pairwise (· ≤ ·)) (h1 : p.1 < p.2) (h2 : p.2 < row.length) : ex row p = row := by
  unfold ex
  rw [if_pos]
  rw [gt_at (show p.1 < row.length by omega), gt_at h2]
  exact List.pairwise_iff_getElem.mp h p.1 p.2 _ _ h1
theorem runs_still : ∀ (s : List (Nat × Nat)) {row : List Int}, row.Pairwise (· ≤ ·) → (∀ p ∈ s, p.1 < p.2 ∧ p.2 < row.length) → runs s row = row
  | [], _, _, _ => rfl
  | p :: s, row, h, hs => by
    have hp := hs p (List.mem_cons_self ..)
    show runs s (ex row p) = row
    rw [ex_still h hp.1 hp.2]
    exact runs_still s h fun x hx => hs x (List.mem_cons_of_mem _ hx)
theorem ex_map (f : Int → Int) (hf : ∀ a b, f a ≤ f b ↔ a ≤ b) {row : List Int} {p : Nat × Nat} (h1 : p.1 < row.length) (h2 : p.2 < row.length) : ex (row.map f) p = (ex row p).map f := by
  have g : ∀ {k}, k < row.length → gt (row.map f) k = f (gt row k) := fun {k} h => by
    rw [gt_at h, gt_at (by rw [List.length_map]; exact h), List.getElem_map]
  unfold ex
  rw [g h1, g h2]
  by_cases q : gt row p.1 ≤ gt row p.2
  · rw [if_pos q, if_pos ((hf _ _).mpr q)]
  · rw [if_neg q, if_neg (fun z => q ((hf _ _).mp z)), List.map_set, List.map_set]
theorem runs_map (f : Int → Int) (hf : ∀ a b, f a ≤ f b ↔ a ≤ b) : ∀ (s : List (Nat × Nat)) (row : List Int), (∀ p ∈ s, p.1 < row.length ∧ p.2 < row.length) → runs s (row.map f) = (runs s row).map f
  | [], row, _ => rfl
  | p :: s, row, h => by
    have hp := h p (List.mem_cons_self ..)
    show runs s (ex (row.map f) p) = (runs s (ex row p)).map f
    rw [ex_map f hf hp.1 hp.2]
    exact runs_map f hf s (ex row p) fun x hx => by rw [ex_len]; exact h x (List.mem_cons_of_mem _ hx)
/-! ### cubes -/
theorem cube_pos {a b : Int} (h0 : 0 ≤ a) (h : a < b) : a * a * a < b * b * b := by
  have hb : 0 < b := by omega
  have e1 : a * a ≤ b * b := Int.mul_le_mul (Int.le_of_lt h) (Int.le_of_lt h) h0 (Int.le_of_lt hb)
  have e2 : a * a * a ≤ b * b * a := Int.mul_le_mul_of_nonneg_right e1 h0
  have e3 : b * b * a < b * b * b := Int.mul_lt_mul_of_pos_left h (Int.mul_pos hb hb)
  omega
theorem cube_lt {a b : Int} (h : a < b) : a * a * a < b * b * b := by
  by_cases h0 : 0 ≤ a
  · exact cube_pos h0 h
  · by_cases h1 : b ≤ 0
    · have := cube_pos (a := -b) (b := -a) (by omega) (by omega)
      simp only [Int.neg_mul, Int.mul_neg, Int.neg_neg] at this
      omega
    · have e1 : 0 < b * b * b := Int.mul_pos (Int.mul_pos (by omega) (by omega)) (by omega)
      have e2 : 0 < (-a) * (-a) * (-a) := Int.mul_pos (Int.mul_pos (by omega) (by omega)) (by omega)
      simp only [Int.neg_mul, Int.mul_neg, Int.neg_neg] at e2
      omega
def cub (x : Int) : Int := 3 * x * x * x + 7
theorem cub_eq (x : Int) : cub x = 3 * (x * x * x) + 7 := by
  unfold cub
  rw [Int.mul_assoc 3 x x, Int.mul_assoc 3 (x * x) x]
theorem cub_le (a b : Int) : cub a ≤ cub b ↔ a ≤ b := by
  rw [cub_eq, cub_eq]
  by_cases h : a ≤ b
  · refine ⟨fun _ => h, fun _ => ?_⟩
    by_cases e : a = b
    · rw [e]; exact Int.le_refl _
    · have := cube_lt (show a < b by omega)
      omega
  · refine ⟨fun z => ?_, fun z => absurd z h⟩
    have := cube_lt (show b < a by omega)
    omega
/-! ### disorder -/
def cnt (l : List Int) (x : Int) : Nat := l.countP fun o => decide (o < x)
def cgt (l : List Int) (x : Int) : Nat := l.countP fun o => decide (x < o)
def iv : List Int → Nat
  | [] => 0
  | x :: r => cnt r x + iv r
theorem cntLt_eq (l : List Int) (x : Int) : cntLt l x = cnt l x := by
  unfold cntLt cnt
  rw [List.countP_eq_length_filter]
theorem inv_at (full : List Int) : ∀ (l : List Int) (k : Nat), full.drop k = l → ((l.zipIdx k).map fun p => ((cntLt (full.drop (p.2 + 1)) p.1 : Nat) : Int)).sum = (iv l : Nat)
  | [], _, _ => rfl
  | x :: r, k, h => by
    have h2 : full.drop (k + 1) = r := by
      have : (full.drop k).drop 1 = r := by rw [h]; rfl
      rw [List.drop_drop] at this
      exact this
    rw [List.zipIdx_cons, List.map_cons, List.sum_cons, inv_at full r (k + 1) h2, h2, cntLt_eq]
    show ((cnt r x : Nat) : Int) + _ = ((cnt r x + iv r : Nat) : Int)
    omega
theorem inv_eq (row : List Int) : inv row = (iv row : Nat) := inv_at row row 0 rfl
theorem iv_ins (z : Int) (C : List Int) : ∀ B : List Int, iv (B ++ z :: C) = iv (B ++ C) + cgt B z + cnt C z
  | [] => by show cnt C z + iv C = iv C + 0 + cnt C z; omega
  | b :: B => by
    have ih := iv_ins z C B
    show cnt (B ++ z :: C) b + iv (B ++ z :: C) = cnt (B ++ C) b + iv (B ++ C) + cgt (b :: B) z + cnt C z
    rw [ih]
    unfold cnt cgt
    rw [List.countP_append, List.countP_append, List.countP_cons, List.countP_cons]
    omega
theorem iv_pre {L1 L2 : List Int} (h : L1.Perm L2) (q : iv L1 ≤ iv L2) : ∀ A : List Int, iv (A ++ L1) ≤ iv (A ++ L2)
  | [] => q
  | a :: A => by
    have ih := iv_pre h q A
    show cnt (A ++ L1) a + iv (A ++ L1) ≤ cnt (A ++ L2) a + iv (A ++ L2)
    have : cnt (A ++ L1) a = cnt (A ++ L2) a := (h.append_left A).countP_eq _
    omega
theorem iv_swap {x y : Int} (h : y < x) (B C : List Int) : iv (y :: (B ++ x :: C)) ≤ iv (x :: (B ++ y :: C)) := by
  show cnt (B ++ x :: C) y + iv (B ++ x :: C) ≤ cnt (B ++ y :: C) x + iv (B ++ y :: C)
  rw [iv_ins, iv_ins]
  have e1 : cnt B y ≤ cnt B x := List.countP_mono_left fun o _ q => decide_eq_true (by have := of_decide_eq_true q; omega)
  have e2 : cgt B x ≤ cgt B y := List.countP_mono_left fun o _ q => decide_eq_true (by have := of_decide_eq_true q; omega)
  have e3 : cnt (B ++ x :: C) y = cnt B y + cnt C y := by
    unfold cnt
    rw [List.countP_append, List.countP_cons, if_neg (by simp; omega)]
    omega
  have e4 : cnt (B ++ y :: C) x = cnt B x + 1 + cnt C x := by
    unfold cnt
    rw [List.countP_append, List.countP_cons, if_pos (decide_eq_true h)]
    omega
  omega
theorem split_at {row : List Int} {i j : Nat} (h1 : i < j) (h2 : j < row.length) : ∃ A B C x y, row = A ++ x :: (B ++ y :: C) ∧ A.length = i ∧ B.length = j - i - 1 := by
  refine ⟨row.take i, (row.drop (i + 1)).take (j - i - 1), row.drop (j + 1), row[i], row[j], ?_, by rw [List.length_take]; omega, by rw [List.length_take, List.length_drop]; omega⟩
  have e1 : row.drop i = row[i] :: row.drop (i + 1) := List.drop_eq_getElem_cons (by omega)
  have e2 : row.drop (i + 1) = (row.drop (i + 1)).take (j - i - 1) ++ (row.drop (i + 1)).drop (j - i - 1) := (List.take_append_drop _ _).symm
  have e3 : (row.drop (i + 1)).drop (j - i - 1) = row.drop j := by rw [List.drop_drop]; congr 1; omega
  have e4 : row.drop j = row[j] :: row.drop (j + 1) := List.drop_eq_getElem_cons h2
  rw [← e4, ← e3, ← e2, ← e1, List.take_append_drop]
theorem ex_iv {row : List Int} {p : Nat × Nat} (h1 : p.1 < p.2) (h2 : p.2 < row.length) : iv (ex row p) ≤ iv row := by
  unfold ex
  split
  · exact Nat.le_refl _
  · rename_i q
    obtain ⟨A, B, C, x, y, e, e1, e2⟩ := split_at h1 h2
    have gx : gt row p.1 = x := by
      unfold gt
      rw [e, List.getD_eq_getElem?_getD, List.getElem?_append_right (by omega), ← e1, Nat.sub_self]
      rfl
    have gy : gt row p.2 = y := by
      unfold gt
      rw [e, List.getD_eq_getElem?_getD, List.getElem?_append_right (by omega)]
      have : p.2 - A.length = (p.2 - p.1 - 1) + 1 := by omega
      rw [this, List.getElem?_cons_succ, List.getElem?_append_right (by omega)]
      have : p.2 - p.1 - 1 - B.length = 0 := by omega
      rw [this]
      rfl
    have s : (row.set p.1 y).set p.2 x = A ++ y :: (B ++ x :: C) := by
      rw [e, List.set_append_right _ _ (by omega), List.set_append_right _ _ (by omega)]
      have z1 : p.1 - A.length = 0 := by omega
      have z2 : p.2 - A.length = (p.2 - p.1 - 1) + 1 := by omega
      rw [z1, z2, List.set_cons_zero, List.set_cons_succ, List.set_append_right _ _ (by omega)]
      have z3 : p.2 - p.1 - 1 - B.length = 0 := by omega
      rw [z3, List.set_cons_zero]
    rw [gx, gy, s]
    rw [gx, gy] at q
    have lt : y < x := by omega
    have pm : (y :: (B ++ x :: C)).Perm (x :: (B ++ y :: C)) := by
      have a : (y :: (B ++ x :: C)).Perm (y :: x :: (B ++ C)) := .cons _ List.perm_middle
      have b : (x :: (B ++ y :: C)).Perm (x :: y :: (B ++ C)) := .cons _ List.perm_middle
      exact a.trans ((List.Perm.swap ..).trans b.symm)
    have := iv_pre pm (iv_swap lt B C) A
    rw [← e] at this
    exact this
theorem runs_iv : ∀ (s : List (Nat × Nat)) (row : List Int), (∀ p ∈ s, p.1 < p.2 ∧ p.2 < row.length) → iv (runs s row) ≤ iv row
  | [], _, _ => Nat.le_refl _
  | p :: s, row, h => by
    have hp := h p (List.mem_cons_self ..)
    exact Nat.le_trans (runs_iv s (ex row p) fun x hx => by rw [ex_len]; exact h x (List.mem_cons_of_mem _ hx)) (ex_iv hp.1 hp.2)
end T51

namespace T51
open L2 L2.G PySem PySem.Spec PyProof.Rows
theorem cl_lbehind : Cl fn__law_behind := ⟨_, _, rfl⟩
theorem cl_ldis : Cl fn__law_disorder := ⟨_, _, rfl⟩
theorem cl_rr : Cl fn__law_row_right := ⟨_, _, rfl⟩
theorem cl_vr : Cl fn__law_values_right := ⟨_, _, rfl⟩
theorem lay_tI (l : List Int) : PyData.canLay0 (tI l) = true := by
  rw [PyData.canLay0]
  induction l with
  | nil => rfl
  | cons x l ih => rw [List.map_cons, PyData.canLayAll0, ih]; rfl
theorem lay_lI (l : List Int) : PyData.canLay0 (.list (l.map .int)) = true := by
  rw [PyData.canLay0]
  have := lay_tI l
  rw [PyData.canLay0] at this
  exact this
theorem depth_tI (l : List Int) : PyData.depth (tI l) = 1 := by rw [PyData.depth, depth_ints]
theorem depth_lI (l : List Int) : PyData.depth (.list (l.map .int)) = 1 := by rw [PyData.depth, depth_ints]
theorem eqv_tI (a b : List Int) : PyData.eqv (tI a) (tI b) = decide (a = b) := by
  rw [PyData.eqv]
  exact PySem.W.ked_eqvAll a b
theorem eqv_lI (a b : List Int) : PyData.eqv (.list (a.map .int)) (.list (b.map .int)) = decide (a = b) := by
  rw [PyData.eqv]
  exact PySem.W.ked_eqvAll a b
theorem eqT (a b : List Int) : gEq (.val (tI a)) (.val (tI b)) = some (.bool (decide (a = b))) := by
  simp [gE, toD, SeqAt.shaped, lay_tI, depth_tI, eqv_tI]
theorem neT (a b : List Int) : gNe (.val (tI a)) (.val (tI b)) = some (.bool (!decide (a = b))) := by
  simp [gE, toD, SeqAt.shaped, lay_tI, depth_tI, eqv_tI]
theorem neL (a b : List Int) : gNe (.val (.list (a.map .int))) (.val (.list (b.map .int))) = some (.bool (!decide (a = b))) := by
  simp [gE, toD, SeqAt.shaped, lay_lI, depth_lI, eqv_lI]
theorem ints_of (l : List Int) : asInts (l.map PyData.int) = some l := by
  have := asInts_map (fun x : Int => x) l
  rw [List.map_id'] at this
  exact this
theorem sortT (l : List Int) (h : l.length ≤ 8) : gSortI [.val (tI l)] = some ((sortI l).map .int) := by
  simp [gSortI, asSeq, ints_of, sizeLine_eq]
  try omega
def okR (row : List Int) : Prop := ∀ x ∈ row, big x
theorem bigN {x : Int} (h : big x) : x.natAbs < 10 ^ 60 := Nat.lt_of_lt_of_le h (by decide)
theorem okR_perm {a b : List Int} (h : a.Perm b) (hb : okR b) : okR a := fun x hx => hb x (h.mem_iff.mp hx)
theorem tm_tI {l : List Int} (h : okR l) : tm (tI l) = true := by
  rw [tm]
  exact tm_ints l fun n hn => bigN (h n hn)
theorem w_tI {l : List Int} (h : okR l) (hl : l.length ≤ 8) : PyData.weight (tI l) ≤ 1700 := by
  rw [PyData.weight]
  have := weight_ints l fun n hn => bigN (h n hn)
  omega
/-- lists of such rows -/
theorem fits_rows {rs : List (List Int)} (h : ∀ r ∈ rs, okR r ∧ r.length ≤ 8) (hl : rs.length ≤ 8) : ap fn__law_fits [.list (rs.map tI), .list (rs.map tI)] = some (.bool true) := by
  have t : ∀ rs : List (List Int), (∀ r ∈ rs, okR r ∧ r.length ≤ 8) → tmAll (rs.map tI) = true ∧ PyData.depthAll (rs.map tI) ≤ 1 ∧ PyData.weightAll (rs.map tI) ≤ 1701 * rs.length := by
    intro rs
    induction rs with
    | nil => exact fun _ => ⟨rfl, Nat.zero_le _, Nat.le_refl _⟩
    | cons r rs ih =>
      intro h
      obtain ⟨a, b, c⟩ := ih fun x hx => h x (List.mem_cons_of_mem _ hx)
      obtain ⟨d, e⟩ := h r (List.mem_cons_self ..)
      refine ⟨?_, ?_, ?_⟩
      · rw [List.map_cons, tmAll, tm_tI d, a]; rfl
      · rw [List.map_cons, PyData.depthAll, depth_tI]; omega
      · have := w_tI d e
        rw [List.map_cons, PyData.weightAll, List.length_cons]
        omega
  obtain ⟨a, b, c⟩ := t rs h
  refine fits_v (by rw [tm]; exact a) ?_ ?_
  · rw [PyData.depth]; omega
  · rw [PyData.weight]
    have e : (2 : Nat) ^ 17 = 131072 := by decide
    omega
theorem fits_bools (bs : List Bool) (hl : bs.length ≤ 8) : ap fn__law_fits [.list (bs.map .bool), .list (bs.map .bool)] = some (.bool true) := by
  have t : ∀ bs : List Bool, tmAll (bs.map .bool) = true ∧ PyData.depthAll (bs.map .bool) = 0 ∧ PyData.weightAll (bs.map .bool) = bs.length := by
    intro bs
    induction bs with
    | nil => exact ⟨rfl, rfl, rfl⟩
    | cons r rs ih =>
      obtain ⟨a, b, c⟩ := ih
      refine ⟨?_, ?_, ?_⟩
      · rw [List.map_cons, tmAll, tm, a]; rfl
      · rw [List.map_cons, PyData.depthAll, b, PyData.depth]; rfl
      · rw [List.map_cons, PyData.weightAll, List.length_cons, c, PyData.weight]
        omega
  obtain ⟨a, b, c⟩ := t bs
  refine fits_v (by rw [tm]; exact a) ?_ ?_
  · rw [PyData.depth]; omega
  · rw [PyData.weight]
    have e : (2 : Nat) ^ 17 = 131072 := by decide
    omega
theorem mul_ok {i j : Int} (hi : i.natAbs < 10 ^ 70) (hj : j.natAbs < 10 ^ 70) : mulOk i j = true := by
  have a : i.natAbs.log2 < 250 := PySem.Flt.log2_lt_of (by decide) (Nat.lt_of_lt_of_le hi (by decide))
  have b : j.natAbs.log2 < 250 := PySem.Flt.log2_lt_of (by decide) (Nat.lt_of_lt_of_le hj (by decide))
  unfold mulOk
  rw [decide_eq_true (show i.natAbs.log2 + j.natAbs.log2 < 1000000 by omega), Bool.or_true, Bool.or_true]
theorem cub_muls {x : Int} (h : big x) : mulOk 3 x = true ∧ mulOk (3 * x) x = true ∧ mulOk (3 * x * x) x = true := by
  have e28 : (10 : Nat) ^ 28 = 10000000000000000000000000000 := by decide
  unfold big at h
  have h1 : x.natAbs < 10 ^ 70 := Nat.lt_of_lt_of_le h (by decide)
  have h2 : (3 * x).natAbs < 10 ^ 30 := by
    rw [Int.natAbs_mul]
    have : (10 : Nat) ^ 30 = 1000000000000000000000000000000 := by decide
    rw [this]
    show 3 * x.natAbs < _
    omega
  have h3 : (3 * x * x).natAbs < 10 ^ 60 := by
    rw [Int.natAbs_mul]
    calc (3 * x).natAbs * x.natAbs ≤ 10 ^ 30 * 10 ^ 28 := Nat.mul_le_mul (Nat.le_of_lt h2) (Nat.le_of_lt h)
      _ < 10 ^ 60 := by decide
  exact ⟨mul_ok (by decide) h1, mul_ok (Nat.lt_of_lt_of_le h2 (by decide)) h1, mul_ok (Nat.lt_of_lt_of_le h3 (by decide)) h1⟩
end T51

namespace T51
open L2 L2.G PySem PySem.Spec PyProof.Rows
theorem okS_take {n : Nat} {s : List (Nat × Nat)} (h : okS n s) (c : Nat) : okS n (s.take c) := ⟨fun p hp => h.1 p (List.mem_of_mem_take hp), by rw [List.length_take]; have := h.2; omega⟩
theorem okS_drop {n : Nat} {s : List (Nat × Nat)} (h : okS n s) (c : Nat) : okS n (s.drop c) := ⟨fun p hp => h.1 p (List.mem_of_mem_drop hp), by rw [List.length_drop]; have := h.2; omega⟩
theorem runs_cut (s : List (Nat × Nat)) (c : Nat) (row : List Int) : runs (s.drop c) (runs (s.take c) row) = runs s row := by
  unfold runs
  rw [← List.foldl_append, List.take_append_drop]
theorem cutS_to (s : List (Nat × Nat)) (c : Nat) : G.cutD (s.map pD) none (some (c : Int)) = (s.take c).map pD := by rw [cut_to, List.map_take]
theorem cutS_from (s : List (Nat × Nat)) (c : Nat) : G.cutD (s.map pD) (some (c : Int)) none = (s.drop c).map pD := by rw [cut_from, List.map_drop]
theorem flat3 (d : D) : gMul (.val (.list [d])) (.val (.int 3)) = some (.list [d, d, d]) := by
  simp [gMul, gMulL, asLst, sizeLine_eq, List.replicate]
theorem flat2 (d : D) : gMul (.val (.list [d])) (.val (.int 2)) = some (.list [d, d]) := by
  simp [gMul, gMulL, asLst, sizeLine_eq, List.replicate]
theorem flatn (x : Int) (n : Nat) (h1 : 2 ≤ n) (h2 : n ≤ 8) : gMul (.val (tI [x])) (.val (.int n)) = some (tI (List.replicate n x)) := by
  have e : (List.replicate n [PyData.int x]).flatten = (List.replicate n x).map .int := by
    rw [List.map_replicate]
    clear h1 h2
    induction n with
    | zero => rfl
    | succ n ih => rw [List.replicate_succ, List.flatten_cons, ih, List.replicate_succ]; rfl
  have a : (2 : Int) ≤ (n : Int) := by omega
  have b : (n : Int) ≤ 1000 := by omega
  have c : (n : Int).toNat = n := Int.toNat_natCast n
  simp only [gMul, gMulL, asLst, asTup, List.map_cons, List.map_nil, ne_eq, reduceCtorEq, not_false_eq_true, a, b, true_and, List.length_cons, List.length_nil, Nat.zero_add, Nat.reduceLeDiff, if_true, c, e]
theorem if_noR {c : En → R Bool} {f : En → RS} {ρ ρ1 : En} (h : c ρ = .ok false ρ1) : dIfS c f dSkip ρ = .nx ρ1 := (if_no (g := dSkip) h).trans rfl
theorem asg_nx {i : Nat} {f : En → R D} {ρ ρ1 ρ2 : En} {d : D} (h : f ρ = .ok d ρ1) (hf : free ρ1 i = true) (e : ρ1.set i (some (.val d)) = ρ2) : dAsg i f ρ = .nx ρ2 := by
  unfold dAsg
  rw [h]
  show (if free ρ1 i = true then _ else _) = _
  rw [if_pos hf, e]
theorem or_ff {f g : En → R Bool} {ρ ρ1 ρ2 : En} (h1 : f ρ = .ok false ρ1) (h2 : g ρ1 = .ok false ρ2) : dOr f g ρ = .ok false ρ2 := by
  unfold dOr
  rw [h1]
  exact h2
theorem not_t {f : En → R Bool} {ρ ρ1 : En} (h : f ρ = .ok true ρ1) : dNot f ρ = .ok false ρ1 := by
  unfold dNot
  rw [h]
  rfl
theorem b_ok {f : En → R D} {ρ ρ1 : En} {b : Bool} (h : f ρ = .ok (.bool b) ρ1) : dB f ρ = .ok b ρ1 := by
  unfold dB
  rw [h]
theorem led_lc (row : List Int) (hr : okR row) (hl : row.length ≤ 8) (i : Nat) (ρ : En) (hi : i < 11) (h11 : ρ.length = 12) (hv : slD ρ i = some (.val (tI row))) (hz : slD ρ 11 = none) :
    dCb gTuple (dConsD (dLst (dLc (dIt (dVar i)) (tgN 11) (dYes) (dBin gAdd (dBin gMul (dBin gMul (dBin gMul (dC (.int 3)) (dVar 11)) (dVar 11)) (dVar 11)) (dC (.int 7))) [11])) (dNil)) ρ = .ok (tI (row.map cub)) ρ := by
  have set_none : ρ.set 11 none = ρ := by
    apply List.ext_getElem?
    intro j
    rw [List.getElem?_set]
    by_cases z : 11 = j
    · subst z
      rw [if_pos rfl, if_pos (by omega)]
      unfold slD at hz
      rw [List.getElem?_eq_getElem (by omega)] at hz ⊢
      simp at hz
      rw [hz]
    · rw [if_neg z]
  have wp : wipeD ρ [11] = ρ := set_none
  have fr : free ρ 11 = true := by
    unfold free
    rw [hz, h11]
    rfl
  have C := dLc_of (fi := dIt (dVar i)) (ft := tgN 11) (fc := dYes) (fe := dBin gAdd (dBin gMul (dBin gMul (dBin gMul (dC (.int 3)) (dVar 11)) (dVar 11)) (dVar 11)) (dC (.int 7))) (vs := [11]) (ρ := ρ) row PyData.int (fun _ => true) (fun x => .int (cub x))
    (by simp [dIt, dVar, hv, R.bind]) rfl (by simp [ownV, okV, fr, hz, isOwn]) (len_S _ (by omega)) (by rw [wp]; simp [G.backV, hz, set_none])
    (fun x hx => by
      rw [wp]
      have e1 : slD (ρ.set 11 (some (.val (.int x)))) 11 = some (.val (.int x)) := by
        unfold slD
        rw [List.getElem?_set_self (by omega)]
        rfl
      obtain ⟨m1, m2, m3⟩ := cub_muls (hr x hx)
      refine ⟨ρ.set 11 (some (.val (.int x))), by simp [tgN, fr], by simp [dYes], fun _ => ?_, ?_, ?_⟩
      · simp [dBin, dC, dVar, R.bind, e1, gMul, m1, m2, m3, gAdd, cub]
      · simp [okV, free, e1, h11]
      · simp [wipeD, set_none])
  rw [filt_all] at C
  have e : row.map (fun x => PyData.int (cub x)) = (row.map cub).map .int := by rw [List.map_map]; rfl
  rw [e] at C
  unfold dCb dConsD dLst
  simp only [C, R.bind, dNil, rsvs, rsv, gTuple, asLs, Option.map_some]
abbrev rE (w : List (Key × D)) (n : Nat) (s : List (Nat × Nat)) (a3 a4 a5 a6 a7 a8 a9 a10 : Option Sl) : En := [some (.arg w), some (.val (.int n)), some (.val (tS s)), a3, a4, a5, a6, a7, a8, a9, a10, none]
theorem row_right_v {w : List (Key × D)} (hw : VW w) {n : Nat} (h1 : 2 ≤ n) (h8 : n ≤ 8) {s : List (Nat × Nat)} (hs : okS n s) : ∃ w', apW fn__law_row_right w [.int n, tS s] = some (.bool true, w') ∧ VW w' := by
  obtain ⟨row, w1, ed, hl, hr, hw1⟩ := drawn_v hw h8
  obtain ⟨c0, w2, ⟨c1, c2⟩, hw2, Ht⟩ := turn_at hw1 (m := (s.length : Int) + 1) (by omega)
  obtain ⟨c, rfl⟩ := Int.eq_ofNat_of_zero_le c1
  have inr : ∀ p ∈ s, p.1 < row.length ∧ p.2 < row.length := okS_at hs hl
  have inr2 : ∀ p ∈ s, p.1 < p.2 ∧ p.2 < row.length := fun p hp => by have := hs.1 p hp; exact ⟨this.1, by rw [hl]; exact this.2⟩
  have pm : (runs s row).Perm row := runs_perm s row inr
  have hrs : okR (runs s row) := okR_perm pm hr
  have hls : (runs s row).length = n := by rw [runs_len, hl]
  have hlk : (runs (s.take c) row).length = n := by rw [runs_len, hl]
  have srt : (sortI row).Pairwise (· ≤ ·) := sortI_sorted row
  have sl : (sortI row).length = n := by rw [(sortI_perm row).length_eq, hl]
  have sr : okR (sortI row) := okR_perm (sortI_perm row) hr
  obtain ⟨x0, row', erow⟩ : ∃ x r, row = x :: r := by cases row with
    | nil => simp at hl; omega
    | cons x r => exact ⟨x, r, rfl⟩
  have hx0 : big x0 := hr x0 (by rw [erow]; exact List.mem_cons_self ..)
  have rpr : okR (List.replicate n x0) := fun y hy => by rw [(List.mem_replicate.mp hy).2]; exact hx0
  have rps : (List.replicate n x0).Pairwise (· ≤ ·) := List.pairwise_replicate.mpr (.inr (Int.le_refl _))
  have e1 : (dAsg 3 (dCl fn__law_drawn_row (dCons (oS 0) (dConsD (dVar 1) (dNil))) dNil [0, 1] [])) [some (.arg w), some (.val (.int n)), some (.val (tS s)), none, none, none, none, none, none, none, none, none] = .nx [some (.arg w1), some (.val (.int n)), some (.val (tS s)), some (.val (tI row)), none, none, none, none, none, none, none, none] := by
    refine asg_nx (call_w1 cl_drawn (s := .arg w) rfl rfl rfl ed) rfl rfl
  have e2 : (dPar 4 5 (dConsD (dCl fn__law_behind (dConsD (dVar 2) (dConsD (dVar 3) (dNil))) dNil [0, 1] []) (dConsD (dCl fn__law_turn (dCons (oS 0) (dConsD (dBin gAdd (dCb gLen (dConsD (dVar 2) (dNil))) (dC (.int 1))) (dNil))) dNil [0, 1] []) (dNil)))) [some (.arg w1), some (.val (.int n)), some (.val (tS s)), some (.val (tI row)), none, none, none, none, none, none, none, none] = .nx [some (.arg w2), some (.val (.int n)), some (.val (tS s)), some (.val (tI row)), some (.val (tI (runs s row))), some (.val (.int (c : Nat))), none, none, none, none, none, none] := by
    have a1 : dCl fn__law_behind (dConsD (dVar 2) (dConsD (dVar 3) (dNil))) dNil [0, 1] [] [some (.arg w1), some (.val (.int n)), some (.val (tS s)), some (.val (tI row)), none, none, none, none, none, none, none, none] = .ok (tI (runs s row)) [some (.arg w1), some (.val (.int n)), some (.val (tS s)), some (.val (tI row)), none, none, none, none, none, none, none, none] := by
      have := law_behind_v s row inr
      simp (config := {maxSteps := 3000000}) [rD, env0, sizeLine_eq, dSeq, dSkip, dRet, dIfS, dAsg, dAsgL, dAsgT, dDrop, dNo, dVar, dC, dBin, dOp, dB, dNot, dAnd, dOr, dAndV, dOrV, dNotV, dIsi, dChain2, dCh, dChE, dTup, dItems, asD, dLst, dConsD, dCons, dNil, R.bind, R.then, slD, free, tgN, tgT, tgCons, tgNil, oVal, oS, rsv, rsvs, dCb, gLe, gLt, gGt, gGe, gI0, gI, gMinus, gAdd, gIx, gLen, asSeq, asLs, gTuple, gList, gIsX, isNonA, dSome, dNone, dSl, gSl, vR, dcl2 cl_lbehind, this]
    have a2 := Ht [some (.val (.int n)), some (.val (tS s)), some (.val (tI row)), none, none, none, none, none, none, none, none] (dBin gAdd (dCb gLen (dConsD (dVar 2) (dNil))) (dC (.int 1))) (by simp (config := {maxSteps := 3000000}) [rD, env0, sizeLine_eq, dSeq, dSkip, dRet, dIfS, dAsg, dAsgL, dAsgT, dDrop, dNo, dVar, dC, dBin, dOp, dB, dNot, dAnd, dOr, dAndV, dOrV, dNotV, dIsi, dChain2, dCh, dChE, dTup, dItems, asD, dLst, dConsD, dCons, dNil, R.bind, R.then, slD, free, tgN, tgT, tgCons, tgNil, oVal, oS, rsv, rsvs, dCb, gLe, gLt, gGt, gGe, gI0, gI, gMinus, gAdd, gIx, gLen, asSeq, asLs, gTuple, gList, gIsX, isNonA, dSome, dNone, dSl, gSl, vR])
    unfold dPar
    simp only [dConsD, a1, a2, R.bind, R.then, dNil]
    rfl
  have e3 : (dAsg 6 (dCl fn_sorted_by (dConsD (dVar 1) (dConsD (dSl (oVal (dVar 2)) dNone (dSome (dVar 5))) (dConsD (dVar 3) (dNil)))) dNil [0, 1, 2] [])) [some (.arg w2), some (.val (.int n)), some (.val (tS s)), some (.val (tI row)), some (.val (tI (runs s row))), some (.val (.int (c : Nat))), none, none, none, none, none, none] = .nx [some (.arg w2), some (.val (.int n)), some (.val (tS s)), some (.val (tI row)), some (.val (tI (runs s row))), some (.val (.int (c : Nat))), some (.val (tI (runs (s.take c) row))), none, none, none, none, none] := by
    have a1 := sorted_by_v h1 h8 (okS_take hs c) hl
    simp only [tS, List.map_take] at a1
    refine asg_nx (ρ1 := [some (.arg w2), some (.val (.int n)), some (.val (tS s)), some (.val (tI row)), some (.val (tI (runs s row))), some (.val (.int (c : Nat))), none, none, none, none, none, none]) ?_ rfl rfl
    simp (config := {maxSteps := 3000000}) [rD, env0, sizeLine_eq, dSeq, dSkip, dRet, dIfS, dAsg, dAsgL, dAsgT, dDrop, dNo, dVar, dC, dBin, dOp, dB, dNot, dAnd, dOr, dAndV, dOrV, dNotV, dIsi, dChain2, dCh, dChE, dTup, dItems, asD, dLst, dConsD, dCons, dNil, R.bind, R.then, slD, free, tgN, tgT, tgCons, tgNil, oVal, oS, rsv, rsvs, dCb, gLe, gLt, gGt, gGe, gI0, gI, gMinus, gAdd, gIx, gLen, asSeq, asLs, gTuple, gList, gIsX, isNonA, dSome, dNone, dSl, gSl, vR, dcl3 cl_sorted_by, cutS_to, a1]
  have e4 : (dAsg 7 (dLst (dItems (dConsD (dCl fn_sorted_by (dConsD (dVar 1) (dConsD (dVar 2) (dConsD (dVar 3) (dNil)))) dNil [0, 1, 2] []) (dConsD (dCl fn_sorted_by dNil (dConsD (dVar 3) (dConsD (dVar 2) (dConsD (dVar 1) (dNil)))) [2, 1, 0] []) (dConsD (dCl fn_sorted_by (dConsD (dVar 1) (dConsD (dSl (oVal (dVar 2)) (dSome (dVar 5)) dNone) (dConsD (dVar 6) (dNil)))) dNil [0, 1, 2] []) (dNil))))))) [some (.arg w2), some (.val (.int n)), some (.val (tS s)), some (.val (tI row)), some (.val (tI (runs s row))), some (.val (.int (c : Nat))), some (.val (tI (runs (s.take c) row))), none, none, none, none, none] = .nx [some (.arg w2), some (.val (.int n)), some (.val (tS s)), some (.val (tI row)), some (.val (tI (runs s row))), some (.val (.int (c : Nat))), some (.val (tI (runs (s.take c) row))), some (.val (.list [tI (runs s row), tI (runs s row), tI (runs s row)])), none, none, none, none] := by
    have a1 := sorted_by_v h1 h8 hs hl
    have a2 := sorted_by_v h1 h8 (okS_drop hs c) hlk
    rw [runs_cut] at a2
    simp only [tS, List.map_drop] at a2
    refine asg_nx (ρ1 := [some (.arg w2), some (.val (.int n)), some (.val (tS s)), some (.val (tI row)), some (.val (tI (runs s row))), some (.val (.int (c : Nat))), some (.val (tI (runs (s.take c) row))), none, none, none, none, none]) ?_ rfl rfl
    simp (config := {maxSteps := 3000000}) [rD, env0, sizeLine_eq, dSeq, dSkip, dRet, dIfS, dAsg, dAsgL, dAsgT, dDrop, dNo, dVar, dC, dBin, dOp, dB, dNot, dAnd, dOr, dAndV, dOrV, dNotV, dIsi, dChain2, dCh, dChE, dTup, dItems, asD, dLst, dConsD, dCons, dNil, R.bind, R.then, slD, free, tgN, tgT, tgCons, tgNil, oVal, oS, rsv, rsvs, dCb, gLe, gLt, gGt, gGe, gI0, gI, gMinus, gAdd, gIx, gLen, asSeq, asLs, gTuple, gList, gIsX, isNonA, dSome, dNone, dSl, gSl, vR, dcl3 cl_sorted_by, dcl3k210 cl_sorted_by, cutS_from, a1, a2]
  have e5 : (dIfS (dOr (dNot (dB (dCl fn__law_fits (dConsD (dVar 7) (dConsD (dBin gMul (dLst (dItems (dConsD (dVar 4) (dNil)))) (dC (.int 3))) (dNil))) dNil [0, 1] []))) (dB (dBin gNe (dLst (dCb gSortI (dConsD (dVar 4) (dNil)))) (dLst (dCb gSortI (dConsD (dVar 3) (dNil))))))) (dRet (dC (.bool false))) (dSkip)) [some (.arg w2), some (.val (.int n)), some (.val (tS s)), some (.val (tI row)), some (.val (tI (runs s row))), some (.val (.int (c : Nat))), some (.val (tI (runs (s.take c) row))), some (.val (.list [tI (runs s row), tI (runs s row), tI (runs s row)])), none, none, none, none] = .nx [some (.arg w2), some (.val (.int n)), some (.val (tS s)), some (.val (tI row)), some (.val (tI (runs s row))), some (.val (.int (c : Nat))), some (.val (tI (runs (s.take c) row))), some (.val (.list [tI (runs s row), tI (runs s row), tI (runs s row)])), none, none, none, none] := by
    have a1 := fits_rows (rs := [runs s row, runs s row, runs s row]) (fun r hr' => by simp at hr'; rw [hr']; exact ⟨hrs, by omega⟩) (by simp)
    simp only [List.map_cons, List.map_nil] at a1
    have a2 := flat3 (tI (runs s row))
    have a3 := sortT (runs s row) (by omega)
    have a4 := sortT row (by omega)
    have a5 := neL (sortI (runs s row)) (sortI row)
    rw [sortI_of pm] at a3 a5
    rw [decide_eq_true rfl] at a5
    refine if_noR (or_ff (ρ1 := [some (.arg w2), some (.val (.int n)), some (.val (tS s)), some (.val (tI row)), some (.val (tI (runs s row))), some (.val (.int (c : Nat))), some (.val (tI (runs (s.take c) row))), some (.val (.list [tI (runs s row), tI (runs s row), tI (runs s row)])), none, none, none, none]) (not_t (b_ok ?_)) (b_ok ?_))
    · simp (config := {maxSteps := 3000000}) [rD, env0, sizeLine_eq, dSeq, dSkip, dRet, dIfS, dAsg, dAsgL, dAsgT, dDrop, dNo, dVar, dC, dBin, dOp, dB, dNot, dAnd, dOr, dAndV, dOrV, dNotV, dIsi, dChain2, dCh, dChE, dTup, dItems, asD, dLst, dConsD, dCons, dNil, R.bind, R.then, slD, free, tgN, tgT, tgCons, tgNil, oVal, oS, rsv, rsvs, dCb, gLe, gLt, gGt, gGe, gI0, gI, gMinus, gAdd, gIx, gLen, asSeq, asLs, gTuple, gList, gIsX, isNonA, dSome, dNone, dSl, gSl, vR, dcl2 cl_fits, a2, a1]
    · simp (config := {maxSteps := 3000000}) [rD, env0, sizeLine_eq, dSeq, dSkip, dRet, dIfS, dAsg, dAsgL, dAsgT, dDrop, dNo, dVar, dC, dBin, dOp, dB, dNot, dAnd, dOr, dAndV, dOrV, dNotV, dIsi, dChain2, dCh, dChE, dTup, dItems, asD, dLst, dConsD, dCons, dNil, R.bind, R.then, slD, free, tgN, tgT, tgCons, tgNil, oVal, oS, rsv, rsvs, dCb, gLe, gLt, gGt, gGe, gI0, gI, gMinus, gAdd, gIx, gLen, asSeq, asLs, gTuple, gList, gIsX, isNonA, dSome, dNone, dSl, gSl, vR, a3, a4, a5]
  have e6 : (dAsg 8 (dBin gEq (dVar 4) (dCb gTuple (dConsD (dLst (dCb gSortI (dConsD (dVar 3) (dNil)))) (dNil))))) [some (.arg w2), some (.val (.int n)), some (.val (tS s)), some (.val (tI row)), some (.val (tI (runs s row))), some (.val (.int (c : Nat))), some (.val (tI (runs (s.take c) row))), some (.val (.list [tI (runs s row), tI (runs s row), tI (runs s row)])), none, none, none, none] = .nx [some (.arg w2), some (.val (.int n)), some (.val (tS s)), some (.val (tI row)), some (.val (tI (runs s row))), some (.val (.int (c : Nat))), some (.val (tI (runs (s.take c) row))), some (.val (.list [tI (runs s row), tI (runs s row), tI (runs s row)])), some (.val (.bool (rising (runs s row)))), none, none, none] := by
    have a1 := sortT row (by omega)
    have a2 := eqT (runs s row) (sortI row)
    rw [← rising_sort pm] at a2
    refine asg_nx (ρ1 := [some (.arg w2), some (.val (.int n)), some (.val (tS s)), some (.val (tI row)), some (.val (tI (runs s row))), some (.val (.int (c : Nat))), some (.val (tI (runs (s.take c) row))), some (.val (.list [tI (runs s row), tI (runs s row), tI (runs s row)])), none, none, none, none]) ?_ rfl rfl
    simp (config := {maxSteps := 3000000}) [rD, env0, sizeLine_eq, dSeq, dSkip, dRet, dIfS, dAsg, dAsgL, dAsgT, dDrop, dNo, dVar, dC, dBin, dOp, dB, dNot, dAnd, dOr, dAndV, dOrV, dNotV, dIsi, dChain2, dCh, dChE, dTup, dItems, asD, dLst, dConsD, dCons, dNil, R.bind, R.then, slD, free, tgN, tgT, tgCons, tgNil, oVal, oS, rsv, rsvs, dCb, gLe, gLt, gGt, gGe, gI0, gI, gMinus, gAdd, gIx, gLen, asSeq, asLs, gTuple, gList, gIsX, isNonA, dSome, dNone, dSl, gSl, vR, a1, a2]
  have e7 : (dIfS (dNot (dB (dCl fn__law_fits (dConsD (dLst (dItems (dConsD (dCl fn_does_sort (dConsD (dVar 1) (dConsD (dVar 2) (dConsD (dVar 3) (dNil)))) dNil [0, 1, 2] []) (dConsD (dCl fn_does_sort dNil (dConsD (dVar 3) (dConsD (dVar 2) (dConsD (dVar 1) (dNil)))) [2, 1, 0] []) (dNil))))) (dConsD (dBin gMul (dLst (dItems (dConsD (dVar 8) (dNil)))) (dC (.int 2))) (dNil))) dNil [0, 1] []))) (dRet (dC (.bool false))) (dSkip)) [some (.arg w2), some (.val (.int n)), some (.val (tS s)), some (.val (tI row)), some (.val (tI (runs s row))), some (.val (.int (c : Nat))), some (.val (tI (runs (s.take c) row))), some (.val (.list [tI (runs s row), tI (runs s row), tI (runs s row)])), some (.val (.bool (rising (runs s row)))), none, none, none] = .nx [some (.arg w2), some (.val (.int n)), some (.val (tS s)), some (.val (tI row)), some (.val (tI (runs s row))), some (.val (.int (c : Nat))), some (.val (tI (runs (s.take c) row))), some (.val (.list [tI (runs s row), tI (runs s row), tI (runs s row)])), some (.val (.bool (rising (runs s row)))), none, none, none] := by
    have a1 := does_sort_v h1 h8 hs hl
    have a2 := flat2 (.bool (rising (runs s row)))
    have a3 := fits_bools [rising (runs s row), rising (runs s row)] (by simp)
    simp only [List.map_cons, List.map_nil] at a3
    refine if_noR (not_t (b_ok (ρ1 := [some (.arg w2), some (.val (.int n)), some (.val (tS s)), some (.val (tI row)), some (.val (tI (runs s row))), some (.val (.int (c : Nat))), some (.val (tI (runs (s.take c) row))), some (.val (.list [tI (runs s row), tI (runs s row), tI (runs s row)])), some (.val (.bool (rising (runs s row)))), none, none, none]) ?_))
    simp (config := {maxSteps := 3000000}) [rD, env0, sizeLine_eq, dSeq, dSkip, dRet, dIfS, dAsg, dAsgL, dAsgT, dDrop, dNo, dVar, dC, dBin, dOp, dB, dNot, dAnd, dOr, dAndV, dOrV, dNotV, dIsi, dChain2, dCh, dChE, dTup, dItems, asD, dLst, dConsD, dCons, dNil, R.bind, R.then, slD, free, tgN, tgT, tgCons, tgNil, oVal, oS, rsv, rsvs, dCb, gLe, gLt, gGt, gGe, gI0, gI, gMinus, gAdd, gIx, gLen, asSeq, asLs, gTuple, gList, gIsX, isNonA, dSome, dNone, dSl, gSl, vR, dcl3 cl_does_sort, dcl3k210 cl_does_sort, a1, a2, dcl2 cl_fits, a3]
  have e8 : (dAsg 9 (dCb gTuple (dConsD (dLst (dLc (dIt (dVar 3)) (tgN 11) (dYes) (dBin gAdd (dBin gMul (dBin gMul (dBin gMul (dC (.int 3)) (dVar 11)) (dVar 11)) (dVar 11)) (dC (.int 7))) [11])) (dNil)))) [some (.arg w2), some (.val (.int n)), some (.val (tS s)), some (.val (tI row)), some (.val (tI (runs s row))), some (.val (.int (c : Nat))), some (.val (tI (runs (s.take c) row))), some (.val (.list [tI (runs s row), tI (runs s row), tI (runs s row)])), some (.val (.bool (rising (runs s row)))), none, none, none] = .nx [some (.arg w2), some (.val (.int n)), some (.val (tS s)), some (.val (tI row)), some (.val (tI (runs s row))), some (.val (.int (c : Nat))), some (.val (tI (runs (s.take c) row))), some (.val (.list [tI (runs s row), tI (runs s row), tI (runs s row)])), some (.val (.bool (rising (runs s row)))), some (.val (tI (row.map cub))), none, none] := by
    exact asg_nx (led_lc row hr (by omega) 3 [some (.arg w2), some (.val (.int n)), some (.val (tS s)), some (.val (tI row)), some (.val (tI (runs s row))), some (.val (.int (c : Nat))), some (.val (tI (runs (s.take c) row))), some (.val (.list [tI (runs s row), tI (runs s row), tI (runs s row)])), some (.val (.bool (rising (runs s row)))), none, none, none] (by decide) rfl rfl rfl) rfl rfl
  have e9 : (dIfS (dB (dBin gNe (dCl fn_sorted_by (dConsD (dVar 1) (dConsD (dVar 2) (dConsD (dVar 9) (dNil)))) dNil [0, 1, 2] []) (dCb gTuple (dConsD (dLst (dLc (dIt (dVar 4)) (tgN 11) (dYes) (dBin gAdd (dBin gMul (dBin gMul (dBin gMul (dC (.int 3)) (dVar 11)) (dVar 11)) (dVar 11)) (dC (.int 7))) [11])) (dNil))))) (dRet (dC (.bool false))) (dSkip)) [some (.arg w2), some (.val (.int n)), some (.val (tS s)), some (.val (tI row)), some (.val (tI (runs s row))), some (.val (.int (c : Nat))), some (.val (tI (runs (s.take c) row))), some (.val (.list [tI (runs s row), tI (runs s row), tI (runs s row)])), some (.val (.bool (rising (runs s row)))), some (.val (tI (row.map cub))), none, none] = .nx [some (.arg w2), some (.val (.int n)), some (.val (tS s)), some (.val (tI row)), some (.val (tI (runs s row))), some (.val (.int (c : Nat))), some (.val (tI (runs (s.take c) row))), some (.val (.list [tI (runs s row), tI (runs s row), tI (runs s row)])), some (.val (.bool (rising (runs s row)))), some (.val (tI (row.map cub))), none, none] := by
    have a1 := led_lc (runs s row) hrs (by omega) 4 [some (.arg w2), some (.val (.int n)), some (.val (tS s)), some (.val (tI row)), some (.val (tI (runs s row))), some (.val (.int (c : Nat))), some (.val (tI (runs (s.take c) row))), some (.val (.list [tI (runs s row), tI (runs s row), tI (runs s row)])), some (.val (.bool (rising (runs s row)))), some (.val (tI (row.map cub))), none, none] (by decide) rfl rfl rfl
    have a2 := sorted_by_v h1 h8 hs (row := row.map cub) (by rw [List.length_map]; exact hl)
    rw [runs_map cub cub_le s row inr] at a2
    have a3 := neT ((runs s row).map cub) ((runs s row).map cub)
    rw [decide_eq_true rfl] at a3
    have a4 : dCl fn_sorted_by (dConsD (dVar 1) (dConsD (dVar 2) (dConsD (dVar 9) (dNil)))) dNil [0, 1, 2] [] [some (.arg w2), some (.val (.int n)), some (.val (tS s)), some (.val (tI row)), some (.val (tI (runs s row))), some (.val (.int (c : Nat))), some (.val (tI (runs (s.take c) row))), some (.val (.list [tI (runs s row), tI (runs s row), tI (runs s row)])), some (.val (.bool (rising (runs s row)))), some (.val (tI (row.map cub))), none, none] = .ok (tI ((runs s row).map cub)) [some (.arg w2), some (.val (.int n)), some (.val (tS s)), some (.val (tI row)), some (.val (tI (runs s row))), some (.val (.int (c : Nat))), some (.val (tI (runs (s.take c) row))), some (.val (.list [tI (runs s row), tI (runs s row), tI (runs s row)])), some (.val (.bool (rising (runs s row)))), some (.val (tI (row.map cub))), none, none] := by
      simp (config := {maxSteps := 3000000}) [rD, env0, sizeLine_eq, dSeq, dSkip, dRet, dIfS, dAsg, dAsgL, dAsgT, dDrop, dNo, dVar, dC, dBin, dOp, dB, dNot, dAnd, dOr, dAndV, dOrV, dNotV, dIsi, dChain2, dCh, dChE, dTup, dItems, asD, dLst, dConsD, dCons, dNil, R.bind, R.then, slD, free, tgN, tgT, tgCons, tgNil, oVal, oS, rsv, rsvs, dCb, gLe, gLt, gGt, gGe, gI0, gI, gMinus, gAdd, gIx, gLen, asSeq, asLs, gTuple, gList, gIsX, isNonA, dSome, dNone, dSl, gSl, vR, dcl3 cl_sorted_by, a2]
    refine if_noR (b_ok (ρ1 := [some (.arg w2), some (.val (.int n)), some (.val (tS s)), some (.val (tI row)), some (.val (tI (runs s row))), some (.val (.int (c : Nat))), some (.val (tI (runs (s.take c) row))), some (.val (.list [tI (runs s row), tI (runs s row), tI (runs s row)])), some (.val (.bool (rising (runs s row)))), some (.val (tI (row.map cub))), none, none]) ?_)
    simp only [dBin, a4, a1, R.bind, a3, Bool.not_true]
  have e10 : (dAsg 10 (dCb gTuple (dConsD (dLst (dCb gSortI (dConsD (dVar 3) (dNil)))) (dNil)))) [some (.arg w2), some (.val (.int n)), some (.val (tS s)), some (.val (tI row)), some (.val (tI (runs s row))), some (.val (.int (c : Nat))), some (.val (tI (runs (s.take c) row))), some (.val (.list [tI (runs s row), tI (runs s row), tI (runs s row)])), some (.val (.bool (rising (runs s row)))), some (.val (tI (row.map cub))), none, none] = .nx [some (.arg w2), some (.val (.int n)), some (.val (tS s)), some (.val (tI row)), some (.val (tI (runs s row))), some (.val (.int (c : Nat))), some (.val (tI (runs (s.take c) row))), some (.val (.list [tI (runs s row), tI (runs s row), tI (runs s row)])), some (.val (.bool (rising (runs s row)))), some (.val (tI (row.map cub))), some (.val (tI (sortI row))), none] := by
    have a1 := sortT row (by omega)
    refine asg_nx (ρ1 := [some (.arg w2), some (.val (.int n)), some (.val (tS s)), some (.val (tI row)), some (.val (tI (runs s row))), some (.val (.int (c : Nat))), some (.val (tI (runs (s.take c) row))), some (.val (.list [tI (runs s row), tI (runs s row), tI (runs s row)])), some (.val (.bool (rising (runs s row)))), some (.val (tI (row.map cub))), none, none]) ?_ rfl rfl
    simp (config := {maxSteps := 3000000}) [rD, env0, sizeLine_eq, dSeq, dSkip, dRet, dIfS, dAsg, dAsgL, dAsgT, dDrop, dNo, dVar, dC, dBin, dOp, dB, dNot, dAnd, dOr, dAndV, dOrV, dNotV, dIsi, dChain2, dCh, dChE, dTup, dItems, asD, dLst, dConsD, dCons, dNil, R.bind, R.then, slD, free, tgN, tgT, tgCons, tgNil, oVal, oS, rsv, rsvs, dCb, gLe, gLt, gGt, gGe, gI0, gI, gMinus, gAdd, gIx, gLen, asSeq, asLs, gTuple, gList, gIsX, isNonA, dSome, dNone, dSl, gSl, vR, a1]
  have e11 : (dIfS (dNot (dB (dCl fn__law_fits (dConsD (dLst (dItems (dConsD (dCl fn_sorted_by (dConsD (dVar 1) (dConsD (dVar 2) (dConsD (dVar 10) (dNil)))) dNil [0, 1, 2] []) (dConsD (dCl fn_sorted_by (dConsD (dVar 1) (dConsD (dVar 2) (dConsD (dBin gMul (dSl (oVal (dVar 3)) dNone (dSome (dC (.int 1)))) (dVar 1)) (dNil)))) dNil [0, 1, 2] []) (dNil))))) (dConsD (dLst (dItems (dConsD (dVar 10) (dConsD (dBin gMul (dSl (oVal (dVar 3)) dNone (dSome (dC (.int 1)))) (dVar 1)) (dNil))))) (dNil))) dNil [0, 1] []))) (dRet (dC (.bool false))) (dSkip)) [some (.arg w2), some (.val (.int n)), some (.val (tS s)), some (.val (tI row)), some (.val (tI (runs s row))), some (.val (.int (c : Nat))), some (.val (tI (runs (s.take c) row))), some (.val (.list [tI (runs s row), tI (runs s row), tI (runs s row)])), some (.val (.bool (rising (runs s row)))), some (.val (tI (row.map cub))), some (.val (tI (sortI row))), none] = .nx [some (.arg w2), some (.val (.int n)), some (.val (tS s)), some (.val (tI row)), some (.val (tI (runs s row))), some (.val (.int (c : Nat))), some (.val (tI (runs (s.take c) row))), some (.val (.list [tI (runs s row), tI (runs s row), tI (runs s row)])), some (.val (.bool (rising (runs s row)))), some (.val (tI (row.map cub))), some (.val (tI (sortI row))), none] := by
    have a1 := sorted_by_v h1 h8 hs sl
    rw [runs_still s srt (fun p hp => ⟨(hs.1 p hp).1, by rw [sl]; exact (hs.1 p hp).2⟩)] at a1
    have a2 := sorted_by_v h1 h8 hs (row := List.replicate n x0) List.length_replicate
    rw [runs_still s rps (fun p hp => ⟨(hs.1 p hp).1, by rw [List.length_replicate]; exact (hs.1 p hp).2⟩)] at a2
    have a3 := flatn x0 n h1 h8
    have a4 := fits_rows (rs := [sortI row, List.replicate n x0]) (fun r hr' => by
      simp at hr'
      rcases hr' with e | e
      · rw [e]; exact ⟨sr, by omega⟩
      · rw [e]; exact ⟨rpr, by rw [List.length_replicate]; exact h8⟩) (by simp)
    simp only [List.map_cons, List.map_nil] at a4
    have a5 : dBin gMul (dSl (oVal (dVar 3)) dNone (dSome (dC (.int 1)))) (dVar 1) [some (.arg w2), some (.val (.int n)), some (.val (tS s)), some (.val (tI row)), some (.val (tI (runs s row))), some (.val (.int (c : Nat))), some (.val (tI (runs (s.take c) row))), some (.val (.list [tI (runs s row), tI (runs s row), tI (runs s row)])), some (.val (.bool (rising (runs s row)))), some (.val (tI (row.map cub))), some (.val (tI (sortI row))), none] = .ok (tI (List.replicate n x0)) [some (.arg w2), some (.val (.int n)), some (.val (tS s)), some (.val (tI row)), some (.val (tI (runs s row))), some (.val (.int (c : Nat))), some (.val (tI (runs (s.take c) row))), some (.val (.list [tI (runs s row), tI (runs s row), tI (runs s row)])), some (.val (.bool (rising (runs s row)))), some (.val (tI (row.map cub))), some (.val (tI (sortI row))), none] := by
      have b1 := cut_to (row.map .int) 1
      rw [erow] at b1
      simp only [List.map_cons, List.take_succ_cons, List.take_zero, Int.natCast_one] at b1
      have b2 : dSl (oVal (dVar 3)) dNone (dSome (dC (.int 1))) [some (.arg w2), some (.val (.int n)), some (.val (tS s)), some (.val (tI row)), some (.val (tI (runs s row))), some (.val (.int (c : Nat))), some (.val (tI (runs (s.take c) row))), some (.val (.list [tI (runs s row), tI (runs s row), tI (runs s row)])), some (.val (.bool (rising (runs s row)))), some (.val (tI (row.map cub))), some (.val (tI (sortI row))), none] = .ok (tI [x0]) [some (.arg w2), some (.val (.int n)), some (.val (tS s)), some (.val (tI row)), some (.val (tI (runs s row))), some (.val (.int (c : Nat))), some (.val (tI (runs (s.take c) row))), some (.val (.list [tI (runs s row), tI (runs s row), tI (runs s row)])), some (.val (.bool (rising (runs s row)))), some (.val (tI (row.map cub))), some (.val (tI (sortI row))), none] := by
        rw [erow]
        simp (config := {maxSteps := 3000000}) [rD, env0, sizeLine_eq, dSeq, dSkip, dRet, dIfS, dAsg, dAsgL, dAsgT, dDrop, dNo, dVar, dC, dBin, dOp, dB, dNot, dAnd, dOr, dAndV, dOrV, dNotV, dIsi, dChain2, dCh, dChE, dTup, dItems, asD, dLst, dConsD, dCons, dNil, R.bind, R.then, slD, free, tgN, tgT, tgCons, tgNil, oVal, oS, rsv, rsvs, dCb, gLe, gLt, gGt, gGe, gI0, gI, gMinus, gAdd, gIx, gLen, asSeq, asLs, gTuple, gList, gIsX, isNonA, dSome, dNone, dSl, gSl, vR, b1]
      have b3 : dVar 1 [some (.arg w2), some (.val (.int n)), some (.val (tS s)), some (.val (tI row)), some (.val (tI (runs s row))), some (.val (.int (c : Nat))), some (.val (tI (runs (s.take c) row))), some (.val (.list [tI (runs s row), tI (runs s row), tI (runs s row)])), some (.val (.bool (rising (runs s row)))), some (.val (tI (row.map cub))), some (.val (tI (sortI row))), none] = .ok (.int n) [some (.arg w2), some (.val (.int n)), some (.val (tS s)), some (.val (tI row)), some (.val (tI (runs s row))), some (.val (.int (c : Nat))), some (.val (tI (runs (s.take c) row))), some (.val (.list [tI (runs s row), tI (runs s row), tI (runs s row)])), some (.val (.bool (rising (runs s row)))), some (.val (tI (row.map cub))), some (.val (tI (sortI row))), none] := rfl
      unfold dBin
      simp only [b2, R.bind, b3, a3]
    have a6 : dCl fn_sorted_by (dConsD (dVar 1) (dConsD (dVar 2) (dConsD (dVar 10) (dNil)))) dNil [0, 1, 2] [] [some (.arg w2), some (.val (.int n)), some (.val (tS s)), some (.val (tI row)), some (.val (tI (runs s row))), some (.val (.int (c : Nat))), some (.val (tI (runs (s.take c) row))), some (.val (.list [tI (runs s row), tI (runs s row), tI (runs s row)])), some (.val (.bool (rising (runs s row)))), some (.val (tI (row.map cub))), some (.val (tI (sortI row))), none] = .ok (tI (sortI row)) [some (.arg w2), some (.val (.int n)), some (.val (tS s)), some (.val (tI row)), some (.val (tI (runs s row))), some (.val (.int (c : Nat))), some (.val (tI (runs (s.take c) row))), some (.val (.list [tI (runs s row), tI (runs s row), tI (runs s row)])), some (.val (.bool (rising (runs s row)))), some (.val (tI (row.map cub))), some (.val (tI (sortI row))), none] := by
      simp (config := {maxSteps := 3000000}) [rD, env0, sizeLine_eq, dSeq, dSkip, dRet, dIfS, dAsg, dAsgL, dAsgT, dDrop, dNo, dVar, dC, dBin, dOp, dB, dNot, dAnd, dOr, dAndV, dOrV, dNotV, dIsi, dChain2, dCh, dChE, dTup, dItems, asD, dLst, dConsD, dCons, dNil, R.bind, R.then, slD, free, tgN, tgT, tgCons, tgNil, oVal, oS, rsv, rsvs, dCb, gLe, gLt, gGt, gGe, gI0, gI, gMinus, gAdd, gIx, gLen, asSeq, asLs, gTuple, gList, gIsX, isNonA, dSome, dNone, dSl, gSl, vR, dcl3 cl_sorted_by, a1]
    have a7 : dCl fn_sorted_by (dConsD (dVar 1) (dConsD (dVar 2) (dConsD (dBin gMul (dSl (oVal (dVar 3)) dNone (dSome (dC (.int 1)))) (dVar 1)) (dNil)))) dNil [0, 1, 2] [] [some (.arg w2), some (.val (.int n)), some (.val (tS s)), some (.val (tI row)), some (.val (tI (runs s row))), some (.val (.int (c : Nat))), some (.val (tI (runs (s.take c) row))), some (.val (.list [tI (runs s row), tI (runs s row), tI (runs s row)])), some (.val (.bool (rising (runs s row)))), some (.val (tI (row.map cub))), some (.val (tI (sortI row))), none] = .ok (tI (List.replicate n x0)) [some (.arg w2), some (.val (.int n)), some (.val (tS s)), some (.val (tI row)), some (.val (tI (runs s row))), some (.val (.int (c : Nat))), some (.val (tI (runs (s.take c) row))), some (.val (.list [tI (runs s row), tI (runs s row), tI (runs s row)])), some (.val (.bool (rising (runs s row)))), some (.val (tI (row.map cub))), some (.val (tI (sortI row))), none] := by
      rw [dcl3 cl_sorted_by]
      have b3 : dVar 1 [some (.arg w2), some (.val (.int n)), some (.val (tS s)), some (.val (tI row)), some (.val (tI (runs s row))), some (.val (.int (c : Nat))), some (.val (tI (runs (s.take c) row))), some (.val (.list [tI (runs s row), tI (runs s row), tI (runs s row)])), some (.val (.bool (rising (runs s row)))), some (.val (tI (row.map cub))), some (.val (tI (sortI row))), none] = .ok (.int n) [some (.arg w2), some (.val (.int n)), some (.val (tS s)), some (.val (tI row)), some (.val (tI (runs s row))), some (.val (.int (c : Nat))), some (.val (tI (runs (s.take c) row))), some (.val (.list [tI (runs s row), tI (runs s row), tI (runs s row)])), some (.val (.bool (rising (runs s row)))), some (.val (tI (row.map cub))), some (.val (tI (sortI row))), none] := rfl
      have b4 : dVar 2 [some (.arg w2), some (.val (.int n)), some (.val (tS s)), some (.val (tI row)), some (.val (tI (runs s row))), some (.val (.int (c : Nat))), some (.val (tI (runs (s.take c) row))), some (.val (.list [tI (runs s row), tI (runs s row), tI (runs s row)])), some (.val (.bool (rising (runs s row)))), some (.val (tI (row.map cub))), some (.val (tI (sortI row))), none] = .ok (tS s) [some (.arg w2), some (.val (.int n)), some (.val (tS s)), some (.val (tI row)), some (.val (tI (runs s row))), some (.val (.int (c : Nat))), some (.val (tI (runs (s.take c) row))), some (.val (.list [tI (runs s row), tI (runs s row), tI (runs s row)])), some (.val (.bool (rising (runs s row)))), some (.val (tI (row.map cub))), some (.val (tI (sortI row))), none] := rfl
      simp only [b3, b4, R.bind, a5, a2, vR]
    have a8 : dVar 10 [some (.arg w2), some (.val (.int n)), some (.val (tS s)), some (.val (tI row)), some (.val (tI (runs s row))), some (.val (.int (c : Nat))), some (.val (tI (runs (s.take c) row))), some (.val (.list [tI (runs s row), tI (runs s row), tI (runs s row)])), some (.val (.bool (rising (runs s row)))), some (.val (tI (row.map cub))), some (.val (tI (sortI row))), none] = .ok (tI (sortI row)) [some (.arg w2), some (.val (.int n)), some (.val (tS s)), some (.val (tI row)), some (.val (tI (runs s row))), some (.val (.int (c : Nat))), some (.val (tI (runs (s.take c) row))), some (.val (.list [tI (runs s row), tI (runs s row), tI (runs s row)])), some (.val (.bool (rising (runs s row)))), some (.val (tI (row.map cub))), some (.val (tI (sortI row))), none] := rfl
    refine if_noR (not_t (b_ok (ρ1 := [some (.arg w2), some (.val (.int n)), some (.val (tS s)), some (.val (tI row)), some (.val (tI (runs s row))), some (.val (.int (c : Nat))), some (.val (tI (runs (s.take c) row))), some (.val (.list [tI (runs s row), tI (runs s row), tI (runs s row)])), some (.val (.bool (rising (runs s row)))), some (.val (tI (row.map cub))), some (.val (tI (sortI row))), none]) ?_))
    rw [dcl2 cl_fits]
    simp [dLst, dItems, dConsD, dNil, a6, a7, a8, a5, R.bind, asD, a4, vR, sizeLine_eq]
  have e12 : (dRet (dChain3 gEq gLe gEq (dCl fn_disorder (dConsD (dVar 1) (dConsD (dVar 4) (dNil))) dNil [0, 1] []) (dCl fn__law_disorder (dConsD (dVar 4) (dNil)) dNil [0] []) (dCl fn_disorder dNil (dConsD (dVar 3) (dConsD (dVar 1) (dNil))) [1, 0] []) (dCl fn__law_disorder (dConsD (dVar 3) (dNil)) dNil [0] []))) [some (.arg w2), some (.val (.int n)), some (.val (tS s)), some (.val (tI row)), some (.val (tI (runs s row))), some (.val (.int (c : Nat))), some (.val (tI (runs (s.take c) row))), some (.val (.list [tI (runs s row), tI (runs s row), tI (runs s row)])), some (.val (.bool (rising (runs s row)))), some (.val (tI (row.map cub))), some (.val (tI (sortI row))), none] = .ret (.bool true) [some (.arg w2), some (.val (.int n)), some (.val (tS s)), some (.val (tI row)), some (.val (tI (runs s row))), some (.val (.int (c : Nat))), some (.val (tI (runs (s.take c) row))), some (.val (.list [tI (runs s row), tI (runs s row), tI (runs s row)])), some (.val (.bool (rising (runs s row)))), some (.val (tI (row.map cub))), some (.val (tI (sortI row))), none] := by
    have a1 := disorder_v h1 h8 hls
    have a2 := disorder_v h1 h8 hl
    have a3 := law_disorder_v (runs s row) (by omega)
    have a4 := law_disorder_v row (by omega)
    have a5 : inv (runs s row) ≤ inv row := by
      rw [inv_eq, inv_eq]
      have := runs_iv s row inr2
      omega
    simp (config := {maxSteps := 3000000}) [rD, env0, sizeLine_eq, dSeq, dSkip, dRet, dIfS, dAsg, dAsgL, dAsgT, dDrop, dNo, dVar, dC, dBin, dOp, dB, dNot, dAnd, dOr, dAndV, dOrV, dNotV, dIsi, dChain2, dCh, dChE, dTup, dItems, asD, dLst, dConsD, dCons, dNil, R.bind, R.then, slD, free, tgN, tgT, tgCons, tgNil, oVal, oS, rsv, rsvs, dCb, gLe, gLt, gGt, gGe, gI0, gI, gMinus, gAdd, gIx, gLen, asSeq, asLs, gTuple, gList, gIsX, isNonA, dSome, dNone, dSl, gSl, vR, dChain3, dcl2 cl_disorder, dcl2k10 cl_disorder, dcl1 cl_ldis, a1, a2, a3, a4, gE, toD, SeqAt.shaped, PyData.canLay0, PyData.depth, PyData.eqv, a5]
  refine ⟨w2, ?_, hw2⟩
  have tot : g__law_row_right [some (.arg w), some (.val (.int n)), some (.val (tS s)), none, none, none, none, none, none, none, none, none] = .ret (.bool true) [some (.arg w2), some (.val (.int n)), some (.val (tS s)), some (.val (tI row)), some (.val (tI (runs s row))), some (.val (.int (c : Nat))), some (.val (tI (runs (s.take c) row))), some (.val (.list [tI (runs s row), tI (runs s row), tI (runs s row)])), some (.val (.bool (rising (runs s row)))), some (.val (tI (row.map cub))), some (.val (tI (sortI row))), none] := by
    unfold g__law_row_right
    rw [seq_nx e1, seq_nx e2, seq_nx e3, seq_nx e4, seq_nx e5, seq_nx e6, seq_nx e7, seq_nx e8, seq_nx e9, seq_nx e10, seq_nx e11, e12]
  exact (apW_def _ _).trans ((congrArg (rW w) tot).trans rfl)
end T51

namespace T51
open L2 L2.G PySem PySem.Spec PyProof.Rows
def bd (s : List (Nat × Nat)) (d : D) : D := .tuple ((s.map pD).take 59 ++ [d])
theorem addT (a b : List D) (h : a.length + b.length ≤ 1000) : gAdd (.val (.tuple a)) (.val (.tuple b)) = some (.tuple (a ++ b)) := by
  have : a.length + b.length ≤ sizeLine := by rw [sizeLine_eq]; omega
  simp only [gAdd, gAddL, asLst, asTup, this, if_true]
theorem addL (a b : List D) (h : a.length + b.length ≤ 1000) : gAdd (.val (.list a)) (.val (.list b)) = some (.list (a ++ b)) := by
  have : a.length + b.length ≤ sizeLine := by rw [sizeLine_eq]; omega
  simp only [gAdd, gAddL, asLst, asTup, this, if_true]
theorem flatD (d : D) (n : Nat) (h1 : 2 ≤ n) (h2 : n ≤ 1000) : gMul (.val (.tuple [d])) (.val (.int n)) = some (.tuple (List.replicate n d)) := by
  have e : (List.replicate n [d]).flatten = List.replicate n d := by
    clear h1 h2
    induction n with
    | zero => rfl
    | succ n ih => rw [List.replicate_succ, List.flatten_cons, ih, List.replicate_succ]; rfl
  have a : (2 : Int) ≤ (n : Int) := by omega
  have b : (n : Int) ≤ 1000 := by omega
  have c : (n : Int).toNat = n := Int.toNat_natCast n
  simp only [gMul, gMulL, asLst, asTup, ne_eq, reduceCtorEq, not_false_eq_true, a, b, true_and, List.length_cons, List.length_nil, Nat.zero_add, Nat.reduceLeDiff, if_true, c, e]
theorem el {s : List (Nat × Nat)} {d : D} {f : En → R D} {ρ : En} (hs : s.length ≤ 60) (h2 : slD ρ 2 = some (.val (tS s))) (hf : dTup (dConsD f dNil) ρ = .ok (.tuple [d]) ρ) : dBin gAdd (dSl (oVal (dVar 2)) dNone (dSome (dC (.int 59)))) (dTup (dConsD f dNil)) ρ = .ok (bd s d) ρ := by
  have c : G.cutD (s.map pD) none (some 59) = (s.map pD).take 59 := cut_to _ 59
  have e : dSl (oVal (dVar 2)) dNone (dSome (dC (.int 59))) ρ = .ok (.tuple ((s.map pD).take 59)) ρ := by
    simp [dSl, oVal, dVar, h2, R.bind, dNone, dSome, dC, rsv, gSl, c]
  unfold dBin
  simp only [e, hf, R.bind]
  rw [addT _ _ (by rw [List.length_take, List.length_map, List.length_singleton]; omega)]
  rfl
theorem bd_no {n : Nat} {s : List (Nat × Nat)} {d : D} (h : cOk n d = false) : sOk n (bd s d) = false := by
  have := fb_bad n ((s.map pD).take 59 ++ [d]) 0 ⟨d, List.mem_append_right _ (List.mem_singleton.mpr rfl), h⟩
  show (firstBad _ _ _).isNone = false
  cases q : firstBad (n : Int) ((s.map pD).take 59 ++ [d]) 0 with
  | none => exact absurd q this
  | some _ => rfl
theorem bin_ok {g : Ar → Ar → Option D} {fa fb : En → R D} {ρ ρ1 ρ2 : En} {x y z : D} (h1 : fa ρ = .ok x ρ1) (h2 : fb ρ1 = .ok y ρ2) (h3 : g (.val x) (.val y) = some z) : dBin g fa fb ρ = .ok z ρ2 := by
  unfold dBin
  rw [h1]
  simp only [R.bind]
  rw [h2]
  simp only [h3]
theorem cb_ok {g : List Ar → Option D} {f : En → R D} {ρ ρ1 : En} {d z : D} (h1 : f ρ = .ok d ρ1) (h2 : g [.val d] = some z) : dCb g (dConsD f dNil) ρ = .ok z ρ1 := by
  unfold dCb dConsD
  rw [h1]
  simp only [R.bind, dNil, rsvs, rsv, h2]
theorem lst_ok {f : En → R (List D)} {ρ ρ1 : En} {ds : List D} (h : f ρ = .ok ds ρ1) : dLst f ρ = .ok (.list ds) ρ1 := by
  unfold dLst
  rw [h]
theorem cons_ok {f : En → R D} {g : En → R (List AV)} {ρ ρ1 ρ2 : En} {d : D} {as : List AV} (h1 : f ρ = .ok d ρ1) (h2 : g ρ1 = .ok as ρ2) : dConsD f g ρ = .ok (.d d :: as) ρ2 := by
  unfold dConsD
  rw [h1]
  simp only [R.bind]
  rw [h2]
theorem items_ok {f : En → R (List AV)} {ρ ρ1 : En} {as : List AV} {ds : List D} (h1 : f ρ = .ok as ρ1) (h2 : asD as = some ds) (h3 : ds.length ≤ 1000000) : dItems f ρ = .ok ds ρ1 := by
  unfold dItems
  rw [h1]
  simp only [R.bind, h2]
  rw [if_pos (len_S _ h3)]
theorem values_v {w : List (Key × D)} {n : Nat} (h1 : 2 ≤ n) (h8 : n ≤ 8) {s : List (Nat × Nat)} (hs : okS n s) : apW fn__law_values_right w [.int n, tS s] = some (.bool true, w) := by
  have e1 : (dAsg 3 (dLst (dItems (dConsD (dLst (dCb gList (dConsD (dVar 2) (dNil)))) (dConsD (dBin gAdd (dSl (oVal (dVar 2)) dNone (dSome (dC (.int 59)))) (dTup (dConsD (dTup (dConsD (dC (.int 1)) (dConsD (dC (.int 0)) (dNil)))) (dNil)))) (dConsD (dBin gAdd (dSl (oVal (dVar 2)) dNone (dSome (dC (.int 59)))) (dTup (dConsD (dTup (dConsD (dC (.int 0)) (dConsD (dVar 1) (dNil)))) (dNil)))) (dConsD (dBin gAdd (dSl (oVal (dVar 2)) dNone (dSome (dC (.int 59)))) (dTup (dConsD (dTup (dConsD (dC (.int 0)) (dConsD (dC (.int 0)) (dNil)))) (dNil)))) (dConsD (dBin gAdd (dSl (oVal (dVar 2)) dNone (dSome (dC (.int 59)))) (dTup (dConsD (dTup (dConsD (dC (.int 0)) (dConsD (dC (.int 1)) (dConsD (dC (.int 1)) (dNil))))) (dNil)))) (dConsD (dC .none) (dConsD (dC (.str "01")) (dNil))))))))))) [some (.arg w), some (.val (.int n)), some (.val (tS s)), none, none] = .nx [some (.arg w), some (.val (.int n)), some (.val (tS s)), some (.val (.list ([.list (s.map pD), bd s (PyData.tuple [.int 1, .int 0]), bd s (PyData.tuple [.int 0, .int n]), bd s (PyData.tuple [.int 0, .int 0]), bd s (PyData.tuple [.int 0, .int 1, .int 1]), .none, .str "01"]))), none] := by
    have a0 := el (s := s) (d := PyData.tuple [.int 1, .int 0]) (f := dTup (dConsD (dC (.int 1)) (dConsD (dC (.int 0)) (dNil)))) (ρ := [some (.arg w), some (.val (.int n)), some (.val (tS s)), none, none]) hs.2 rfl (by simp [dTup, dLst, dItems, dConsD, dNil, dC, dVar, dNeg, R.bind, asD, sizeLine_eq, slD])
    have a1 := el (s := s) (d := PyData.tuple [.int 0, .int n]) (f := dTup (dConsD (dC (.int 0)) (dConsD (dVar 1) (dNil)))) (ρ := [some (.arg w), some (.val (.int n)), some (.val (tS s)), none, none]) hs.2 rfl (by simp [dTup, dLst, dItems, dConsD, dNil, dC, dVar, dNeg, R.bind, asD, sizeLine_eq, slD])
    have a2 := el (s := s) (d := PyData.tuple [.int 0, .int 0]) (f := dTup (dConsD (dC (.int 0)) (dConsD (dC (.int 0)) (dNil)))) (ρ := [some (.arg w), some (.val (.int n)), some (.val (tS s)), none, none]) hs.2 rfl (by simp [dTup, dLst, dItems, dConsD, dNil, dC, dVar, dNeg, R.bind, asD, sizeLine_eq, slD])
    have a3 := el (s := s) (d := PyData.tuple [.int 0, .int 1, .int 1]) (f := dTup (dConsD (dC (.int 0)) (dConsD (dC (.int 1)) (dConsD (dC (.int 1)) (dNil))))) (ρ := [some (.arg w), some (.val (.int n)), some (.val (tS s)), none, none]) hs.2 rfl (by simp [dTup, dLst, dItems, dConsD, dNil, dC, dVar, dNeg, R.bind, asD, sizeLine_eq, slD])
    have b0 : dLst (dCb gList (dConsD (dVar 2) (dNil))) [some (.arg w), some (.val (.int n)), some (.val (tS s)), none, none] = .ok (.list (s.map pD)) [some (.arg w), some (.val (.int n)), some (.val (tS s)), none, none] := by simp (config := {maxSteps := 3000000}) [rD, env0, sizeLine_eq, dSeq, dSkip, dRet, dIfS, dAsg, dAsgL, dAsgT, dDrop, dNo, dVar, dC, dBin, dOp, dB, dNot, dAnd, dOr, dAndV, dOrV, dNotV, dIsi, dChain2, dCh, dChE, dTup, dItems, asD, dLst, dConsD, dCons, dNil, R.bind, R.then, slD, free, tgN, tgT, tgCons, tgNil, oVal, oS, rsv, rsvs, dCb, gLe, gLt, gGt, gGe, gI0, gI, gMinus, gAdd, gIx, gLen, asSeq, asLs, gTuple, gList, gIsX, isNonA, dSome, dNone, dSl, gSl, vR]
    refine asg_nx (ρ1 := [some (.arg w), some (.val (.int n)), some (.val (tS s)), none, none]) ?_ rfl rfl
    exact lst_ok (items_ok (cons_ok b0 (cons_ok a0 (cons_ok a1 (cons_ok a2 (cons_ok a3 (cons_ok rfl (cons_ok rfl rfl))))))) rfl (by simp))
  have e2 : (dAsg 3 (dBin gAdd (dVar 3) (dLst (dItems (dConsD (dBin gAdd (dSl (oVal (dVar 2)) dNone (dSome (dC (.int 59)))) (dTup (dConsD (dLst (dItems (dConsD (dC (.int 0)) (dConsD (dC (.int 1)) (dNil))))) (dNil)))) (dConsD (dBin gAdd (dSl (oVal (dVar 2)) dNone (dSome (dC (.int 59)))) (dTup (dConsD (dTup (dConsD (dC (.int 0)) (dConsD (dC (.bool true)) (dNil)))) (dNil)))) (dConsD (dBin gAdd (dSl (oVal (dVar 2)) dNone (dSome (dC (.int 59)))) (dTup (dConsD (dTup (dConsD (dNeg (dC (.int 1))) (dConsD (dC (.int 0)) (dNil)))) (dNil)))) (dConsD (dBin gMul (dTup (dConsD (dTup (dConsD (dC (.int 0)) (dConsD (dC (.int 1)) (dNil)))) (dNil))) (dC (.int 61))) (dConsD (dTup (dConsD (dC (.int 0)) (dConsD (dC (.int 1)) (dNil)))) (dConsD (dBin gAdd (dSl (oVal (dVar 2)) dNone (dSome (dC (.int 59)))) (dTup (dConsD (dTup (dConsD (dC (.str "0")) (dConsD (dC (.str "1")) (dNil)))) (dNil)))) (dNil))))))))))) [some (.arg w), some (.val (.int n)), some (.val (tS s)), some (.val (.list ([.list (s.map pD), bd s (PyData.tuple [.int 1, .int 0]), bd s (PyData.tuple [.int 0, .int n]), bd s (PyData.tuple [.int 0, .int 0]), bd s (PyData.tuple [.int 0, .int 1, .int 1]), .none, .str "01"]))), none] = .nx [some (.arg w), some (.val (.int n)), some (.val (tS s)), some (.val (.list ([.list (s.map pD), bd s (PyData.tuple [.int 1, .int 0]), bd s (PyData.tuple [.int 0, .int n]), bd s (PyData.tuple [.int 0, .int 0]), bd s (PyData.tuple [.int 0, .int 1, .int 1]), .none, .str "01"] ++ [bd s (PyData.list [.int 0, .int 1]), bd s (PyData.tuple [.int 0, .bool true]), bd s (PyData.tuple [.int (-1), .int 0]), .tuple (List.replicate 61 (pD (0, 1))), .tuple [.int 0, .int 1], bd s (PyData.tuple [.str "0", .str "1"])]))), none] := by
    have a4 := el (s := s) (d := PyData.list [.int 0, .int 1]) (f := dLst (dItems (dConsD (dC (.int 0)) (dConsD (dC (.int 1)) (dNil))))) (ρ := [some (.arg w), some (.val (.int n)), some (.val (tS s)), some (.val (.list ([.list (s.map pD), bd s (PyData.tuple [.int 1, .int 0]), bd s (PyData.tuple [.int 0, .int n]), bd s (PyData.tuple [.int 0, .int 0]), bd s (PyData.tuple [.int 0, .int 1, .int 1]), .none, .str "01"]))), none]) hs.2 rfl (by simp [dTup, dLst, dItems, dConsD, dNil, dC, dVar, dNeg, R.bind, asD, sizeLine_eq, slD])
    have a5 := el (s := s) (d := PyData.tuple [.int 0, .bool true]) (f := dTup (dConsD (dC (.int 0)) (dConsD (dC (.bool true)) (dNil)))) (ρ := [some (.arg w), some (.val (.int n)), some (.val (tS s)), some (.val (.list ([.list (s.map pD), bd s (PyData.tuple [.int 1, .int 0]), bd s (PyData.tuple [.int 0, .int n]), bd s (PyData.tuple [.int 0, .int 0]), bd s (PyData.tuple [.int 0, .int 1, .int 1]), .none, .str "01"]))), none]) hs.2 rfl (by simp [dTup, dLst, dItems, dConsD, dNil, dC, dVar, dNeg, R.bind, asD, sizeLine_eq, slD])
    have a6 := el (s := s) (d := PyData.tuple [.int (-1), .int 0]) (f := dTup (dConsD (dNeg (dC (.int 1))) (dConsD (dC (.int 0)) (dNil)))) (ρ := [some (.arg w), some (.val (.int n)), some (.val (tS s)), some (.val (.list ([.list (s.map pD), bd s (PyData.tuple [.int 1, .int 0]), bd s (PyData.tuple [.int 0, .int n]), bd s (PyData.tuple [.int 0, .int 0]), bd s (PyData.tuple [.int 0, .int 1, .int 1]), .none, .str "01"]))), none]) hs.2 rfl (by simp [dTup, dLst, dItems, dConsD, dNil, dC, dVar, dNeg, R.bind, asD, sizeLine_eq, slD])
    have a7 := el (s := s) (d := PyData.tuple [.str "0", .str "1"]) (f := dTup (dConsD (dC (.str "0")) (dConsD (dC (.str "1")) (dNil)))) (ρ := [some (.arg w), some (.val (.int n)), some (.val (tS s)), some (.val (.list ([.list (s.map pD), bd s (PyData.tuple [.int 1, .int 0]), bd s (PyData.tuple [.int 0, .int n]), bd s (PyData.tuple [.int 0, .int 0]), bd s (PyData.tuple [.int 0, .int 1, .int 1]), .none, .str "01"]))), none]) hs.2 rfl (by simp [dTup, dLst, dItems, dConsD, dNil, dC, dVar, dNeg, R.bind, asD, sizeLine_eq, slD])
    have b1 : dBin gMul (dTup (dConsD (dTup (dConsD (dC (.int 0)) (dConsD (dC (.int 1)) (dNil)))) (dNil))) (dC (.int 61)) [some (.arg w), some (.val (.int n)), some (.val (tS s)), some (.val (.list ([.list (s.map pD), bd s (PyData.tuple [.int 1, .int 0]), bd s (PyData.tuple [.int 0, .int n]), bd s (PyData.tuple [.int 0, .int 0]), bd s (PyData.tuple [.int 0, .int 1, .int 1]), .none, .str "01"]))), none] = .ok (.tuple (List.replicate 61 (pD (0, 1)))) [some (.arg w), some (.val (.int n)), some (.val (tS s)), some (.val (.list ([.list (s.map pD), bd s (PyData.tuple [.int 1, .int 0]), bd s (PyData.tuple [.int 0, .int n]), bd s (PyData.tuple [.int 0, .int 0]), bd s (PyData.tuple [.int 0, .int 1, .int 1]), .none, .str "01"]))), none] := by
      have c := flatD (pD (0, 1)) 61 (by decide) (by decide)
      have d : dTup (dConsD (dTup (dConsD (dC (.int 0)) (dConsD (dC (.int 1)) (dNil)))) (dNil)) [some (.arg w), some (.val (.int n)), some (.val (tS s)), some (.val (.list ([.list (s.map pD), bd s (PyData.tuple [.int 1, .int 0]), bd s (PyData.tuple [.int 0, .int n]), bd s (PyData.tuple [.int 0, .int 0]), bd s (PyData.tuple [.int 0, .int 1, .int 1]), .none, .str "01"]))), none] = .ok (.tuple [pD (0, 1)]) [some (.arg w), some (.val (.int n)), some (.val (tS s)), some (.val (.list ([.list (s.map pD), bd s (PyData.tuple [.int 1, .int 0]), bd s (PyData.tuple [.int 0, .int n]), bd s (PyData.tuple [.int 0, .int 0]), bd s (PyData.tuple [.int 0, .int 1, .int 1]), .none, .str "01"]))), none] := by
        simp [dTup, dConsD, dNil, dC, R.bind, asD, sizeLine_eq]
      exact bin_ok d rfl c
    have b2 : dTup (dConsD (dC (.int 0)) (dConsD (dC (.int 1)) (dNil))) [some (.arg w), some (.val (.int n)), some (.val (tS s)), some (.val (.list ([.list (s.map pD), bd s (PyData.tuple [.int 1, .int 0]), bd s (PyData.tuple [.int 0, .int n]), bd s (PyData.tuple [.int 0, .int 0]), bd s (PyData.tuple [.int 0, .int 1, .int 1]), .none, .str "01"]))), none] = .ok (.tuple [.int 0, .int 1]) [some (.arg w), some (.val (.int n)), some (.val (tS s)), some (.val (.list ([.list (s.map pD), bd s (PyData.tuple [.int 1, .int 0]), bd s (PyData.tuple [.int 0, .int n]), bd s (PyData.tuple [.int 0, .int 0]), bd s (PyData.tuple [.int 0, .int 1, .int 1]), .none, .str "01"]))), none] := by
      simp [dTup, dConsD, dNil, dC, R.bind, asD, sizeLine_eq]
    have b3 : dLst (dItems (dConsD (dBin gAdd (dSl (oVal (dVar 2)) dNone (dSome (dC (.int 59)))) (dTup (dConsD (dLst (dItems (dConsD (dC (.int 0)) (dConsD (dC (.int 1)) (dNil))))) (dNil)))) (dConsD (dBin gAdd (dSl (oVal (dVar 2)) dNone (dSome (dC (.int 59)))) (dTup (dConsD (dTup (dConsD (dC (.int 0)) (dConsD (dC (.bool true)) (dNil)))) (dNil)))) (dConsD (dBin gAdd (dSl (oVal (dVar 2)) dNone (dSome (dC (.int 59)))) (dTup (dConsD (dTup (dConsD (dNeg (dC (.int 1))) (dConsD (dC (.int 0)) (dNil)))) (dNil)))) (dConsD (dBin gMul (dTup (dConsD (dTup (dConsD (dC (.int 0)) (dConsD (dC (.int 1)) (dNil)))) (dNil))) (dC (.int 61))) (dConsD (dTup (dConsD (dC (.int 0)) (dConsD (dC (.int 1)) (dNil)))) (dConsD (dBin gAdd (dSl (oVal (dVar 2)) dNone (dSome (dC (.int 59)))) (dTup (dConsD (dTup (dConsD (dC (.str "0")) (dConsD (dC (.str "1")) (dNil)))) (dNil)))) (dNil)))))))) [some (.arg w), some (.val (.int n)), some (.val (tS s)), some (.val (.list ([.list (s.map pD), bd s (PyData.tuple [.int 1, .int 0]), bd s (PyData.tuple [.int 0, .int n]), bd s (PyData.tuple [.int 0, .int 0]), bd s (PyData.tuple [.int 0, .int 1, .int 1]), .none, .str "01"]))), none] = .ok (.list ([bd s (PyData.list [.int 0, .int 1]), bd s (PyData.tuple [.int 0, .bool true]), bd s (PyData.tuple [.int (-1), .int 0]), .tuple (List.replicate 61 (pD (0, 1))), .tuple [.int 0, .int 1], bd s (PyData.tuple [.str "0", .str "1"])])) [some (.arg w), some (.val (.int n)), some (.val (tS s)), some (.val (.list ([.list (s.map pD), bd s (PyData.tuple [.int 1, .int 0]), bd s (PyData.tuple [.int 0, .int n]), bd s (PyData.tuple [.int 0, .int 0]), bd s (PyData.tuple [.int 0, .int 1, .int 1]), .none, .str "01"]))), none] := by
      exact lst_ok (items_ok (cons_ok a4 (cons_ok a5 (cons_ok a6 (cons_ok b1 (cons_ok b2 (cons_ok a7 rfl)))))) rfl (by simp))
    refine asg_nx (ρ1 := [some (.arg w), some (.val (.int n)), some (.val (tS s)), some (.val (.list ([.list (s.map pD), bd s (PyData.tuple [.int 1, .int 0]), bd s (PyData.tuple [.int 0, .int n]), bd s (PyData.tuple [.int 0, .int 0]), bd s (PyData.tuple [.int 0, .int 1, .int 1]), .none, .str "01"]))), none]) ?_ rfl rfl
    exact bin_ok rfl b3 (addL _ _ (by simp))
  have no : ∀ v ∈ [.list (s.map pD), bd s (PyData.tuple [.int 1, .int 0]), bd s (PyData.tuple [.int 0, .int n]), bd s (PyData.tuple [.int 0, .int 0]), bd s (PyData.tuple [.int 0, .int 1, .int 1]), .none, .str "01"] ++ [bd s (PyData.list [.int 0, .int 1]), bd s (PyData.tuple [.int 0, .bool true]), bd s (PyData.tuple [.int (-1), .int 0]), .tuple (List.replicate 61 (pD (0, 1))), .tuple [.int 0, .int 1], bd s (PyData.tuple [.str "0", .str "1"])], sOk n v = false := by
    intro v hv
    simp only [List.mem_append, List.mem_cons, List.not_mem_nil, or_false] at hv
    rcases hv with (rfl | rfl | rfl | rfl | rfl | rfl | rfl) | (rfl | rfl | rfl | rfl | rfl | rfl)
    · rfl
    · exact bd_no (by simp [cOk]; try omega)
    · exact bd_no (by simp [cOk]; try omega)
    · exact bd_no (by simp [cOk]; try omega)
    · exact bd_no rfl
    · rfl
    · rfl
    · exact bd_no rfl
    · exact bd_no rfl
    · exact bd_no (by simp [cOk]; try omega)
    · show (firstBad _ _ _).isNone = false
      have := fb_long n (List.replicate 61 (pD (0, 1))) 0 (by decide) (by rw [List.length_replicate]; decide)
      cases q : firstBad (n : Int) (List.replicate 61 (pD (0, 1))) 0 with
      | none => exact absurd q this
      | some _ => rfl
    · rfl
    · exact bd_no rfl
  have e3 : (dIfS (dB (dCb gAny (dConsD (dLst (dLc (dIt (dVar 3)) (tgN 4) (dYes) (dBin (gIsX true) (dCl fn_is_sorter (dConsD (dVar 1) (dConsD (dVar 4) (dNil))) dNil [0, 1] []) (dC (.bool false))) [4])) (dNil)))) (dRet (dC (.bool false))) (dSkip)) [some (.arg w), some (.val (.int n)), some (.val (tS s)), some (.val (.list ([.list (s.map pD), bd s (PyData.tuple [.int 1, .int 0]), bd s (PyData.tuple [.int 0, .int n]), bd s (PyData.tuple [.int 0, .int 0]), bd s (PyData.tuple [.int 0, .int 1, .int 1]), .none, .str "01"] ++ [bd s (PyData.list [.int 0, .int 1]), bd s (PyData.tuple [.int 0, .bool true]), bd s (PyData.tuple [.int (-1), .int 0]), .tuple (List.replicate 61 (pD (0, 1))), .tuple [.int 0, .int 1], bd s (PyData.tuple [.str "0", .str "1"])]))), none] = .nx [some (.arg w), some (.val (.int n)), some (.val (tS s)), some (.val (.list ([.list (s.map pD), bd s (PyData.tuple [.int 1, .int 0]), bd s (PyData.tuple [.int 0, .int n]), bd s (PyData.tuple [.int 0, .int 0]), bd s (PyData.tuple [.int 0, .int 1, .int 1]), .none, .str "01"] ++ [bd s (PyData.list [.int 0, .int 1]), bd s (PyData.tuple [.int 0, .bool true]), bd s (PyData.tuple [.int (-1), .int 0]), .tuple (List.replicate 61 (pD (0, 1))), .tuple [.int 0, .int 1], bd s (PyData.tuple [.str "0", .str "1"])]))), none] := by
    have C := dLc_of (fi := dIt (dVar 3)) (ft := tgN 4) (fc := dYes) (fe := dBin (gIsX true) (dCl fn_is_sorter (dConsD (dVar 1) (dConsD (dVar 4) (dNil))) dNil [0, 1] []) (dC (.bool false))) (vs := [4]) (ρ := [some (.arg w), some (.val (.int n)), some (.val (tS s)), some (.val (.list ([.list (s.map pD), bd s (PyData.tuple [.int 1, .int 0]), bd s (PyData.tuple [.int 0, .int n]), bd s (PyData.tuple [.int 0, .int 0]), bd s (PyData.tuple [.int 0, .int 1, .int 1]), .none, .str "01"] ++ [bd s (PyData.list [.int 0, .int 1]), bd s (PyData.tuple [.int 0, .bool true]), bd s (PyData.tuple [.int (-1), .int 0]), .tuple (List.replicate 61 (pD (0, 1))), .tuple [.int 0, .int 1], bd s (PyData.tuple [.str "0", .str "1"])]))), none])
      ([.list (s.map pD), bd s (PyData.tuple [.int 1, .int 0]), bd s (PyData.tuple [.int 0, .int n]), bd s (PyData.tuple [.int 0, .int 0]), bd s (PyData.tuple [.int 0, .int 1, .int 1]), .none, .str "01"] ++ [bd s (PyData.list [.int 0, .int 1]), bd s (PyData.tuple [.int 0, .bool true]), bd s (PyData.tuple [.int (-1), .int 0]), .tuple (List.replicate 61 (pD (0, 1))), .tuple [.int 0, .int 1], bd s (PyData.tuple [.str "0", .str "1"])]) (fun v : D => v) (fun _ => true) (fun v => .bool (sOk n v)) rfl (by rw [List.map_id']) rfl (len_S _ (by simp)) rfl
      (fun x _ => ⟨[some (.arg w), some (.val (.int n)), some (.val (tS s)), some (.val (.list ([.list (s.map pD), bd s (PyData.tuple [.int 1, .int 0]), bd s (PyData.tuple [.int 0, .int n]), bd s (PyData.tuple [.int 0, .int 0]), bd s (PyData.tuple [.int 0, .int 1, .int 1]), .none, .str "01"] ++ [bd s (PyData.list [.int 0, .int 1]), bd s (PyData.tuple [.int 0, .bool true]), bd s (PyData.tuple [.int (-1), .int 0]), .tuple (List.replicate 61 (pD (0, 1))), .tuple [.int 0, .int 1], bd s (PyData.tuple [.str "0", .str "1"])]))), some (.val x)], by rfl, by rfl, fun _ => by
        have := is_sorter_v n x (by omega) (by omega)
        rw [show dBin (gIsX true) (dCl fn_is_sorter (dConsD (dVar 1) (dConsD (dVar 4) (dNil))) dNil [0, 1] []) (dC (.bool false)) = fun ρ => (dCl fn_is_sorter (dConsD (dVar 1) (dConsD (dVar 4) (dNil))) dNil [0, 1] [] ρ).bind fun x ρ1 => (dC (.bool false) ρ1).bind fun y ρ2 => match gIsX true (.val x) (.val y) with | some z => R.ok z ρ2 | none => R.no from rfl]
        simp only [dcl2 cl_is_sorter]
        have z1 : dVar 1 [some (.arg w), some (.val (.int n)), some (.val (tS s)), some (.val (.list ([.list (s.map pD), bd s (PyData.tuple [.int 1, .int 0]), bd s (PyData.tuple [.int 0, .int n]), bd s (PyData.tuple [.int 0, .int 0]), bd s (PyData.tuple [.int 0, .int 1, .int 1]), .none, .str "01"] ++ [bd s (PyData.list [.int 0, .int 1]), bd s (PyData.tuple [.int 0, .bool true]), bd s (PyData.tuple [.int (-1), .int 0]), .tuple (List.replicate 61 (pD (0, 1))), .tuple [.int 0, .int 1], bd s (PyData.tuple [.str "0", .str "1"])]))), some (.val x)] = .ok (.int n) [some (.arg w), some (.val (.int n)), some (.val (tS s)), some (.val (.list ([.list (s.map pD), bd s (PyData.tuple [.int 1, .int 0]), bd s (PyData.tuple [.int 0, .int n]), bd s (PyData.tuple [.int 0, .int 0]), bd s (PyData.tuple [.int 0, .int 1, .int 1]), .none, .str "01"] ++ [bd s (PyData.list [.int 0, .int 1]), bd s (PyData.tuple [.int 0, .bool true]), bd s (PyData.tuple [.int (-1), .int 0]), .tuple (List.replicate 61 (pD (0, 1))), .tuple [.int 0, .int 1], bd s (PyData.tuple [.str "0", .str "1"])]))), some (.val x)] := rfl
        have z2 : dVar 4 [some (.arg w), some (.val (.int n)), some (.val (tS s)), some (.val (.list ([.list (s.map pD), bd s (PyData.tuple [.int 1, .int 0]), bd s (PyData.tuple [.int 0, .int n]), bd s (PyData.tuple [.int 0, .int 0]), bd s (PyData.tuple [.int 0, .int 1, .int 1]), .none, .str "01"] ++ [bd s (PyData.list [.int 0, .int 1]), bd s (PyData.tuple [.int 0, .bool true]), bd s (PyData.tuple [.int (-1), .int 0]), .tuple (List.replicate 61 (pD (0, 1))), .tuple [.int 0, .int 1], bd s (PyData.tuple [.str "0", .str "1"])]))), some (.val x)] = .ok x [some (.arg w), some (.val (.int n)), some (.val (tS s)), some (.val (.list ([.list (s.map pD), bd s (PyData.tuple [.int 1, .int 0]), bd s (PyData.tuple [.int 0, .int n]), bd s (PyData.tuple [.int 0, .int 0]), bd s (PyData.tuple [.int 0, .int 1, .int 1]), .none, .str "01"] ++ [bd s (PyData.list [.int 0, .int 1]), bd s (PyData.tuple [.int 0, .bool true]), bd s (PyData.tuple [.int (-1), .int 0]), .tuple (List.replicate 61 (pD (0, 1))), .tuple [.int 0, .int 1], bd s (PyData.tuple [.str "0", .str "1"])]))), some (.val x)] := rfl
        simp only [z1, z2, R.bind, this, vR, dC, gIsX]
        cases sOk n x <;> rfl, by rfl, by rfl⟩)
    rw [filt_all] at C
    refine if_noR (b_ok (ρ1 := [some (.arg w), some (.val (.int n)), some (.val (tS s)), some (.val (.list ([.list (s.map pD), bd s (PyData.tuple [.int 1, .int 0]), bd s (PyData.tuple [.int 0, .int n]), bd s (PyData.tuple [.int 0, .int 0]), bd s (PyData.tuple [.int 0, .int 1, .int 1]), .none, .str "01"] ++ [bd s (PyData.list [.int 0, .int 1]), bd s (PyData.tuple [.int 0, .bool true]), bd s (PyData.tuple [.int (-1), .int 0]), .tuple (List.replicate 61 (pD (0, 1))), .tuple [.int 0, .int 1], bd s (PyData.tuple [.str "0", .str "1"])]))), none]) ?_)
    have : ((([.list (s.map pD), bd s (PyData.tuple [.int 1, .int 0]), bd s (PyData.tuple [.int 0, .int n]), bd s (PyData.tuple [.int 0, .int 0]), bd s (PyData.tuple [.int 0, .int 1, .int 1]), .none, .str "01"] ++ [bd s (PyData.list [.int 0, .int 1]), bd s (PyData.tuple [.int 0, .bool true]), bd s (PyData.tuple [.int (-1), .int 0]), .tuple (List.replicate 61 (pD (0, 1))), .tuple [.int 0, .int 1], bd s (PyData.tuple [.str "0", .str "1"])]).map fun v => sOk n v).any id) = false := by
      rw [List.any_eq_false]
      intro b hb
      obtain ⟨v, hv, rfl⟩ := List.mem_map.mp hb
      rw [id, no v hv]
      decide
    refine cb_ok (lst_ok C) ?_
    simp only [gAny, gBools, asLs, asBools_map]
    rw [this]
  have e4 : (dRet (dCl fn__law_fits (dConsD (dLst (dItems (dConsD (dCl fn_is_sorter (dConsD (dVar 1) (dConsD (dVar 2) (dNil))) dNil [0, 1] []) (dConsD (dCl fn_is_sorter dNil (dConsD (dBin gMul (dTup (dConsD (dTup (dConsD (dC (.int 0)) (dConsD (dC (.int 1)) (dNil)))) (dNil))) (dC (.int 60))) (dConsD (dVar 1) (dNil))) [1, 0] []) (dConsD (dCl fn_is_sorter (dConsD (dVar 1) (dConsD (dTup (dNil)) (dNil))) dNil [0, 1] []) (dNil)))))) (dConsD (dBin gMul (dLst (dItems (dConsD (dC (.bool true)) (dNil)))) (dC (.int 3))) (dNil))) dNil [0, 1] [])) [some (.arg w), some (.val (.int n)), some (.val (tS s)), some (.val (.list ([.list (s.map pD), bd s (PyData.tuple [.int 1, .int 0]), bd s (PyData.tuple [.int 0, .int n]), bd s (PyData.tuple [.int 0, .int 0]), bd s (PyData.tuple [.int 0, .int 1, .int 1]), .none, .str "01"] ++ [bd s (PyData.list [.int 0, .int 1]), bd s (PyData.tuple [.int 0, .bool true]), bd s (PyData.tuple [.int (-1), .int 0]), .tuple (List.replicate 61 (pD (0, 1))), .tuple [.int 0, .int 1], bd s (PyData.tuple [.str "0", .str "1"])]))), none] = .ret (.bool true) [some (.arg w), some (.val (.int n)), some (.val (tS s)), some (.val (.list ([.list (s.map pD), bd s (PyData.tuple [.int 1, .int 0]), bd s (PyData.tuple [.int 0, .int n]), bd s (PyData.tuple [.int 0, .int 0]), bd s (PyData.tuple [.int 0, .int 1, .int 1]), .none, .str "01"] ++ [bd s (PyData.list [.int 0, .int 1]), bd s (PyData.tuple [.int 0, .bool true]), bd s (PyData.tuple [.int (-1), .int 0]), .tuple (List.replicate 61 (pD (0, 1))), .tuple [.int 0, .int 1], bd s (PyData.tuple [.str "0", .str "1"])]))), none] := by
    have a1 := is_sorter_v n (tS s) (by omega) (by omega)
    have t1 : sOk n (tS s) = true := by
      show (firstBad _ _ _).isNone = true
      rw [fb_s hs]
      rfl
    rw [t1] at a1
    have a2 := is_sorter_v n (.tuple (List.replicate 60 (pD (0, 1)))) (by omega) (by omega)
    have t2 : sOk n (.tuple (List.replicate 60 (pD (0, 1)))) = true := by
      show (firstBad _ _ _).isNone = true
      rw [fb_ok n (List.replicate 60 (pD (0, 1))) 0 (fun v hv => by rw [(List.mem_replicate.mp hv).2]; exact cOk_p ⟨by decide, by show 1 < n; omega⟩) (by rw [List.length_replicate]; decide)]
      rfl
    rw [t2] at a2
    have a3 := is_sorter_v n (.tuple []) (by omega) (by omega)
    have t3 : sOk n (.tuple []) = true := rfl
    rw [t3] at a3
    have a4 := fits_bools [true, true, true] (by simp)
    simp only [List.map_cons, List.map_nil] at a4
    have a5 := flat3 (.bool true)
    have b1 : dBin gMul (dTup (dConsD (dTup (dConsD (dC (.int 0)) (dConsD (dC (.int 1)) (dNil)))) (dNil))) (dC (.int 60)) [some (.arg w), some (.val (.int n)), some (.val (tS s)), some (.val (.list ([.list (s.map pD), bd s (PyData.tuple [.int 1, .int 0]), bd s (PyData.tuple [.int 0, .int n]), bd s (PyData.tuple [.int 0, .int 0]), bd s (PyData.tuple [.int 0, .int 1, .int 1]), .none, .str "01"] ++ [bd s (PyData.list [.int 0, .int 1]), bd s (PyData.tuple [.int 0, .bool true]), bd s (PyData.tuple [.int (-1), .int 0]), .tuple (List.replicate 61 (pD (0, 1))), .tuple [.int 0, .int 1], bd s (PyData.tuple [.str "0", .str "1"])]))), none] = .ok (.tuple (List.replicate 60 (pD (0, 1)))) [some (.arg w), some (.val (.int n)), some (.val (tS s)), some (.val (.list ([.list (s.map pD), bd s (PyData.tuple [.int 1, .int 0]), bd s (PyData.tuple [.int 0, .int n]), bd s (PyData.tuple [.int 0, .int 0]), bd s (PyData.tuple [.int 0, .int 1, .int 1]), .none, .str "01"] ++ [bd s (PyData.list [.int 0, .int 1]), bd s (PyData.tuple [.int 0, .bool true]), bd s (PyData.tuple [.int (-1), .int 0]), .tuple (List.replicate 61 (pD (0, 1))), .tuple [.int 0, .int 1], bd s (PyData.tuple [.str "0", .str "1"])]))), none] := by
      have c := flatD (pD (0, 1)) 60 (by decide) (by decide)
      have d : dTup (dConsD (dTup (dConsD (dC (.int 0)) (dConsD (dC (.int 1)) (dNil)))) (dNil)) [some (.arg w), some (.val (.int n)), some (.val (tS s)), some (.val (.list ([.list (s.map pD), bd s (PyData.tuple [.int 1, .int 0]), bd s (PyData.tuple [.int 0, .int n]), bd s (PyData.tuple [.int 0, .int 0]), bd s (PyData.tuple [.int 0, .int 1, .int 1]), .none, .str "01"] ++ [bd s (PyData.list [.int 0, .int 1]), bd s (PyData.tuple [.int 0, .bool true]), bd s (PyData.tuple [.int (-1), .int 0]), .tuple (List.replicate 61 (pD (0, 1))), .tuple [.int 0, .int 1], bd s (PyData.tuple [.str "0", .str "1"])]))), none] = .ok (.tuple [pD (0, 1)]) [some (.arg w), some (.val (.int n)), some (.val (tS s)), some (.val (.list ([.list (s.map pD), bd s (PyData.tuple [.int 1, .int 0]), bd s (PyData.tuple [.int 0, .int n]), bd s (PyData.tuple [.int 0, .int 0]), bd s (PyData.tuple [.int 0, .int 1, .int 1]), .none, .str "01"] ++ [bd s (PyData.list [.int 0, .int 1]), bd s (PyData.tuple [.int 0, .bool true]), bd s (PyData.tuple [.int (-1), .int 0]), .tuple (List.replicate 61 (pD (0, 1))), .tuple [.int 0, .int 1], bd s (PyData.tuple [.str "0", .str "1"])]))), none] := by
        simp [dTup, dConsD, dNil, dC, R.bind, asD, sizeLine_eq]
      exact bin_ok d rfl c
    have z1 : dVar 1 [some (.arg w), some (.val (.int n)), some (.val (tS s)), some (.val (.list ([.list (s.map pD), bd s (PyData.tuple [.int 1, .int 0]), bd s (PyData.tuple [.int 0, .int n]), bd s (PyData.tuple [.int 0, .int 0]), bd s (PyData.tuple [.int 0, .int 1, .int 1]), .none, .str "01"] ++ [bd s (PyData.list [.int 0, .int 1]), bd s (PyData.tuple [.int 0, .bool true]), bd s (PyData.tuple [.int (-1), .int 0]), .tuple (List.replicate 61 (pD (0, 1))), .tuple [.int 0, .int 1], bd s (PyData.tuple [.str "0", .str "1"])]))), none] = .ok (.int n) [some (.arg w), some (.val (.int n)), some (.val (tS s)), some (.val (.list ([.list (s.map pD), bd s (PyData.tuple [.int 1, .int 0]), bd s (PyData.tuple [.int 0, .int n]), bd s (PyData.tuple [.int 0, .int 0]), bd s (PyData.tuple [.int 0, .int 1, .int 1]), .none, .str "01"] ++ [bd s (PyData.list [.int 0, .int 1]), bd s (PyData.tuple [.int 0, .bool true]), bd s (PyData.tuple [.int (-1), .int 0]), .tuple (List.replicate 61 (pD (0, 1))), .tuple [.int 0, .int 1], bd s (PyData.tuple [.str "0", .str "1"])]))), none] := rfl
    have z2 : dVar 2 [some (.arg w), some (.val (.int n)), some (.val (tS s)), some (.val (.list ([.list (s.map pD), bd s (PyData.tuple [.int 1, .int 0]), bd s (PyData.tuple [.int 0, .int n]), bd s (PyData.tuple [.int 0, .int 0]), bd s (PyData.tuple [.int 0, .int 1, .int 1]), .none, .str "01"] ++ [bd s (PyData.list [.int 0, .int 1]), bd s (PyData.tuple [.int 0, .bool true]), bd s (PyData.tuple [.int (-1), .int 0]), .tuple (List.replicate 61 (pD (0, 1))), .tuple [.int 0, .int 1], bd s (PyData.tuple [.str "0", .str "1"])]))), none] = .ok (tS s) [some (.arg w), some (.val (.int n)), some (.val (tS s)), some (.val (.list ([.list (s.map pD), bd s (PyData.tuple [.int 1, .int 0]), bd s (PyData.tuple [.int 0, .int n]), bd s (PyData.tuple [.int 0, .int 0]), bd s (PyData.tuple [.int 0, .int 1, .int 1]), .none, .str "01"] ++ [bd s (PyData.list [.int 0, .int 1]), bd s (PyData.tuple [.int 0, .bool true]), bd s (PyData.tuple [.int (-1), .int 0]), .tuple (List.replicate 61 (pD (0, 1))), .tuple [.int 0, .int 1], bd s (PyData.tuple [.str "0", .str "1"])]))), none] := rfl
    have c1 : dCl fn_is_sorter (dConsD (dVar 1) (dConsD (dVar 2) (dNil))) dNil [0, 1] [] [some (.arg w), some (.val (.int n)), some (.val (tS s)), some (.val (.list ([.list (s.map pD), bd s (PyData.tuple [.int 1, .int 0]), bd s (PyData.tuple [.int 0, .int n]), bd s (PyData.tuple [.int 0, .int 0]), bd s (PyData.tuple [.int 0, .int 1, .int 1]), .none, .str "01"] ++ [bd s (PyData.list [.int 0, .int 1]), bd s (PyData.tuple [.int 0, .bool true]), bd s (PyData.tuple [.int (-1), .int 0]), .tuple (List.replicate 61 (pD (0, 1))), .tuple [.int 0, .int 1], bd s (PyData.tuple [.str "0", .str "1"])]))), none] = .ok (.bool true) [some (.arg w), some (.val (.int n)), some (.val (tS s)), some (.val (.list ([.list (s.map pD), bd s (PyData.tuple [.int 1, .int 0]), bd s (PyData.tuple [.int 0, .int n]), bd s (PyData.tuple [.int 0, .int 0]), bd s (PyData.tuple [.int 0, .int 1, .int 1]), .none, .str "01"] ++ [bd s (PyData.list [.int 0, .int 1]), bd s (PyData.tuple [.int 0, .bool true]), bd s (PyData.tuple [.int (-1), .int 0]), .tuple (List.replicate 61 (pD (0, 1))), .tuple [.int 0, .int 1], bd s (PyData.tuple [.str "0", .str "1"])]))), none] := by
      rw [dcl2 cl_is_sorter]
      simp only [z1, z2, R.bind, a1, vR]
    have c2 : dCl fn_is_sorter dNil (dConsD (dBin gMul (dTup (dConsD (dTup (dConsD (dC (.int 0)) (dConsD (dC (.int 1)) (dNil)))) (dNil))) (dC (.int 60))) (dConsD (dVar 1) (dNil))) [1, 0] [] [some (.arg w), some (.val (.int n)), some (.val (tS s)), some (.val (.list ([.list (s.map pD), bd s (PyData.tuple [.int 1, .int 0]), bd s (PyData.tuple [.int 0, .int n]), bd s (PyData.tuple [.int 0, .int 0]), bd s (PyData.tuple [.int 0, .int 1, .int 1]), .none, .str "01"] ++ [bd s (PyData.list [.int 0, .int 1]), bd s (PyData.tuple [.int 0, .bool true]), bd s (PyData.tuple [.int (-1), .int 0]), .tuple (List.replicate 61 (pD (0, 1))), .tuple [.int 0, .int 1], bd s (PyData.tuple [.str "0", .str "1"])]))), none] = .ok (.bool true) [some (.arg w), some (.val (.int n)), some (.val (tS s)), some (.val (.list ([.list (s.map pD), bd s (PyData.tuple [.int 1, .int 0]), bd s (PyData.tuple [.int 0, .int n]), bd s (PyData.tuple [.int 0, .int 0]), bd s (PyData.tuple [.int 0, .int 1, .int 1]), .none, .str "01"] ++ [bd s (PyData.list [.int 0, .int 1]), bd s (PyData.tuple [.int 0, .bool true]), bd s (PyData.tuple [.int (-1), .int 0]), .tuple (List.replicate 61 (pD (0, 1))), .tuple [.int 0, .int 1], bd s (PyData.tuple [.str "0", .str "1"])]))), none] := by
      rw [dcl2k10 cl_is_sorter]
      simp only [b1, z1, R.bind, a2, vR]
    have b2 : dTup dNil [some (.arg w), some (.val (.int n)), some (.val (tS s)), some (.val (.list ([.list (s.map pD), bd s (PyData.tuple [.int 1, .int 0]), bd s (PyData.tuple [.int 0, .int n]), bd s (PyData.tuple [.int 0, .int 0]), bd s (PyData.tuple [.int 0, .int 1, .int 1]), .none, .str "01"] ++ [bd s (PyData.list [.int 0, .int 1]), bd s (PyData.tuple [.int 0, .bool true]), bd s (PyData.tuple [.int (-1), .int 0]), .tuple (List.replicate 61 (pD (0, 1))), .tuple [.int 0, .int 1], bd s (PyData.tuple [.str "0", .str "1"])]))), none] = .ok (.tuple []) [some (.arg w), some (.val (.int n)), some (.val (tS s)), some (.val (.list ([.list (s.map pD), bd s (PyData.tuple [.int 1, .int 0]), bd s (PyData.tuple [.int 0, .int n]), bd s (PyData.tuple [.int 0, .int 0]), bd s (PyData.tuple [.int 0, .int 1, .int 1]), .none, .str "01"] ++ [bd s (PyData.list [.int 0, .int 1]), bd s (PyData.tuple [.int 0, .bool true]), bd s (PyData.tuple [.int (-1), .int 0]), .tuple (List.replicate 61 (pD (0, 1))), .tuple [.int 0, .int 1], bd s (PyData.tuple [.str "0", .str "1"])]))), none] := by simp [dTup, dNil, R.bind, asD]
    have c3 : dCl fn_is_sorter (dConsD (dVar 1) (dConsD (dTup (dNil)) (dNil))) dNil [0, 1] [] [some (.arg w), some (.val (.int n)), some (.val (tS s)), some (.val (.list ([.list (s.map pD), bd s (PyData.tuple [.int 1, .int 0]), bd s (PyData.tuple [.int 0, .int n]), bd s (PyData.tuple [.int 0, .int 0]), bd s (PyData.tuple [.int 0, .int 1, .int 1]), .none, .str "01"] ++ [bd s (PyData.list [.int 0, .int 1]), bd s (PyData.tuple [.int 0, .bool true]), bd s (PyData.tuple [.int (-1), .int 0]), .tuple (List.replicate 61 (pD (0, 1))), .tuple [.int 0, .int 1], bd s (PyData.tuple [.str "0", .str "1"])]))), none] = .ok (.bool true) [some (.arg w), some (.val (.int n)), some (.val (tS s)), some (.val (.list ([.list (s.map pD), bd s (PyData.tuple [.int 1, .int 0]), bd s (PyData.tuple [.int 0, .int n]), bd s (PyData.tuple [.int 0, .int 0]), bd s (PyData.tuple [.int 0, .int 1, .int 1]), .none, .str "01"] ++ [bd s (PyData.list [.int 0, .int 1]), bd s (PyData.tuple [.int 0, .bool true]), bd s (PyData.tuple [.int (-1), .int 0]), .tuple (List.replicate 61 (pD (0, 1))), .tuple [.int 0, .int 1], bd s (PyData.tuple [.str "0", .str "1"])]))), none] := by
      rw [dcl2 cl_is_sorter]
      simp only [z1, b2, R.bind, a3, vR]
    have c4 : dBin gMul (dLst (dItems (dConsD (dC (.bool true)) (dNil)))) (dC (.int 3)) [some (.arg w), some (.val (.int n)), some (.val (tS s)), some (.val (.list ([.list (s.map pD), bd s (PyData.tuple [.int 1, .int 0]), bd s (PyData.tuple [.int 0, .int n]), bd s (PyData.tuple [.int 0, .int 0]), bd s (PyData.tuple [.int 0, .int 1, .int 1]), .none, .str "01"] ++ [bd s (PyData.list [.int 0, .int 1]), bd s (PyData.tuple [.int 0, .bool true]), bd s (PyData.tuple [.int (-1), .int 0]), .tuple (List.replicate 61 (pD (0, 1))), .tuple [.int 0, .int 1], bd s (PyData.tuple [.str "0", .str "1"])]))), none] = .ok (.list [.bool true, .bool true, .bool true]) [some (.arg w), some (.val (.int n)), some (.val (tS s)), some (.val (.list ([.list (s.map pD), bd s (PyData.tuple [.int 1, .int 0]), bd s (PyData.tuple [.int 0, .int n]), bd s (PyData.tuple [.int 0, .int 0]), bd s (PyData.tuple [.int 0, .int 1, .int 1]), .none, .str "01"] ++ [bd s (PyData.list [.int 0, .int 1]), bd s (PyData.tuple [.int 0, .bool true]), bd s (PyData.tuple [.int (-1), .int 0]), .tuple (List.replicate 61 (pD (0, 1))), .tuple [.int 0, .int 1], bd s (PyData.tuple [.str "0", .str "1"])]))), none] := by
      have d : dLst (dItems (dConsD (dC (.bool true)) (dNil))) [some (.arg w), some (.val (.int n)), some (.val (tS s)), some (.val (.list ([.list (s.map pD), bd s (PyData.tuple [.int 1, .int 0]), bd s (PyData.tuple [.int 0, .int n]), bd s (PyData.tuple [.int 0, .int 0]), bd s (PyData.tuple [.int 0, .int 1, .int 1]), .none, .str "01"] ++ [bd s (PyData.list [.int 0, .int 1]), bd s (PyData.tuple [.int 0, .bool true]), bd s (PyData.tuple [.int (-1), .int 0]), .tuple (List.replicate 61 (pD (0, 1))), .tuple [.int 0, .int 1], bd s (PyData.tuple [.str "0", .str "1"])]))), none] = .ok (.list [.bool true]) [some (.arg w), some (.val (.int n)), some (.val (tS s)), some (.val (.list ([.list (s.map pD), bd s (PyData.tuple [.int 1, .int 0]), bd s (PyData.tuple [.int 0, .int n]), bd s (PyData.tuple [.int 0, .int 0]), bd s (PyData.tuple [.int 0, .int 1, .int 1]), .none, .str "01"] ++ [bd s (PyData.list [.int 0, .int 1]), bd s (PyData.tuple [.int 0, .bool true]), bd s (PyData.tuple [.int (-1), .int 0]), .tuple (List.replicate 61 (pD (0, 1))), .tuple [.int 0, .int 1], bd s (PyData.tuple [.str "0", .str "1"])]))), none] := by simp [dLst, dItems, dConsD, dNil, dC, R.bind, asD, sizeLine_eq]
      unfold dBin
      simp only [d, R.bind, dC, a5]
    unfold dRet
    rw [dcl2 cl_fits]
    rw [show dLst (dItems (dConsD (dCl fn_is_sorter (dConsD (dVar 1) (dConsD (dVar 2) (dNil))) dNil [0, 1] []) (dConsD (dCl fn_is_sorter dNil (dConsD (dBin gMul (dTup (dConsD (dTup (dConsD (dC (.int 0)) (dConsD (dC (.int 1)) (dNil)))) (dNil))) (dC (.int 60))) (dConsD (dVar 1) (dNil))) [1, 0] []) (dConsD (dCl fn_is_sorter (dConsD (dVar 1) (dConsD (dTup (dNil)) (dNil))) dNil [0, 1] []) (dNil))))) [some (.arg w), some (.val (.int n)), some (.val (tS s)), some (.val (.list ([.list (s.map pD), bd s (PyData.tuple [.int 1, .int 0]), bd s (PyData.tuple [.int 0, .int n]), bd s (PyData.tuple [.int 0, .int 0]), bd s (PyData.tuple [.int 0, .int 1, .int 1]), .none, .str "01"] ++ [bd s (PyData.list [.int 0, .int 1]), bd s (PyData.tuple [.int 0, .bool true]), bd s (PyData.tuple [.int (-1), .int 0]), .tuple (List.replicate 61 (pD (0, 1))), .tuple [.int 0, .int 1], bd s (PyData.tuple [.str "0", .str "1"])]))), none] = .ok (.list [.bool true, .bool true, .bool true]) [some (.arg w), some (.val (.int n)), some (.val (tS s)), some (.val (.list ([.list (s.map pD), bd s (PyData.tuple [.int 1, .int 0]), bd s (PyData.tuple [.int 0, .int n]), bd s (PyData.tuple [.int 0, .int 0]), bd s (PyData.tuple [.int 0, .int 1, .int 1]), .none, .str "01"] ++ [bd s (PyData.list [.int 0, .int 1]), bd s (PyData.tuple [.int 0, .bool true]), bd s (PyData.tuple [.int (-1), .int 0]), .tuple (List.replicate 61 (pD (0, 1))), .tuple [.int 0, .int 1], bd s (PyData.tuple [.str "0", .str "1"])]))), none] from by
      exact lst_ok (items_ok (cons_ok c1 (cons_ok c2 (cons_ok c3 rfl))) rfl (by simp))]
    simp only [R.bind, c4, a4, vR, R.then]
  have tot : g__law_values_right [some (.arg w), some (.val (.int n)), some (.val (tS s)), none, none] = .ret (.bool true) [some (.arg w), some (.val (.int n)), some (.val (tS s)), some (.val (.list ([.list (s.map pD), bd s (PyData.tuple [.int 1, .int 0]), bd s (PyData.tuple [.int 0, .int n]), bd s (PyData.tuple [.int 0, .int 0]), bd s (PyData.tuple [.int 0, .int 1, .int 1]), .none, .str "01"] ++ [bd s (PyData.list [.int 0, .int 1]), bd s (PyData.tuple [.int 0, .bool true]), bd s (PyData.tuple [.int (-1), .int 0]), .tuple (List.replicate 61 (pD (0, 1))), .tuple [.int 0, .int 1], bd s (PyData.tuple [.str "0", .str "1"])]))), none] := by
    unfold g__law_values_right
    rw [seq_nx e1, seq_nx e2, seq_nx e3, e4]
  exact (apW_def _ _).trans ((congrArg (rW w) tot).trans rfl)
end T51

namespace T51
open L2 L2.G PySem PySem.Spec PyProof.Rows
theorem int_at (l : List Int) {k : Nat} (h : k < l.length) : gIx (.val (.list (l.map .int))) (.val (.int (k : Nat))) = some (.int (gt l k)) := by
  have := at_row l h
  simp only [gIx, asSeq]
  exact this
theorem wl_loop (a0 a1 a2 : Option Sl) : ∀ (L : List Int) (sp : Int) (o : Option D), ∃ sp' o', loop (tgN 4) (dAsg 3 (dBin gMod (dCb gInt (dConsD (dBin gAdd (dBin gAdd (dBin gMul (dVar 3) (dC (.int 40692))) (dBin gMod (dCb gInt (dConsD (dVar 4) (dNil))) (dC (.int 1000000009)))) (dC (.int 5))) (dNil))) (dC (.int 2147483399)))) [] (L.map .int) [a0, a1, a2, some (.val (.int sp)), oV o] = .nx [a0, a1, a2, some (.val (.int sp')), oV o']
  | [], sp, o => ⟨sp, o, loop_nil⟩
  | x :: L, sp, o => by
    obtain ⟨sp', o', ih⟩ := wl_loop a0 a1 a2 L (((sp * 40692 + x.fmod 1000000009) + 5).fmod 2147483399) (some (.int x))
    refine ⟨sp', o', ?_⟩
    have hb : tgN 4 (.int x) [a0, a1, a2, some (.val (.int sp)), oV o] = .ok () [a0, a1, a2, some (.val (.int sp)), some (.val (.int x))] := by
      cases o <;> rfl
    rw [List.map_cons, loop_cons hb]
    have hm : mulOk sp 40692 = true := by
      unfold mulOk
      rw [small_ok (i := 40692) (by decide) (by decide), Bool.true_or, Bool.or_true]
    have z3 : dVar 3 [a0, a1, a2, some (.val (.int sp)), some (.val (.int x))] = .ok (.int sp) [a0, a1, a2, some (.val (.int sp)), some (.val (.int x))] := rfl
    have z4 : dVar 4 [a0, a1, a2, some (.val (.int sp)), some (.val (.int x))] = .ok (.int x) [a0, a1, a2, some (.val (.int sp)), some (.val (.int x))] := rfl
    have b1 : dBin gMul (dVar 3) (dC (.int 40692)) [a0, a1, a2, some (.val (.int sp)), some (.val (.int x))] = .ok (.int (sp * 40692)) [a0, a1, a2, some (.val (.int sp)), some (.val (.int x))] := bin_ok z3 rfl (by simp only [gMul, hm, if_true])
    have b2 : dBin gMod (dCb gInt (dConsD (dVar 4) (dNil))) (dC (.int 1000000009)) [a0, a1, a2, some (.val (.int sp)), some (.val (.int x))] = .ok (.int (x.fmod 1000000009)) [a0, a1, a2, some (.val (.int sp)), some (.val (.int x))] := bin_ok (cb_ok z4 rfl) rfl rfl
    have b3 : dBin gMod (dCb gInt (dConsD (dBin gAdd (dBin gAdd (dBin gMul (dVar 3) (dC (.int 40692))) (dBin gMod (dCb gInt (dConsD (dVar 4) (dNil))) (dC (.int 1000000009)))) (dC (.int 5))) (dNil))) (dC (.int 2147483399)) [a0, a1, a2, some (.val (.int sp)), some (.val (.int x))] = .ok (.int (((sp * 40692 + x.fmod 1000000009) + 5).fmod 2147483399)) [a0, a1, a2, some (.val (.int sp)), some (.val (.int x))] :=
      bin_ok (cb_ok (bin_ok (bin_ok b1 b2 rfl) rfl rfl) rfl) rfl rfl
    rw [asg_nx b3 rfl rfl]
    exact ih
theorem dig_num (k : Nat) (h : k < 10 ^ 57) : Dig (Str.ofString (toString ((k : Nat) : Int))) := by
  have e : (Str.ofString (toString ((k : Nat) : Int))).cps.toList = TL.numL k := TL.tl_num k
  refine ⟨?_, ?_⟩
  · rw [e]; exact TL.numL_digits k
  · rw [len_l, e]
    have := TL.numL_len (k := 57) (by decide) h
    omega
theorem wheel_v (ks : List Int) (hk : ks.length ≤ 63) (side : Nat) (hs : side < 2) : ∃ w, fn__law_wheel [.scr ks, .val (.int side)] = .ok (.k w) [.scr ks, .val (.int side)] ∧ VW w := by
  have e0 : dCb gList (dCons (oS 0) (dNil)) [some (.scr ks), some (.val (.int side)), none, none, none] = .ok (ks.map .int) [some (.scr ks), some (.val (.int side)), none, none, none] := rfl
  have e1 : dBin gAdd (dLst (dCb gList (dCons (oS 0) (dNil)))) (dLst (dItems (dConsD (dC (.int 0)) (dConsD (dC (.int 0)) (dNil))))) [some (.scr ks), some (.val (.int side)), none, none, none] = .ok (.list ((ks ++ [0, 0]).map .int)) [some (.scr ks), some (.val (.int side)), none, none, none] :=
    bin_ok (lst_ok e0) (lst_ok (items_ok (cons_ok rfl (cons_ok rfl rfl)) rfl (by simp))) (by rw [addL _ _ (by simp; omega), List.map_append]; rfl)
  have hl : side < (ks ++ [0, 0]).length := by rw [List.length_append]; simp; omega
  generalize ho : gt (ks ++ [0, 0]) side = own at *
  have e2 : dAsg 2 (dBin gIx (dBin gAdd (dLst (dCb gList (dCons (oS 0) (dNil)))) (dLst (dItems (dConsD (dC (.int 0)) (dConsD (dC (.int 0)) (dNil)))))) (dVar 1)) [some (.scr ks), some (.val (.int side)), none, none, none] = .nx [some (.scr ks), some (.val (.int side)), some (.val (.int own)), none, none] := by
    have := int_at (ks ++ [0, 0]) hl
    rw [ho] at this
    exact asg_nx (bin_ok e1 rfl this) rfl rfl
  have hm : mulOk 701 (side : Int) = true := by
    unfold mulOk
    rw [small_ok (i := 701) (by decide) (by decide), Bool.true_or]
  have e3 : dAsg 3 (dBin gAdd (dC (.int 50021)) (dBin gMul (dC (.int 701)) (dVar 1))) [some (.scr ks), some (.val (.int side)), some (.val (.int own)), none, none] = .nx [some (.scr ks), some (.val (.int side)), some (.val (.int own)), some (.val (.int (50021 + 701 * side))), none] :=
    asg_nx (bin_ok rfl (bin_ok (z := .int (701 * side)) rfl rfl (by simp only [gMul, hm, if_true])) rfl) rfl rfl
  have e4 : dIt (dBin gAdd (dLst (dItems (dConsD (dVar 2) (dNil)))) (dSl (oVal (dLst (dCb gList (dCons (oS 0) (dNil))))) dNone (dSome (dC (.int 9))))) [some (.scr ks), some (.val (.int side)), some (.val (.int own)), some (.val (.int (50021 + 701 * side))), none] = .ok ((own :: ks.take 9).map .int) [some (.scr ks), some (.val (.int side)), some (.val (.int own)), some (.val (.int (50021 + 701 * side))), none] := by
    have c : G.cutD (ks.map .int) none (some 9) = (ks.map .int).take 9 := cut_to _ 9
    have q : dSl (oVal (dLst (dCb gList (dCons (oS 0) (dNil))))) dNone (dSome (dC (.int 9))) [some (.scr ks), some (.val (.int side)), some (.val (.int own)), some (.val (.int (50021 + 701 * side))), none] = .ok (.list ((ks.map .int).take 9)) [some (.scr ks), some (.val (.int side)), some (.val (.int own)), some (.val (.int (50021 + 701 * side))), none] := by
      show R.ok (PyData.list (G.cutD (ks.map .int) none (some 9))) _ = _
      rw [c]
    have q2 : dBin gAdd (dLst (dItems (dConsD (dVar 2) (dNil)))) (dSl (oVal (dLst (dCb gList (dCons (oS 0) (dNil))))) dNone (dSome (dC (.int 9)))) [some (.scr ks), some (.val (.int side)), some (.val (.int own)), some (.val (.int (50021 + 701 * side))), none] = .ok (.list ((own :: ks.take 9).map .int)) [some (.scr ks), some (.val (.int side)), some (.val (.int own)), some (.val (.int (50021 + 701 * side))), none] :=
      bin_ok (lst_ok (items_ok (cons_ok rfl rfl) rfl (by simp))) q (by rw [addL _ _ (by simp; omega), List.map_cons, List.map_take]; rfl)
    unfold dIt
    rw [q2]
  obtain ⟨sp, o, L⟩ := wl_loop (some (.scr ks)) (some (.val (.int side))) (some (.val (.int own))) (own :: ks.take 9) (50021 + 701 * side) none
  have e5 := (for_ok e4).trans L
  have pw : ∀ ρ : En, dBin gPow (dC (.int 10)) (dC (.int 15)) ρ = .ok (.int 1000000000000000) ρ := fun ρ => bin_ok rfl rfl (by simp [gPow, gI])
  have pw2 : ∀ ρ : En, dBin gPow (dC (.int 10)) (dC (.int 57)) ρ = .ok (.int (10 ^ 57)) ρ := fun ρ => bin_ok rfl rfl (by simp [gPow, gI])
  have e6 : ∃ z, Dig z ∧ dIf (dOr (dB (dBin gLt (dVar 2) (dC (.int 0)))) (dB (dBin gGt (dVar 2) (dBin gPow (dC (.int 10)) (dC (.int 15)))))) (dCb gStr (dConsD (dBin gMod (dCb gInt (dConsD (dCb gAbs (dConsD (dVar 2) (dNil))) (dNil))) (dBin gPow (dC (.int 10)) (dC (.int 57)))) (dNil))) (dC (.str "")) [some (.scr ks), some (.val (.int side)), some (.val (.int own)), some (.val (.int sp)), oV o] = .ok (.str z) [some (.scr ks), some (.val (.int side)), some (.val (.int own)), some (.val (.int sp)), oV o] := by
    have t : ∃ z, Dig z ∧ (dCb gStr (dConsD (dBin gMod (dCb gInt (dConsD (dCb gAbs (dConsD (dVar 2) (dNil))) (dNil))) (dBin gPow (dC (.int 10)) (dC (.int 57)))) (dNil))) [some (.scr ks), some (.val (.int side)), some (.val (.int own)), some (.val (.int sp)), oV o] = .ok (.str z) [some (.scr ks), some (.val (.int side)), some (.val (.int own)), some (.val (.int sp)), oV o] := by
      have hp : (0 : Int) < 10 ^ 57 := by decide
      obtain ⟨q1, q2⟩ := fmod_in (if own < 0 then -own else own) (10 ^ 57) hp
      generalize hv : (if own < 0 then -own else own).fmod (10 ^ 57) = v at *
      obtain ⟨k, rfl⟩ := Int.eq_ofNat_of_zero_le q1
      have hk' : k < 10 ^ 57 := by
        have : ((10 ^ 57 : Nat) : Int) = 10 ^ 57 := by decide
        omega
      refine ⟨_, dig_num k hk', cb_ok (bin_ok (z := .int ((k : Nat) : Int)) (cb_ok (cb_ok (d := .int own) rfl rfl) rfl) (pw2 _) (by rw [← hv]; simp [gMod, gI])) ?_⟩
      have hlg : ((k : Nat) : Int).natAbs.log2 < 1920 := by
        rw [Int.natAbs_natCast]
        have : k.log2 < 200 := PySem.Flt.log2_lt_of (by decide) (Nat.lt_of_lt_of_le hk' (by decide))
        omega
      simp only [gStr, hlg, if_true]
    obtain ⟨z, hz, t⟩ := t
    have c1 : dB (dBin gLt (dVar 2) (dC (.int 0))) [some (.scr ks), some (.val (.int side)), some (.val (.int own)), some (.val (.int sp)), oV o] = .ok (decide (own < 0)) [some (.scr ks), some (.val (.int side)), some (.val (.int own)), some (.val (.int sp)), oV o] := b_ok (bin_ok rfl rfl rfl)
    have c2 : dB (dBin gGt (dVar 2) (dBin gPow (dC (.int 10)) (dC (.int 15)))) [some (.scr ks), some (.val (.int side)), some (.val (.int own)), some (.val (.int sp)), oV o] = .ok (decide (1000000000000000 < own)) [some (.scr ks), some (.val (.int side)), some (.val (.int own)), some (.val (.int sp)), oV o] := b_ok (bin_ok rfl (pw _) rfl)
    by_cases g1 : own < 0
    · rw [decide_eq_true g1] at c1
      refine ⟨z, hz, ?_⟩
      unfold dIf dOr
      simp only [c1, R.bind, t]
    · rw [decide_eq_false g1] at c1
      by_cases g2 : 1000000000000000 < own
      · rw [decide_eq_true g2] at c2
        refine ⟨z, hz, ?_⟩
        unfold dIf dOr
        simp only [c1, R.bind, c2, t]
      · rw [decide_eq_false g2] at c2
        refine ⟨"", dig0, ?_⟩
        unfold dIf dOr
        simp only [c1, R.bind, c2]
        rfl
  obtain ⟨z, hz, e6⟩ := e6
  refine ⟨wh z (sp + 7), ?_, z, _, rfl, hz⟩
  have e7 : dBin gAdd (dVar 3) (dC (.int 7)) [some (.scr ks), some (.val (.int side)), some (.val (.int own)), some (.val (.int sp)), oV o] = .ok (.int (sp + 7)) [some (.scr ks), some (.val (.int side)), some (.val (.int own)), some (.val (.int sp)), oV o] := bin_ok rfl rfl rfl
  have tot : g__law_wheel [some (.scr ks), some (.val (.int side)), none, none, none] = .retK (wh z (sp + 7)) [some (.scr ks), some (.val (.int side)), some (.val (.int own)), some (.val (.int sp)), oV o] := by
    unfold g__law_wheel
    rw [seq_nx e2, seq_nx e3, seq_nx e5]
    unfold rK dDict pCons pNil
    simp only [e6, R.bind, e7, R.then]
    rfl
  show fnOf 3 g__law_wheel _ = _
  unfold fnOf
  rw [show env0 3 [Sl.scr ks, .val (.int side)] = [some (.scr ks), some (.val (.int side)), none, none, none] from rfl, tot]
  rfl
end T51

namespace T51
open L2 L2.G PySem PySem.Spec PyProof.Rows
/-- the five rows: the answers are True, the wheel stays a wheel -/
theorem rr_lcl (S V : Option Sl) {n : Nat} (h1 : 2 ≤ n) (h8 : n ≤ 8) {s : List (Nat × Nat)} (hs : okS n s) : ∀ (L : List D) (w : List (Key × D)), VW w → ∃ w', VW w' ∧
    lcl (tgN 5) dYes (dCl fn__law_row_right (dCons (oS 2) (dConsD (dVar 3) (dConsD (dVar 4) (dNil)))) dNil [0, 1, 2] []) [5] L [S, V, some (.dct w), some (.val (.int n)), some (.val (tS s)), none] = .ok (L.map fun _ => .bool true) [S, V, some (.dct w'), some (.val (.int n)), some (.val (tS s)), none]
  | [], w, hw => ⟨w, hw, by unfold lcl; rfl⟩
  | d :: L, w, hw => by
    obtain ⟨w1, e, hw1⟩ := row_right_v hw h1 h8 hs
    obtain ⟨w', hw', ih⟩ := rr_lcl S V h1 h8 hs L w1 hw1
    refine ⟨w', hw', ?_⟩
    have a1 : tgN 5 d [S, V, some (.dct w), some (.val (.int n)), some (.val (tS s)), none] = .ok () [S, V, some (.dct w), some (.val (.int n)), some (.val (tS s)), some (.val d)] := rfl
    have a2 : dCl fn__law_row_right (dCons (oS 2) (dConsD (dVar 3) (dConsD (dVar 4) (dNil)))) dNil [0, 1, 2] [] [S, V, some (.dct w), some (.val (.int n)), some (.val (tS s)), some (.val d)] = .ok (.bool true) [S, V, some (.dct w1), some (.val (.int n)), some (.val (tS s)), some (.val d)] :=
      (call_w2 (f1 := dVar 3) (f2 := dVar 4) (i := 2) (ρ := [S, V, some (.dct w), some (.val (.int n)), some (.val (tS s)), some (.val d)]) cl_rr (s := .dct w) rfl rfl rfl rfl e).trans rfl
    unfold lcl
    rw [a1]
    simp only [R.bind, dYes]
    rw [a2]
    simp only []
    rw [if_pos (show okV [S, V, some (.dct w1), some (.val (.int n)), some (.val (tS s)), some (.val d)] [5] = true from rfl)]
    rw [show wipeD [S, V, some (.dct w1), some (.val (.int n)), some (.val (tS s)), some (.val d)] [5] = [S, V, some (.dct w1), some (.val (.int n)), some (.val (tS s)), none] from rfl, ih]
    rfl
theorem loop_stepF {ft : D → En → R Unit} {fb : En → RS} {fg : List Nat} {d : D} {ds : List D} {ρ ρ1 ρ2 : En} (h : ft d ρ = .ok () ρ1) (h2 : fb ρ1 = .nx ρ2) : loop ft fb fg (d :: ds) ρ = loop ft fb fg ds (forget ρ2 fg) := by
  rw [loop, h]
  show (match fb ρ1 with
      | .nx ρ2 => loop ft fb fg ds (forget ρ2 fg)
      | .ct ρ2 => loop ft fb fg ds (forget ρ2 fg)
      | .bk ρ2 => .nx (forget ρ2 fg)
      | .ret d ρ2 => .ret d ρ2
      | .retK d ρ2 => .retK d ρ2
      | .no => .no) = _
  rw [h2]
theorem loop_nilF {ft : D → En → R Unit} {fb : En → RS} {fg : List Nat} {ρ : En} : loop ft fb fg [] ρ = .nx ρ := by unfold loop; rfl
theorem tup_it {f : En → R (List AV)} {ρ ρ1 : En} {ds : List D} (h : dItems f ρ = .ok ds ρ1) : dIt (dTup f) ρ = .ok ds ρ1 := by
  unfold dItems at h
  unfold dIt dTup
  cases q : f ρ with
  | ok as ρ' =>
    rw [q] at h
    simp only [R.bind] at h ⊢
    cases z : asD as with
    | none => rw [z] at h; cases h
    | some es =>
      rw [z] at h
      simp only [] at h ⊢
      split at h
      · rename_i hl
        cases h
        rw [if_pos hl]
      · cases h
  | err a b => rw [q] at h; cases h
  | no => rw [q] at h; cases h
theorem choice_m {w : List (Key × D)} (hw : VW w) : ∃ (m : Nat) (w' : List (Key × D)), apW fn__law_choice w [.tuple [.int 0, .int 1, .int 3, .int 7, .int 20, .int 60]] = some (.int m, w') ∧ m ≤ 60 ∧ VW w' := by
  obtain ⟨d, w', e, hd, h⟩ := choice_v hw [.int 0, .int 1, .int 3, .int 7, .int 20, .int 60] (by simp) (by simp)
  simp only [List.mem_cons, List.not_mem_nil, or_false] at hd
  rcases hd with rfl | rfl | rfl | rfl | rfl | rfl
  · exact ⟨0, w', e, by decide, h⟩
  · exact ⟨1, w', e, by decide, h⟩
  · exact ⟨3, w', e, by decide, h⟩
  · exact ⟨7, w', e, by decide, h⟩
  · exact ⟨20, w', e, by decide, h⟩
  · exact ⟨60, w', e, by decide, h⟩
theorem body_v (S V : Option Sl) {n : Nat} (h1 : 2 ≤ n) (h8 : n ≤ 8) {w : List (Key × D)} (hw : VW w) (o : Option D) : ∃ w' o', VW w' ∧ (dSeq (dAsg 4 (dCl fn__law_sorter (dCons (oS 2) (dConsD (dVar 3) (dConsD (dCl fn__law_choice (dCons (oS 2) (dConsD (dTup (dConsD (dC (.int 0)) (dConsD (dC (.int 1)) (dConsD (dC (.int 3)) (dConsD (dC (.int 7)) (dConsD (dC (.int 20)) (dConsD (dC (.int 60)) (dNil)))))))) (dNil))) dNil [0, 1] []) (dNil)))) dNil [0, 1, 2] []))
      (dIfS (dOr (dNot (dB (dCb gAll (dConsD (dLst (dLc (dIt1 (dC (.int 5))) (tgN 5) (dYes) (dCl fn__law_row_right (dCons (oS 2) (dConsD (dVar 3) (dConsD (dVar 4) (dNil)))) dNil [0, 1, 2] []) [5])) (dNil))))) (dNot (dB (dCl fn__law_values_right (dCons (oS 2) (dConsD (dVar 3) (dConsD (dVar 4) (dNil)))) dNil [0, 1, 2] [])))) (dRet (dC (.bool false))) (dSkip))) [S, V, some (.dct w), some (.val (.int n)), oV o, none] = .nx [S, V, some (.dct w'), some (.val (.int n)), oV o', none] := by
  obtain ⟨m, w1, ec, hm, hw1⟩ := choice_m hw
  obtain ⟨s, w2, es, hs, hw2⟩ := lsorter_v hw1 h1 hm
  have c1 : dCl fn__law_choice (dCons (oS 2) (dConsD (dTup (dConsD (dC (.int 0)) (dConsD (dC (.int 1)) (dConsD (dC (.int 3)) (dConsD (dC (.int 7)) (dConsD (dC (.int 20)) (dConsD (dC (.int 60)) (dNil)))))))) (dNil))) dNil [0, 1] [] [S, V, some (.dct w), some (.val (.int n)), oV o, none] = .ok (.int m) [S, V, some (.dct w1), some (.val (.int n)), oV o, none] :=
    (call_w1 cl_choice (s := .dct w) rfl rfl (by simp [dTup, dConsD, dNil, dC, R.bind, asD, sizeLine_eq]) ec).trans rfl
  have c2 : (dAsg 4 (dCl fn__law_sorter (dCons (oS 2) (dConsD (dVar 3) (dConsD (dCl fn__law_choice (dCons (oS 2) (dConsD (dTup (dConsD (dC (.int 0)) (dConsD (dC (.int 1)) (dConsD (dC (.int 3)) (dConsD (dC (.int 7)) (dConsD (dC (.int 20)) (dConsD (dC (.int 60)) (dNil)))))))) (dNil))) dNil [0, 1] []) (dNil)))) dNil [0, 1, 2] [])) [S, V, some (.dct w), some (.val (.int n)), oV o, none] = .nx [S, V, some (.dct w2), some (.val (.int n)), some (.val (tS s)), none] := by
    refine asg_nx (call_w2 cl_lsorter (s := .dct w) rfl rfl c1 rfl es) ?_ rfl
    cases o <;> rfl
  obtain ⟨w3, hw3, L⟩ := rr_lcl S V h1 h8 hs (rgD 0 ((5 : Nat) : Int)) w2 hw2
  have hl : (rgD 0 ((5 : Nat) : Int)).length = 5 := by rw [rgD_nat, List.length_map, List.length_range]
  have c3 : dLc (dIt1 (dC (.int 5))) (tgN 5) (dYes) (dCl fn__law_row_right (dCons (oS 2) (dConsD (dVar 3) (dConsD (dVar 4) (dNil)))) dNil [0, 1, 2] []) [5] [S, V, some (.dct w2), some (.val (.int n)), some (.val (tS s)), none] = .ok ((rgD 0 ((5 : Nat) : Int)).map fun _ => PyData.bool true) [S, V, some (.dct w3), some (.val (.int n)), some (.val (tS s)), none] := by
    unfold dLc
    rw [it1_ok (f := dC (.int 5)) (n := ((5 : Nat) : Int)) (ρ' := [S, V, some (.dct w2), some (.val (.int n)), some (.val (tS s)), none]) rfl (rg_ok 5 (by decide))]
    simp only [R.bind]
    rw [if_pos ⟨rfl, len_S _ (by rw [hl]; decide)⟩]
    rw [show wipeD [S, V, some (.dct w2), some (.val (.int n)), some (.val (tS s)), none] [5] = [S, V, some (.dct w2), some (.val (.int n)), some (.val (tS s)), none] from rfl, L]
    rfl
  have c4 : (dCb gAll (dConsD (dLst (dLc (dIt1 (dC (.int 5))) (tgN 5) (dYes) (dCl fn__law_row_right (dCons (oS 2) (dConsD (dVar 3) (dConsD (dVar 4) (dNil)))) dNil [0, 1, 2] []) [5])) (dNil))) [S, V, some (.dct w2), some (.val (.int n)), some (.val (tS s)), none] = .ok (.bool true) [S, V, some (.dct w3), some (.val (.int n)), some (.val (tS s)), none] := by
    refine cb_ok (lst_ok c3) ?_
    simp only [gAll, gBools, asLs, asBools_map]
    have : ((rgD 0 ((5 : Nat) : Int)).map fun _ => true).all id = true := by
      rw [List.all_eq_true]
      intro b hb
      obtain ⟨_, _, rfl⟩ := List.mem_map.mp hb
      rfl
    rw [this]
  have c5 : dCl fn__law_values_right (dCons (oS 2) (dConsD (dVar 3) (dConsD (dVar 4) (dNil)))) dNil [0, 1, 2] [] [S, V, some (.dct w3), some (.val (.int n)), some (.val (tS s)), none] = .ok (.bool true) [S, V, some (.dct w3), some (.val (.int n)), some (.val (tS s)), none] :=
    (call_w2 (f1 := dVar 3) (f2 := dVar 4) (i := 2) (ρ := [S, V, some (.dct w3), some (.val (.int n)), some (.val (tS s)), none]) (w := w3) (w' := w3) cl_vr (s := .dct w3) rfl rfl rfl rfl (values_v h1 h8 hs)).trans rfl
  exact ⟨w3, some (tS s), hw3, (seq_nx c2).trans (if_noR (or_ff (not_t (b_ok c4)) (not_t (b_ok c5))))⟩
theorem lines_loop (S V : Option Sl) : ∀ (L : List Nat), (∀ n ∈ L, 2 ≤ n ∧ n ≤ 8) → ∀ (w : List (Key × D)) (o3 o4 : Option D), VW w → ∃ w' u3 u4, VW w' ∧ loop (tgN 3) (dSeq (dAsg 4 (dCl fn__law_sorter (dCons (oS 2) (dConsD (dVar 3) (dConsD (dCl fn__law_choice (dCons (oS 2) (dConsD (dTup (dConsD (dC (.int 0)) (dConsD (dC (.int 1)) (dConsD (dC (.int 3)) (dConsD (dC (.int 7)) (dConsD (dC (.int 20)) (dConsD (dC (.int 60)) (dNil)))))))) (dNil))) dNil [0, 1] []) (dNil)))) dNil [0, 1, 2] []))
      (dIfS (dOr (dNot (dB (dCb gAll (dConsD (dLst (dLc (dIt1 (dC (.int 5))) (tgN 5) (dYes) (dCl fn__law_row_right (dCons (oS 2) (dConsD (dVar 3) (dConsD (dVar 4) (dNil)))) dNil [0, 1, 2] []) [5])) (dNil))))) (dNot (dB (dCl fn__law_values_right (dCons (oS 2) (dConsD (dVar 3) (dConsD (dVar 4) (dNil)))) dNil [0, 1, 2] [])))) (dRet (dC (.bool false))) (dSkip))) [] (L.map fun n : Nat => PyData.int n) [S, V, some (.dct w), oV o3, oV o4, none] = .nx [S, V, some (.dct w'), oV u3, oV u4, none]
  | [], _, w, o3, o4, hw => ⟨w, o3, o4, hw, loop_nil⟩
  | n :: L, h, w, o3, o4, hw => by
    obtain ⟨h1, h8⟩ := h n (List.mem_cons_self ..)
    obtain ⟨w1, o', hw1, e⟩ := body_v S V h1 h8 hw o4
    obtain ⟨w', u3, u4, hw', ih⟩ := lines_loop S V L (fun x hx => h x (List.mem_cons_of_mem _ hx)) w1 (some (.int n)) o' hw1
    refine ⟨w', u3, u4, hw', ?_⟩
    have hb : (tgN 3) (.int n) [S, V, some (.dct w), oV o3, oV o4, none] = .ok () [S, V, some (.dct w), some (.val (.int n)), oV o4, none] := by
      cases o3 <;> rfl
    rw [List.map_cons, loop_cons hb, e]
    exact ih
theorem side_v {ks : List Int} (hk : ks.length ≤ 63) {side : Nat} (hs : side < 2) (o3 o4 : Option D) : ∃ w u3 u4, (dSeq (dAsgK 2 (dClK fn__law_wheel (dCons (oS 0) (dConsD (dVar 1) (dNil))) dNil [0, 1] []))
      (dFor (dIt (dTup (dConsD (dC (.int 8)) (dConsD (dC (.int 3)) (dConsD (dC (.int 5)) (dConsD (dC (.int 2)) (dConsD (dC (.int 4)) (dConsD (dBin gAdd (dC (.int 2)) (dCl fn__law_turn (dCons (oS 2) (dConsD (dC (.int 7)) (dNil))) dNil [0, 1] [])) (dNil))))))))) (tgN 3) (dSeq (dAsg 4 (dCl fn__law_sorter (dCons (oS 2) (dConsD (dVar 3) (dConsD (dCl fn__law_choice (dCons (oS 2) (dConsD (dTup (dConsD (dC (.int 0)) (dConsD (dC (.int 1)) (dConsD (dC (.int 3)) (dConsD (dC (.int 7)) (dConsD (dC (.int 20)) (dConsD (dC (.int 60)) (dNil)))))))) (dNil))) dNil [0, 1] []) (dNil)))) dNil [0, 1, 2] []))
      (dIfS (dOr (dNot (dB (dCb gAll (dConsD (dLst (dLc (dIt1 (dC (.int 5))) (tgN 5) (dYes) (dCl fn__law_row_right (dCons (oS 2) (dConsD (dVar 3) (dConsD (dVar 4) (dNil)))) dNil [0, 1, 2] []) [5])) (dNil))))) (dNot (dB (dCl fn__law_values_right (dCons (oS 2) (dConsD (dVar 3) (dConsD (dVar 4) (dNil)))) dNil [0, 1, 2] [])))) (dRet (dC (.bool false))) (dSkip))) [])) [some (.scr ks), some (.val (.int side)), none, oV o3, oV o4, none] = .nx [some (.scr ks), some (.val (.int side)), some (.dct w), oV u3, oV u4, none] := by
  obtain ⟨w, ew, hw⟩ := wheel_v ks hk side hs
  obtain ⟨r, w1, ⟨q1, q2⟩, hw1, H⟩ : ∃ r w', (0 ≤ r ∧ r < 7) ∧ VW w' ∧ apW fn__law_turn w [.int 7] = some (.int r, w') := by
    obtain ⟨r, w', e, a, b, c⟩ := turn_v hw (m := 7) (by decide)
    exact ⟨r, w', ⟨a, b⟩, c, e⟩
  obtain ⟨k, rfl⟩ := Int.eq_ofNat_of_zero_le q1
  have c1 : (dAsgK 2 (dClK fn__law_wheel (dCons (oS 0) (dConsD (dVar 1) (dNil))) dNil [0, 1] [])) [some (.scr ks), some (.val (.int side)), none, oV o3, oV o4, none] = .nx [some (.scr ks), some (.val (.int side)), some (.dct w), oV o3, oV o4, none] := by
    have c : callR fn__law_wheel [some (.scr ks), some (.val (.int side)), none, oV o3, oV o4, none] [.s 0, .d (.int side)] = .ok (.k w) [some (.scr ks), some (.val (.int side)), none, oV o3, oV o4, none] := by
      unfold callR
      rw [show argsOf [some (.scr ks), some (.val (.int side)), none, oV o3, oV o4, none] [.s 0, .d (.int side)] = some [.scr ks, .val (.int side)] from rfl]
      simp only []
      rw [if_pos (show one [Sl.scr ks, .val (.int side)] = true from rfl), ew]
      rfl
    have d : dClK fn__law_wheel (dCons (oS 0) (dConsD (dVar 1) (dNil))) dNil [0, 1] [] [some (.scr ks), some (.val (.int side)), none, oV o3, oV o4, none] = .ok w [some (.scr ks), some (.val (.int side)), none, oV o3, oV o4, none] := by
      unfold dClK dCallK dCall
      rw [show dArgs (dCons (oS 0) (dConsD (dVar 1) (dNil))) dNil [0, 1] [] [some (.scr ks), some (.val (.int side)), none, oV o3, oV o4, none] = .ok [.s 0, .d (.int side)] [some (.scr ks), some (.val (.int side)), none, oV o3, oV o4, none] from rfl]
      simp only [R.bind]
      rw [c]
    unfold dAsgK
    rw [d]
    rfl
  have c2 : dCl fn__law_turn (dCons (oS 2) (dConsD (dC (.int 7)) (dNil))) dNil [0, 1] [] [some (.scr ks), some (.val (.int side)), some (.dct w), oV o3, oV o4, none] = .ok (.int k) [some (.scr ks), some (.val (.int side)), some (.dct w1), oV o3, oV o4, none] :=
    (call_w1 cl_turn (s := .dct w) rfl rfl rfl H).trans rfl
  have c3 : (dIt (dTup (dConsD (dC (.int 8)) (dConsD (dC (.int 3)) (dConsD (dC (.int 5)) (dConsD (dC (.int 2)) (dConsD (dC (.int 4)) (dConsD (dBin gAdd (dC (.int 2)) (dCl fn__law_turn (dCons (oS 2) (dConsD (dC (.int 7)) (dNil))) dNil [0, 1] [])) (dNil))))))))) [some (.scr ks), some (.val (.int side)), some (.dct w), oV o3, oV o4, none] = .ok (([8, 3, 5, 2, 4, 2 + k] : List Nat).map fun n : Nat => PyData.int n) [some (.scr ks), some (.val (.int side)), some (.dct w1), oV o3, oV o4, none] := by
    have b : dBin gAdd (dC (.int 2)) (dCl fn__law_turn (dCons (oS 2) (dConsD (dC (.int 7)) (dNil))) dNil [0, 1] []) [some (.scr ks), some (.val (.int side)), some (.dct w), oV o3, oV o4, none] = .ok (.int ((2 + k : Nat) : Int)) [some (.scr ks), some (.val (.int side)), some (.dct w1), oV o3, oV o4, none] :=
      bin_ok rfl c2 (by show some (PyData.int _) = some (PyData.int _); congr 2)
    have t := items_ok (ds := ([8, 3, 5, 2, 4, 2 + k] : List Nat).map fun n : Nat => PyData.int n) (cons_ok (d := .int 8) (f := dC (.int 8)) rfl (cons_ok (d := .int 3) (f := dC (.int 3)) rfl (cons_ok (d := .int 5) (f := dC (.int 5)) rfl (cons_ok (d := .int 2) (f := dC (.int 2)) rfl (cons_ok (d := .int 4) (f := dC (.int 4)) rfl (cons_ok b (show dNil _ = _ from rfl))))))) rfl (by simp)
    exact tup_it t
  obtain ⟨w', u3, u4, _, L⟩ := lines_loop (some (.scr ks)) (some (.val (.int side))) [8, 3, 5, 2, 4, 2 + k] (fun n hn => by
    simp only [List.mem_cons, List.not_mem_nil, or_false] at hn
    rcases hn with rfl | rfl | rfl | rfl | rfl | rfl <;> omega) w1 o3 o4 hw1
  exact ⟨w', u3, u4, (seq_nx c1).trans ((for_ok c3).trans L)⟩
theorem good (ks : List Int) (hk : ks.length ≤ 63) : ∃ ss, fn_law [.scr ks] = .ok (.d (.bool true)) ss := by
  obtain ⟨w0, u3, u4, e0⟩ := side_v hk (side := 0) (by decide) none none
  obtain ⟨w1, v3, v4, e1⟩ := side_v hk (side := 1) (by decide) u3 u4
  have i : (dIt (dTup (dConsD (dC (.int 0)) (dConsD (dC (.int 1)) (dNil))))) [some (.scr ks), none, none, none, none, none] = .ok [.int 0, .int 1] [some (.scr ks), none, none, none, none, none] := by
    simp [dIt, dTup, dConsD, dNil, dC, R.bind, asD, sizeLine_eq]
  have e2 : dFor (dIt (dTup (dConsD (dC (.int 0)) (dConsD (dC (.int 1)) (dNil))))) (tgN 1) (dSeq (dAsgK 2 (dClK fn__law_wheel (dCons (oS 0) (dConsD (dVar 1) (dNil))) dNil [0, 1] []))
      (dFor (dIt (dTup (dConsD (dC (.int 8)) (dConsD (dC (.int 3)) (dConsD (dC (.int 5)) (dConsD (dC (.int 2)) (dConsD (dC (.int 4)) (dConsD (dBin gAdd (dC (.int 2)) (dCl fn__law_turn (dCons (oS 2) (dConsD (dC (.int 7)) (dNil))) dNil [0, 1] [])) (dNil))))))))) (tgN 3) (dSeq (dAsg 4 (dCl fn__law_sorter (dCons (oS 2) (dConsD (dVar 3) (dConsD (dCl fn__law_choice (dCons (oS 2) (dConsD (dTup (dConsD (dC (.int 0)) (dConsD (dC (.int 1)) (dConsD (dC (.int 3)) (dConsD (dC (.int 7)) (dConsD (dC (.int 20)) (dConsD (dC (.int 60)) (dNil)))))))) (dNil))) dNil [0, 1] []) (dNil)))) dNil [0, 1, 2] []))
      (dIfS (dOr (dNot (dB (dCb gAll (dConsD (dLst (dLc (dIt1 (dC (.int 5))) (tgN 5) (dYes) (dCl fn__law_row_right (dCons (oS 2) (dConsD (dVar 3) (dConsD (dVar 4) (dNil)))) dNil [0, 1, 2] []) [5])) (dNil))))) (dNot (dB (dCl fn__law_values_right (dCons (oS 2) (dConsD (dVar 3) (dConsD (dVar 4) (dNil)))) dNil [0, 1, 2] [])))) (dRet (dC (.bool false))) (dSkip))) [])) [2] [some (.scr ks), none, none, none, none, none] = .nx [some (.scr ks), some (.val (.int 1)), none, oV v3, oV v4, none] := by
    unfold dFor
    rw [i]
    simp only [R.then]
    rw [show forget [some (.scr ks), none, none, none, none, none] [2] = [some (.scr ks), none, none, none, none, none] from rfl]
    have t0 : (tgN 1) (.int 0) [some (.scr ks), none, none, none, none, none] = .ok () [some (.scr ks), some (.val (.int ((0 : Nat) : Int))), none, oV none, oV none, none] := rfl
    have t1 : (tgN 1) (.int 1) [some (.scr ks), some (.val (.int ((0 : Nat) : Int))), none, oV u3, oV u4, none] = .ok () [some (.scr ks), some (.val (.int ((1 : Nat) : Int))), none, oV u3, oV u4, none] := rfl
    exact (loop_stepF t0 e0).trans ((loop_stepF t1 e1).trans loop_nilF)
  refine ⟨[.scr ks], ?_⟩
  show fnOf 5 g_law _ = _
  unfold fnOf
  have tot : g_law [some (.scr ks), none, none, none, none, none] = .ret (.bool true) [some (.scr ks), some (.val (.int 1)), none, oV v3, oV v4, none] := by
    unfold g_law
    rw [seq_nx e2]
    rfl
  rw [show env0 5 [Sl.scr ks] = [some (.scr ks), none, none, none, none, none] from rfl, tot]
  rfl
end T51

open PySem PySem.W PyProof.Rows in
set_option maxRecDepth 100000 in
set_option maxHeartbeats 0 in
theorem PySem.Challenge.cw_trunkrooms_k51_whole_rows_behind_sorters_holds : PySem.Challenge.rw_trunkrooms_k51_whole_rows_behind_sorters.Holds := by
  w_on; o_law; k_head; (case hw => w_witness2)
  k_fill
  refine L2.G.top_walk (l := PySem.Challenge.rw_trunkrooms_k51_whole_rows_behind_sorters) (n := 63) (k := 9) (x := "script") (fn := T51.fn_law) rfl (by decide) rfl ⟨rfl, by decide, by decide⟩ rfl (fun w h Y => PySem.W.kIn_of Y) T51.good ?F
  case F =>
    intro w mg fa h KX G hmg
    refine' T51.all_mk KX G hmg ?a0 ?l0 ?c0 ?k0 ?a1 ?l1 ?c1 ?k1 ?a2 ?l2 ?c2 ?k2 ?a3 ?l3 ?c3 ?k3 ?a4 ?l4 ?c4 ?k4 ?a5 ?l5 ?c5 ?k5 ?a6 ?l6 ?c6 ?k6 ?a7 ?l7 ?c7 ?k7 ?a8 ?l8 ?c8 ?k8 ?e8 ?a9 ?l9 ?c9 ?k9 ?a10 ?l10 ?c10 ?k10 ?a11 ?l11 ?c11 ?k11 ?a12 ?l12 ?c12 ?k12 ?a13 ?l13 ?c13 ?k13 ?a14 ?l14 ?c14 ?k14 ?a15 ?l15 ?c15 ?k15 ?a16 ?l16 ?c16 ?k16 ?a17 ?l17 ?c17 ?k17 ?a18 ?l18 ?c18 ?k18 ?a19 ?l19 ?c19 ?k19 ?a20 ?l20 ?c20 ?k20 ?a21 ?l21 ?c21 ?k21 ?a22 ?l22 ?c22 ?k22 ?a23 ?l23 ?c23 ?k23 ?a24 ?l24 ?c24 ?k24 ?a25 ?l25 ?c25 ?k25 ?a26 ?l26 ?c26 ?k26 ?a27 ?l27 ?c27 ?k27 ?z0 ?z1 ?z2 ?z3 ?z4 ?z5 ?z6 ?z7 ?z8 ?z9 ?z10 ?z11 ?z12 ?z13 ?z14 ?y0 ?y1
    (case a0 => k_is)
    (case l0 => k_is)
    (case c0 => k_is)
    (case k0 => k_is)
    (case a1 => k_is)
    (case l1 => k_is)
    (case c1 => k_is)
    (case k1 => k_is)
    (case a2 => k_is)
    (case l2 => k_is)
    (case c2 => k_is)
    (case k2 => k_is)
    (case a3 => k_is)
    (case l3 => k_is)
    (case c3 => k_is)
    (case k3 => k_is)
    (case a4 => k_is)
    (case l4 => k_is)
    (case c4 => k_is)
    (case k4 => k_is)
    (case a5 => k_is)
    (case l5 => k_is)
    (case c5 => k_is)
    (case k5 => k_is)
    (case a6 => k_is)
    (case l6 => k_is)
    (case c6 => k_is)
    (case k6 => k_is)
    (case a7 => k_is)
    (case l7 => k_is)
    (case c7 => k_is)
    (case k7 => k_is)
    (case a8 => k_is)
    (case l8 => k_is)
    (case c8 => k_is)
    (case k8 => k_is)
    (case e8 => k_is)
    (case a9 => k_is)
    (case l9 => k_is)
    (case c9 => k_is)
    (case k9 => k_is)
    (case a10 => k_is)
    (case l10 => k_is)
    (case c10 => k_is)
    (case k10 => k_is)
    (case a11 => k_is)
    (case l11 => k_is)
    (case c11 => k_is)
    (case k11 => k_is)
    (case a12 => k_is)
    (case l12 => k_is)
    (case c12 => k_is)
    (case k12 => k_is)
    (case a13 => k_is)
    (case l13 => k_is)
    (case c13 => k_is)
    (case k13 => k_is)
    (case a14 => k_is)
    (case l14 => k_is)
    (case c14 => k_is)
    (case k14 => k_is)
    (case a15 => k_is)
    (case l15 => k_is)
    (case c15 => k_is)
    (case k15 => k_is)
    (case a16 => k_is)
    (case l16 => k_is)
    (case c16 => k_is)
    (case k16 => k_is)
    (case a17 => k_is)
    (case l17 => k_is)
    (case c17 => k_is)
    (case k17 => k_is)
    (case a18 => k_is)
    (case l18 => k_is)
    (case c18 => k_is)
    (case k18 => k_is)
    (case a19 => k_is)
    (case l19 => k_is)
    (case c19 => k_is)
    (case k19 => k_is)
    (case a20 => k_is)
    (case l20 => k_is)
    (case c20 => k_is)
    (case k20 => k_is)
    (case a21 => k_is)
    (case l21 => k_is)
    (case c21 => k_is)
    (case k21 => k_is)
    (case a22 => k_is)
    (case l22 => k_is)
    (case c22 => k_is)
    (case k22 => k_is)
    (case a23 => k_is)
    (case l23 => k_is)
    (case c23 => k_is)
    (case k23 => k_is)
    (case a24 => k_is)
    (case l24 => k_is)
    (case c24 => k_is)
    (case k24 => k_is)
    (case a25 => k_is)
    (case l25 => k_is)
    (case c25 => k_is)
    (case k25 => k_is)
    (case a26 => k_is)
    (case l26 => k_is)
    (case c26 => k_is)
    (case k26 => k_is)
    (case a27 => k_is)
    (case l27 => k_is)
    (case c27 => k_is)
    (case k27 => k_is)
    (case z0 => k_is)
    (case z1 => k_is)
    (case z2 => k_is)
    (case z3 => k_is)
    (case z4 => k_is)
    (case z5 => k_is)
    (case z6 => k_is)
    (case z7 => k_is)
    (case z8 => k_is)
    (case z9 => k_is)
    (case z10 => k_is)
    (case z11 => k_is)
    (case z12 => k_is)
    (case z13 => k_is)
    (case z14 => k_is)
    (case y0 => k_is)
    (case y1 => k_is)
#print axioms PySem.Challenge.cw_trunkrooms_k51_whole_rows_behind_sorters_holds
