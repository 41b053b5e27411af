import PyProof.Rows.All
import Wide.All
import OpenK.AllK
import Wide.FinOn
import HandS.ForMost
import HandS.IsInst
import HandS.Wide
import HandS.EndBits
import HandS.Codes
import HandS.Zip
import KE.DataCmp
import KE.SortKeyHeap
import HandS.SortKw
import HandS.More
import PySem.Challenge.RW_twigtable_k51_three_states
set_option Elab.async false
set_option linter.all false
set_option maxRecDepth 100000
set_option maxHeartbeats 2000000
/-! Fx: a def's body as a function on data: trees for what is never changed, numbered cells for lists that are. -/
namespace Fx
open PySem PySem.Spec PyProof.Rows L2

/-! ### data -/
inductive D where
  | non | bl (b : Bool) | int (i : Int) | str (x : Str) | tup (xs : List D) | lst (xs : List D) | cell (n : Nat) | ref (a : Addr)
inductive Cell where
  | lst (xs : List D) | dct (kvs : List (Key × D))
structure S where
  loc : List (Option D)
  vh : List Cell
structure Ex where
  cls : Addr
  fs : List (Str × D)
inductive Res (α : Type) where
  | ok (a : α) (s : S) | exc (e : Ex) (s : S) | bad
abbrev M (α : Type) := S → Res α
def ret {α : Type} (a : α) : M α := fun s => .ok a s
def fail {α : Type} : M α := fun _ => .bad
def bnd {α β : Type} (m : M α) (k : α → M β) : M β := fun s => match m s with
  | .ok a s' => k a s'
  | .exc e s' => .exc e s'
  | .bad => .bad
/-- data that stand in the abstract heap -/
structure Wd where
  ρ : List Addr
  F : Hp
def Wd.le (w w' : Wd) : Prop := (∀ (n : Nat) a, w.ρ[n]? = some a → w'.ρ[n]? = some a) ∧ ∀ a o, w.F a = some o → w'.F a = some o
theorem Wd.le.refl (w : Wd) : w.le w := ⟨fun _ _ h => h, fun _ _ h => h⟩
theorem Wd.le.trans {a b c : Wd} (x : a.le b) (y : b.le c) : a.le c := ⟨fun n q h => y.1 n q (x.1 n q h), fun q o h => y.2 q o (x.2 q o h)⟩
section
variable (K : PySem.W.Frag)
mutual
inductive Rep : Wd → V → D → Prop
  | non {w : Wd} : Rep w .non .non
  | bl {w : Wd} (b : Bool) : Rep w (.bl b) (.bl b)
  | int {w : Wd} (i : Int) : Rep w (.int i) (.int i)
  | str {w : Wd} (x : Str) : Rep w (.str x) (.str x)
  | ref {w : Wd} (a : Addr) : Rep w (.ref a) (.ref a)
  | tup {w : Wd} {a : Addr} {vs : List V} {ds : List D} (h : SqT K w.F a vs) (t : RepL w vs ds) : Rep w (.ref a) (.tup ds)
  | lst {w : Wd} {a : Addr} {vs : List V} {ds : List D} (h : SqL K w.F a vs) (t : RepL w vs ds) : Rep w (.ref a) (.lst ds)
  | cell {w : Wd} {a : Addr} {n : Nat} (h : w.ρ[n]? = some a) : Rep w (.ref a) (.cell n)
inductive RepL : Wd → List V → List D → Prop
  | nil {w : Wd} : RepL w [] []
  | cons {w : Wd} {v : V} {d : D} {vs : List V} {ds : List D} (h : Rep w v d) (t : RepL w vs ds) : RepL w (v :: vs) (d :: ds)
end
inductive RepK : Wd → List (Key × V) → List (Key × D) → Prop
  | nil {w : Wd} : RepK w [] []
  | cons {w : Wd} {k : Key} {v : V} {d : D} {vs : List (Key × V)} {ds : List (Key × D)} (h : Rep K w v d) (t : RepK w vs ds) : RepK w ((k, v) :: vs) ((k, d) :: ds)
def CellIs (w : Wd) (H : Hp) (a : Addr) : Cell → Prop
  | .lst ds => ∃ vs, H a = some (.lst vs) ∧ RepL K w vs ds
  | .dct kvs => ∃ vs, H a = some (.dK vs) ∧ RepK K w vs kvs
structure RS (w : Wd) (H : Hp) (σ : L2.St) (s : S) : Prop where
  sub : ∀ a o, w.F a = some o → H a = some o
  len : σ.length = s.loc.length
  loc : ∀ (i : Nat) d, s.loc[i]? = some (some d) → ∃ v, σ[i]? = some (some v) ∧ Rep K w v d
  cl : w.ρ.length = s.vh.length
  nd : w.ρ.Nodup
  out : ∀ a ∈ w.ρ, w.F a = none
  cells : ∀ (n : Nat) a c, w.ρ[n]? = some a → s.vh[n]? = some c → CellIs K w H a c
end
section
variable {K : PySem.W.Frag} {w w' : Wd} {H H' : Hp} {σ : L2.St} {s s' : S}
theorem sqT_up {F F' : Hp} (h : ∀ a o, F a = some o → F' a = some o) {a : Addr} {vs : List V} (x : SqT K F a vs) : SqT K F' a vs := by
  rcases x with (x | ⟨o, x⟩) | x
  · exact .inl (.inl (h _ _ x))
  · exact .inl (.inr ⟨o, h _ _ x⟩)
  · exact .inr x
theorem rd_up {F F' : Hp} (h : ∀ a o, F a = some o → F' a = some o) {a : Addr} {u : HO} (x : L2.Rd F a u) : L2.Rd F' a u := by
  rcases x with x | ⟨o, x⟩
  · exact .inl (h _ _ x)
  · exact .inr ⟨o, h _ _ x⟩
theorem sqL_up {F F' : Hp} (h : ∀ a o, F a = some o → F' a = some o) {a : Addr} {vs : List V} (x : SqL K F a vs) : SqL K F' a vs := by
  rcases x with (x | ⟨o, x⟩) | x
  · exact .inl (.inl (h _ _ x))
  · exact .inl (.inr ⟨o, h _ _ x⟩)
  · exact .inr x
mutual
theorem Rep.upW (l : w.le w') : ∀ {v : V} {d : D}, Rep K w v d → Rep K w' v d
  | _, _, .non => .non
  | _, _, .bl b => .bl b
  | _, _, .int i => .int i
  | _, _, .str x => .str x
  | _, _, .ref a => .ref a
  | _, _, .tup h t => .tup (sqT_up l.2 h) (RepL.upW l t)
  | _, _, .lst h t => .lst (sqL_up l.2 h) (RepL.upW l t)
  | _, _, .cell h => .cell (l.1 _ _ h)
theorem RepL.upW (l : w.le w') : ∀ {vs : List V} {ds : List D}, RepL K w vs ds → RepL K w' vs ds
  | _, _, .nil => .nil
  | _, _, .cons h t => .cons (Rep.upW l h) (RepL.upW l t)
end
theorem RepK.upW (l : w.le w') : ∀ {vs : List (Key × V)} {ds : List (Key × D)}, RepK K w vs ds → RepK K w' vs ds
  | _, _, .nil => .nil
  | _, _, .cons h t => .cons (h.upW l) (RepK.upW l t)
theorem RepL.length : ∀ {vs : List V} {ds : List D}, RepL K w vs ds → vs.length = ds.length
  | _, _, .nil => rfl
  | _, _, .cons _ t => by simp only [List.length_cons]; rw [RepL.length t]
theorem RepL.get : ∀ {vs : List V} {ds : List D} {i : Nat} {d : D}, RepL K w vs ds → ds[i]? = some d → ∃ v, vs[i]? = some v ∧ Rep K w v d
  | _, _, i, d, .nil, e => by simp at e
  | _, _, 0, d, .cons h t, e => by simp at e; subst e; exact ⟨_, rfl, h⟩
  | _, _, i + 1, d, .cons h t, e => by
    obtain ⟨v, h1, h2⟩ := RepL.get (i := i) (d := d) t (by simpa using e)
    exact ⟨v, by simpa using h1, h2⟩
theorem RepL.get' : ∀ {vs : List V} {ds : List D} {i : Nat} {v : V}, RepL K w vs ds → vs[i]? = some v → ∃ d, ds[i]? = some d ∧ Rep K w v d
  | _, _, i, d, .nil, e => by simp at e
  | _, _, 0, d, .cons h t, e => by simp at e; subst e; exact ⟨_, rfl, h⟩
  | _, _, i + 1, d, .cons h t, e => by
    obtain ⟨v, h1, h2⟩ := RepL.get' (i := i) (v := d) t (by simpa using e)
    exact ⟨v, by simpa using h1, h2⟩
theorem RepL.append : ∀ {vs us : List V} {ds es : List D}, RepL K w vs ds → RepL K w us es → RepL K w (vs ++ us) (ds ++ es)
  | _, _, _, _, .nil, s => s
  | _, _, _, _, .cons r t, s => .cons r (RepL.append t s)
theorem RepL.take : ∀ {vs : List V} {ds : List D} (n : Nat), RepL K w vs ds → RepL K w (vs.take n) (ds.take n)
  | _, _, 0, _ => .nil
  | _, _, _ + 1, .nil => .nil
  | _, _, n + 1, .cons r t => .cons r (RepL.take n t)
theorem RepL.drop : ∀ {vs : List V} {ds : List D} (n : Nat), RepL K w vs ds → RepL K w (vs.drop n) (ds.drop n)
  | _, _, 0, r => r
  | _, _, _ + 1, .nil => .nil
  | _, _, n + 1, .cons _ t => RepL.drop n t
theorem RepL.set {v : V} {d : D} (r : Rep K w v d) : ∀ {vs : List V} {ds : List D} (i : Nat), RepL K w vs ds → RepL K w (vs.set i v) (ds.set i d)
  | _, _, _, .nil => .nil
  | _, _, 0, .cons _ t => .cons r t
  | _, _, i + 1, .cons q t => .cons q (RepL.set r i t)
theorem CellIs.upW (l : w.le w') {a : Addr} {c : Cell} (e : H' a = H a) (h : CellIs K w H a c) : CellIs K w' H' a c := by
  cases c with
  | lst ds => obtain ⟨vs, h1, h2⟩ := h; exact ⟨vs, by rw [e]; exact h1, h2.upW l⟩
  | dct kvs => obtain ⟨vs, h1, h2⟩ := h; exact ⟨vs, by rw [e]; exact h1, h2.upW l⟩
theorem CellIs.there {a : Addr} {c : Cell} (h : CellIs K w H a c) : ∃ o, H a = some o := by
  cases c with
  | lst ds => obtain ⟨vs, h1, _⟩ := h; exact ⟨_, h1⟩
  | dct kvs => obtain ⟨vs, h1, _⟩ := h; exact ⟨_, h1⟩
theorem RS.cellOf (R : RS K w H σ s) {n : Nat} {a : Addr} (h : w.ρ[n]? = some a) : ∃ c, s.vh[n]? = some c ∧ CellIs K w H a c := by
  have hn : n < w.ρ.length := (List.getElem?_eq_some_iff.mp h).1
  have hm : n < s.vh.length := by rw [← R.cl]; exact hn
  exact ⟨s.vh[n], List.getElem?_eq_getElem hm, R.cells n a _ h (List.getElem?_eq_getElem hm)⟩
theorem RS.addrOf (R : RS K w H σ s) {n : Nat} {c : Cell} (h : s.vh[n]? = some c) : ∃ a, w.ρ[n]? = some a ∧ CellIs K w H a c := by
  have hn : n < s.vh.length := (List.getElem?_eq_some_iff.mp h).1
  have hm : n < w.ρ.length := by rw [R.cl]; exact hn
  exact ⟨w.ρ[n], List.getElem?_eq_getElem hm, R.cells n _ _ (List.getElem?_eq_getElem hm) h⟩
theorem RS.fresh (R : RS K w H σ s) {p : Addr} (hp : H p = none) : w.F p = none ∧ p ∉ w.ρ := by
  refine ⟨?_, fun hm => ?_⟩
  · cases q : w.F p with
    | none => rfl
    | some o => rw [R.sub p o q] at hp; cases hp
  · obtain ⟨n, hn, e⟩ := List.mem_iff_getElem.mp hm
    obtain ⟨c, _, hc⟩ := R.cellOf (n := n) (a := p) (by rw [List.getElem?_eq_getElem hn, e])
    obtain ⟨o, ho⟩ := hc.there
    rw [ho] at hp; cases hp
theorem RS.ne (R : RS K w H σ s) {p a : Addr} {n : Nat} (hp : H p = none) (h : w.ρ[n]? = some a) : a ≠ p := by
  intro e; subst e
  exact (R.fresh hp).2 (List.mem_of_getElem? h)
/-- something new is laid, that will not change -/
def Wd.frz (w : Wd) (p : Addr) (o : HO) : Wd := ⟨w.ρ, upd w.F p o⟩
theorem Wd.frz_le {p : Addr} {o : HO} (h : w.F p = none) : w.le (w.frz p o) := ⟨fun _ _ e => e, fun a q e => by
  show upd w.F p o a = some q
  rw [upd_ne (ne_of_none e h)]; exact e⟩
theorem RS.lay (R : RS K w H σ s) {p : Addr} {o : HO} (hp : H p = none) : RS K (w.frz p o) (upd H p o) σ s := by
  have f := R.fresh hp
  have le := Wd.frz_le (o := o) f.1
  refine ⟨fun a q e => ?_, R.len, fun i d e => ?_, R.cl, R.nd, fun a ha => ?_, fun n a c e1 e2 => ?_⟩
  · have e : upd w.F p o a = some q := e
    by_cases h : a = p
    · subst h; rw [upd_same] at e ⊢; exact e
    · rw [upd_ne h] at e ⊢; exact R.sub a q e
  · obtain ⟨v, h1, h2⟩ := R.loc i d e
    exact ⟨v, h1, h2.upW le⟩
  · show upd w.F p o a = none
    rw [upd_ne (fun (e : a = p) => f.2 (e ▸ ha))]; exact R.out a ha
  · exact (R.cells n a c e1 e2).upW le (upd_ne (R.ne hp e1))
/-- something new is laid that stands by itself (a cell) -/
def Wd.own (w : Wd) (p : Addr) : Wd := ⟨w.ρ ++ [p], w.F⟩
theorem Wd.own_le {p : Addr} : w.le (w.own p) := ⟨fun n a e => by
  show (w.ρ ++ [p])[n]? = some a
  rw [List.getElem?_append_left (List.getElem?_eq_some_iff.mp e).1]; exact e, fun _ _ e => e⟩
theorem RS.addCell (R : RS K w H σ s) {p : Addr} {c : Cell} (hf : w.F p = none) (hr : p ∉ w.ρ) (hc : CellIs K w H p c) : RS K (w.own p) H σ { s with vh := s.vh ++ [c] } := by
  refine ⟨R.sub, R.len, fun i d e => ?_, ?_, ?_, fun a ha => ?_, fun n a c' e1 e2 => ?_⟩
  · obtain ⟨v, h1, h2⟩ := R.loc i d e
    exact ⟨v, h1, h2.upW Wd.own_le⟩
  · show (w.ρ ++ [p]).length = (s.vh ++ [c]).length
    rw [List.length_append, List.length_append, R.cl]; rfl
  · show (w.ρ ++ [p]).Nodup
    rw [List.nodup_append]
    refine ⟨R.nd, by simp, fun a ha b hb => ?_⟩
    rw [List.mem_singleton] at hb; subst hb
    intro e; subst e; exact hr ha
  · rcases List.mem_append.mp ha with h | h
    · exact R.out a h
    · rw [List.mem_singleton] at h; subst h; exact hf
  · have e1 : (w.ρ ++ [p])[n]? = some a := e1
    have e2 : (s.vh ++ [c])[n]? = some c' := e2
    by_cases hn : n < w.ρ.length
    · rw [List.getElem?_append_left hn] at e1
      rw [List.getElem?_append_left (by rw [← R.cl]; exact hn)] at e2
      exact (R.cells n a c' e1 e2).upW Wd.own_le rfl
    · have hn' : n < w.ρ.length + 1 := by
        have := (List.getElem?_eq_some_iff.mp e1).1
        rw [List.length_append] at this; exact this
      have en : n = w.ρ.length := by omega
      subst en
      rw [List.getElem?_append_right (Nat.le_refl _), Nat.sub_self] at e1
      rw [R.cl, List.getElem?_append_right (Nat.le_refl _), Nat.sub_self] at e2
      cases e1; cases e2
      exact hc.upW Wd.own_le rfl
/-- a cell changes -/
theorem RS.setCell (R : RS K w H σ s) {n : Nat} {a : Addr} {c : Cell} {o : HO} (h : w.ρ[n]? = some a) (hc : CellIs K w (upd H a o) a c) : RS K w (upd H a o) σ { s with vh := s.vh.set n c } := by
  have fa : w.F a = none := R.out a (List.mem_of_getElem? h)
  refine ⟨fun b q e => ?_, R.len, R.loc, by rw [List.length_set]; exact R.cl, R.nd, R.out, fun m b c' e1 e2 => ?_⟩
  · rw [upd_ne (ne_of_none e fa)]; exact R.sub b q e
  · by_cases hm : m = n
    · subst hm
      rw [h] at e1; cases e1
      have hl : m < s.vh.length := by rw [← R.cl]; exact (List.getElem?_eq_some_iff.mp h).1
      rw [List.getElem?_set_self hl] at e2; cases e2
      exact hc
    · rw [List.getElem?_set_ne (Ne.symm hm)] at e2
      have hb : b ≠ a := fun e => by
        subst e
        have h1 := List.getElem?_eq_some_iff.mp e1
        have h2 := List.getElem?_eq_some_iff.mp h
        exact hm ((List.getElem_inj R.nd).mp (h1.2.trans h2.2.symm))
      exact (R.cells m b c' e1 e2).upW (Wd.le.refl w) (upd_ne hb)
theorem RS.set (R : RS K w H σ s) {i : Nat} {v : V} {d : D} (r : Rep K w v d) : RS K w H (σ.set i (some v)) { s with loc := s.loc.set i (some d) } := by
  refine ⟨R.sub, by rw [List.length_set, List.length_set]; exact R.len, fun j e h => ?_, R.cl, R.nd, R.out, R.cells⟩
  by_cases hj : j = i
  · subst hj
    have hl : j < s.loc.length := by
      have := (List.getElem?_eq_some_iff.mp h).1
      rw [List.length_set] at this; exact this
    rw [List.getElem?_set_self hl] at h; cases h
    exact ⟨v, List.getElem?_set_self (by rw [R.len]; exact hl), r⟩
  · rw [List.getElem?_set_ne (Ne.symm hj)] at h ⊢
    exact R.loc j e h
/-- other slots, the same heap -/
theorem RS.other {σ' : L2.St} {l : List (Option D)} (R : RS K w H σ s) (hl : σ'.length = l.length) (h : ∀ (i : Nat) d, l[i]? = some (some d) → ∃ v, σ'[i]? = some (some v) ∧ Rep K w v d) : RS K w H σ' { s with loc := l } :=
  ⟨R.sub, hl, h, R.cl, R.nd, R.out, R.cells⟩
end

/-! ### from one state to a later one -/
structure Le (w : Wd) (H : Hp) (w' : Wd) (H' : Hp) : Prop where
  le : w.le w'
  keep : ∀ a o, H a = some o → a ∉ w.ρ → H' a = some o
  newρ : ∀ a, a ∈ w'.ρ → a ∈ w.ρ ∨ H a = none
  newF : ∀ a o, w'.F a = some o → w.F a = some o ∨ H a = none ∨ a ∈ w.ρ
section
variable {K : PySem.W.Frag} {w w' w1 w2 : Wd} {H H' H1 H2 : Hp} {σ : L2.St} {s : S}
theorem Le.refl (w : Wd) (H : Hp) : Le w H w H := ⟨Wd.le.refl w, fun _ _ h _ => h, fun _ h => .inl h, fun _ _ h => .inl h⟩
theorem mem_up (l : w.le w') {a : Addr} (h : a ∈ w.ρ) : a ∈ w'.ρ := by
  obtain ⟨n, hn, e⟩ := List.mem_iff_getElem.mp h
  exact List.mem_of_getElem? (l.1 n a (by rw [List.getElem?_eq_getElem hn, e]))
theorem Le.back (l : Le w H w1 H1) {a : Addr} (h : H1 a = none) : H a = none ∨ a ∈ w.ρ := by
  cases e : H a with
  | none => exact .inl rfl
  | some o =>
    by_cases ha : a ∈ w.ρ
    · exact .inr ha
    · rw [l.keep a o e ha] at h; cases h
theorem Le.trans (x : Le w H w1 H1) (y : Le w1 H1 w2 H2) : Le w H w2 H2 := by
  refine ⟨x.le.trans y.le, fun a o e h => ?_, fun a h => ?_, fun a o h => ?_⟩
  · refine y.keep a o (x.keep a o e h) fun h1 => ?_
    rcases x.newρ a h1 with h2 | h2
    · exact h h2
    · rw [e] at h2; cases h2
  · rcases y.newρ a h with h1 | h1
    · exact x.newρ a h1
    · rcases x.back h1 with h2 | h2
      · exact .inr h2
      · exact .inl h2
  · rcases y.newF a o h with h1 | h1 | h1
    · exact x.newF a o h1
    · rcases x.back h1 with h2 | h2
      · exact .inr (.inl h2)
      · exact .inr (.inr h2)
    · rcases x.newρ a h1 with h2 | h2
      · exact .inr (.inr h2)
      · exact .inr (.inl h2)
theorem Rep.up (l : Le w H w' H') {v : V} {d : D} (h : Rep K w v d) : Rep K w' v d := h.upW l.le
theorem RepL.up (l : Le w H w' H') {v : List V} {d : List D} (h : RepL K w v d) : RepL K w' v d := h.upW l.le
theorem RepK.up (l : Le w H w' H') {v : List (Key × V)} {d : List (Key × D)} (h : RepK K w v d) : RepK K w' v d := h.upW l.le
theorem Le.laid {p : Addr} {o : HO} (hp : H p = none) : Le w H w (upd H p o) := ⟨Wd.le.refl w, fun a q e _ => by rw [upd_ne (ne_of_none e hp)]; exact e, fun _ h => .inl h, fun _ _ h => .inl h⟩
theorem Le.lay {p : Addr} {o : HO} (hp : H p = none) (hf : w.F p = none) : Le w H (w.frz p o) (upd H p o) := ⟨Wd.frz_le hf, fun a q e _ => by rw [upd_ne (ne_of_none e hp)]; exact e, fun _ h => .inl h, fun a q h => by
  by_cases e : a = p
  · subst e; exact .inr (.inl hp)
  · have h : upd w.F p o a = some q := h
    rw [upd_ne e] at h; exact .inl h⟩
/-- a tracked thing that was new is frozen | becomes a cell -/
theorem Le.frz {p : Addr} {o : HO} (l : Le w H w1 H1) (hp : H p = none) (hf : w1.F p = none) : Le w H (w1.frz p o) H1 := ⟨l.le.trans (Wd.frz_le hf), l.keep, l.newρ, fun a q h => by
  by_cases e : a = p
  · subst e; exact .inr (.inl hp)
  · have h : upd w1.F p o a = some q := h
    rw [upd_ne e] at h; exact l.newF a q h⟩
theorem Le.own {p : Addr} (l : Le w H w1 H1) (hp : H p = none) : Le w H (w1.own p) H1 := ⟨l.le.trans Wd.own_le, l.keep, fun a h => by
  rcases List.mem_append.mp h with h | h
  · exact l.newρ a h
  · rw [List.mem_singleton] at h; subst h; exact .inr hp, l.newF⟩
theorem Le.write {a : Addr} {o : HO} (h : a ∈ w.ρ) : Le w H w (upd H a o) := ⟨Wd.le.refl w, fun b q e hb => by
  have hne : b ≠ a := fun (z : b = a) => hb (z ▸ h)
  rw [upd_ne hne]; exact e, fun _ h => .inl h, fun _ _ h => .inl h⟩
end
/-! ### what is wanted behind a step -/
abbrev WX := Ex → Wd → Hp → L2.St → Prop
def W0 : WX := fun _ _ _ _ => False
/-- how a result is told: by the heap ahead, the state behind -/
structure Pr (ν α : Type) where
  p : Hp → Wd → Hp → ν → α → Prop
  mono : ∀ (w : Wd) H w1 H1 w' H' v a, Le w H w1 H1 → w1.le w' → p H1 w' H' v a → p H w' H' v a
section
variable (K : PySem.W.Frag) (W : WX)
def Post {α ν : Type} (P : Pr ν α) (w : Wd) (H : Hp) (σ : L2.St) (r : Res α) (Q : ν → Hp → Prop) : Prop := match r with
  | .ok a s => ∀ w' H' v, Le w H w' H' → RS K w' H' σ s → P.p H w' H' v a → Q v H'
  | .exc e s => ∀ w' H', Le w H w' H' → RS K w' H' σ s → W e w' H' σ
  | .bad => False
/-- the reading t does what f says -/
def Fol {α ν : Type} (P : Pr ν α) (t : L2.St → Hp → (ν → Hp → Prop) → Prop) (f : M α) : Prop :=
  ∀ w H σ s Q, RS K w H σ s → Post K W P w H σ (f s) Q → t σ H Q
@[reducible] def pD : Pr V D := ⟨fun _ w _ v d => Rep K w v d, fun _ _ _ _ _ _ _ _ _ _ h => h⟩
@[reducible] def pL : Pr (List V) (List D) := ⟨fun _ w _ v d => RepL K w v d, fun _ _ _ _ _ _ _ _ _ _ h => h⟩
@[reducible] def pB : Pr Bool Bool := ⟨fun _ _ _ a b => a = b, fun _ _ _ _ _ _ _ _ _ _ h => h⟩
/-- a new object that nothing else knows -/
structure New (H : Hp) (w : Wd) (H' : Hp) (p : Addr) (c : Cell) : Prop where
  f : w.F p = none
  r : p ∉ w.ρ
  c : CellIs K w H' p c
  n : H p = none
@[reducible] def pN : Pr V Cell := ⟨fun H w H' v c => ∃ p, v = .ref p ∧ New K H w H' p c, fun w H w1 H1 w' H' v a l l' ⟨p, e, h⟩ => ⟨p, e, h.f, h.r, h.c, by
  rcases l.back h.n with z | z
  · exact z
  · exact (h.r (mem_up (l.le.trans l') z)).elim⟩⟩
end
section
variable {K : PySem.W.Frag} {W : WX} {α β ν μ : Type} {P : Pr ν α} {P2 : Pr μ β} {w w1 : Wd} {H H1 : Hp} {σ : L2.St} {s : S}
theorem Post.up {r : Res α} {Q : ν → Hp → Prop} (l : Le w H w1 H1) (h : Post K W P w H σ r Q) : Post K W P w1 H1 σ r Q := by
  cases r with
  | ok a s => exact fun w' H' v l' R p => h w' H' v (l.trans l') R (P.mono w H w1 H1 w' H' v a l l'.le p)
  | exc e s => exact fun w' H' l' R => h w' H' (l.trans l') R
  | bad => exact h
theorem Post.bnd {m : M α} {k : α → M β} {Q : ν → Hp → Prop} {Q2 : μ → Hp → Prop} (h : Post K W P2 w H σ (bnd m k s) Q2)
    (f : ∀ a s' w' H' v, Le w H w' H' → RS K w' H' σ s' → P.p H w' H' v a → Post K W P2 w' H' σ (k a s') Q2 → Q v H') : Post K W P w H σ (m s) Q := by
  unfold Fx.bnd at h
  cases e : m s with
  | ok a s' => rw [e] at h; exact fun w' H' v l R p => f a s' w' H' v l R p (h.up l)
  | exc x s' => rw [e] at h; exact h
  | bad => rw [e] at h; exact h
theorem Fol.bnd {t : L2.St → Hp → (ν → Hp → Prop) → Prop} {f : M α} {k : α → M β} {Q2 : μ → Hp → Prop} {Q : ν → Hp → Prop} (h : Fol K W P t f) (R : RS K w H σ s) (p : Post K W P2 w H σ (Fx.bnd f k s) Q2)
    (g : ∀ a s' w' H' v, Le w H w' H' → RS K w' H' σ s' → P.p H w' H' v a → Post K W P2 w' H' σ (k a s') Q2 → Q v H') : t σ H Q := h w H σ s Q R (p.bnd g)
end
end Fx

namespace Fx
open PySem PySem.Spec PyProof.Rows L2
/-! ### reading data -/
def lstOf (s : S) : D → Option (List D)
  | .lst ds => some ds
  | .cell n => match s.vh[n]? with
    | some (.lst ds) => some ds
    | _ => none
  | _ => none
def tupOf : D → Option (List D)
  | .tup ds => some ds
  | _ => none
def dctOf (s : S) : D → Option (List (Key × D))
  | .cell n => match s.vh[n]? with
    | some (.dct ds) => some ds
    | _ => none
  | _ => none
section
variable {K : PySem.W.Frag} {W : WX} {w : Wd} {H : Hp} {σ : L2.St} {s : S} {v : V} {d : D}
theorem RS.list (R : RS K w H σ s) (r : Rep K w v d) {ds : List D} (h : lstOf s d = some ds) : ∃ a vs, v = .ref a ∧ SqL K H a vs ∧ RepL K w vs ds := by
  cases r with
  | lst h1 t =>
    cases h
    exact ⟨_, _, rfl, sqL_up R.sub h1, t⟩
  | cell h1 =>
    obtain ⟨c, e, hc⟩ := R.cellOf h1
    unfold lstOf at h
    simp only [e] at h
    cases c with
    | lst xs => simp at h; subst h; obtain ⟨vs, h2, h3⟩ := hc; exact ⟨_, _, rfl, SqL.of h2, h3⟩
    | dct _ => simp at h
  | _ => simp [lstOf] at h
theorem RS.tuple (R : RS K w H σ s) (r : Rep K w v d) {ds : List D} (h : tupOf d = some ds) : ∃ a vs, v = .ref a ∧ SqT K H a vs ∧ RepL K w vs ds := by
  cases r with
  | tup h1 t =>
    cases h
    exact ⟨_, _, rfl, sqT_up R.sub h1, t⟩
  | _ => simp [tupOf] at h
theorem RS.dict (R : RS K w H σ s) (r : Rep K w v d) {ds : List (Key × D)} (h : dctOf s d = some ds) : ∃ a vs, v = .ref a ∧ H a = some (.dK vs) ∧ RepK K w vs ds := by
  cases r with
  | cell h1 =>
    obtain ⟨c, e, hc⟩ := R.cellOf h1
    unfold dctOf at h
    simp only [e] at h
    cases c with
    | lst xs => simp at h
    | dct _ => simp at h; subst h; obtain ⟨vs, h2, h3⟩ := hc; exact ⟨_, _, rfl, h2, h3⟩
  | _ => simp [dctOf] at h
/-- a new list that will not change -/
theorem RS.newL (R : RS K w H σ s) {p : Addr} {vs : List V} {ds : List D} (hp : H p = none) (r : RepL K w vs ds) :
    Le w H (w.frz p (.lst vs)) (upd H p (.lst vs)) ∧ RS K (w.frz p (.lst vs)) (upd H p (.lst vs)) σ s ∧ Rep K (w.frz p (.lst vs)) (.ref p) (.lst ds) := by
  have l := Le.lay (o := .lst vs) hp (R.fresh hp).1
  exact ⟨l, R.lay hp, .lst (SqL.of upd_same) (r.up l)⟩
theorem RS.newT (R : RS K w H σ s) {p : Addr} {vs : List V} {ds : List D} (hp : H p = none) (r : RepL K w vs ds) :
    Le w H (w.frz p (.tup vs)) (upd H p (.tup vs)) ∧ RS K (w.frz p (.tup vs)) (upd H p (.tup vs)) σ s ∧ Rep K (w.frz p (.tup vs)) (.ref p) (.tup ds) := by
  have l := Le.lay (o := .tup vs) hp (R.fresh hp).1
  exact ⟨l, R.lay hp, .tup (.inl (.inl upd_same)) (r.up l)⟩
/-- a new object, its use still open -/
theorem RS.laid (R : RS K w H σ s) {p : Addr} {o : HO} (hp : H p = none) : RS K w (upd H p o) σ s := by
  have f := R.fresh hp
  refine ⟨fun a q e => ?_, R.len, R.loc, R.cl, R.nd, R.out, fun n a c e1 e2 => (R.cells n a c e1 e2).upW (Wd.le.refl w) (upd_ne (R.ne hp e1))⟩
  rw [upd_ne (ne_of_none e f.1)]; exact R.sub a q e
end
/-! ### the judgements -/
variable {X : Cx} {W : WX}
def DE (X : Cx) (W : WX) (e : Expr) (f : M D) : Prop := ∃ t, PE X e t ∧ Fol X.K W (pD X.K) t f
def DN (X : Cx) (W : WX) (e : Expr) (f : M Cell) : Prop := ∃ t, PE X e t ∧ Fol X.K W (pN X.K) t f
def DT (X : Cx) (W : WX) (e : Expr) (f : M Bool) : Prop := ∃ t, PT X e t ∧ Fol X.K W pB t f
def DA (X : Cx) (W : WX) (es : List Expr) (f : M (List D)) : Prop := ∃ t, PA X es t ∧ Fol X.K W (pL X.K) t f
section
variable {K : PySem.W.Frag} {α ν : Type} {P : Pr ν α} {w : Wd} {σ : L2.St} {s : S} {H : Hp}
theorem Post.here {a : α} {v : ν} {Q : ν → Hp → Prop} (h : Post K W P w H σ (ret a s) Q) (R : RS K w H σ s) (p : P.p H w H v a) : Q v H := h w H v (Le.refl w H) R p
end
/-! ### names, constants -/
def getL (i : Nat) : M D := fun s => match s.loc[i]? with
  | some (some d) => .ok d s
  | _ => .bad
theorem de_var {i : Nat} {e : Expr} (h : PE X e (tVar i)) : DE X W e (getL i) := by
  refine ⟨_, h, fun w H σ s Q R p => ?_⟩
  unfold getL at p
  split at p
  · next d hd =>
    obtain ⟨v, h1, h2⟩ := R.loc i d hd
    exact ⟨v, h1, Post.here p R h2⟩
  · exact p.elim
theorem de_v (i : Nat) {x : Str} {pos : Pos} (hN : X.N[i]? = some x := by rfl) (hv : Vis X.env.scope x := by first | exact Or.inl rfl | exact Or.inr (Or.inl rfl) | exact Or.inr (Or.inr rfl)) (hd : (x == ("__debug__" : Str)) = false := by decide)
    (hcd : (x == ("__classdict__" : Str)) = false := by decide) : DE X W (.Name x pos) (getL i) := de_var (pe_var hN hv hd hcd)
theorem de_c {e : Expr} {v : V} {d : D} (h : PE X e (tC v)) (r : ∀ w, Rep X.K w v d) : DE X W e (ret d) :=
  ⟨_, h, fun w H σ s Q R p => Post.here p R (r w)⟩
theorem de_int {i j pos} : DE X W (.Constant (.int i) j pos) (ret (.int i)) := de_c pe_int fun _ => .int i
theorem de_bl {b j pos} : DE X W (.Constant (.bool b) j pos) (ret (.bl b)) := de_c pe_bl fun _ => .bl b
theorem de_non {j pos} : DE X W (.Constant .none j pos) (ret .non) := de_c pe_non fun _ => .non
theorem de_str {x j pos} : DE X W (.Constant (.str x) j pos) (ret (.str x)) := de_c pe_str fun _ => .str x
/-- a module's constant -/
theorem de_gI {x : Str} {i : Int} {t : Tok} {pos : Pos} (hg : Gl X x) (hm : X.mg x = some (.int i t)) (hd : (x == ("__debug__" : Str)) = false := by decide) : DE X W (.Name x pos) (ret (.int i)) :=
  de_c (pe_glob (v := .int i) hg hm ⟨t, rfl⟩ hd) fun _ => .int i
theorem de_gS {x z : Str} {t : Tok} {pos : Pos} (hg : Gl X x) (hm : X.mg x = some (.str z t)) (hd : (x == ("__debug__" : Str)) = false := by decide) : DE X W (.Name x pos) (ret (.str z)) :=
  de_c (pe_glob (v := .str z) hg hm ⟨t, rfl⟩ hd) fun _ => .str z
/-! ### operators -/
def ROp (X : Cx) (r : R2) (g : D → D → M D) : Prop := ∀ (W : WX) w H σ s x y d e Q, RS X.K w H σ s → Rep X.K w x d → Rep X.K w y e → Post X.K W (pD X.K) w H σ (g d e s) Q → r x y H Q
theorem de_op {op : Operator} {r : R2} {g : D → D → M D} {a b : Expr} {fa fb : M D} {pos : Pos} (ho : OpR X (binaryOp op) r) (hr : ROp X r g) (ha : DE X W a fa) (hb : DE X W b fb) :
    DE X W (.BinOp a op b pos) (bnd fa fun d => bnd fb fun e => g d e) := by
  obtain ⟨ta, pa, ra⟩ := ha
  obtain ⟨tb, pb, rb⟩ := hb
  refine ⟨tOp r ta tb, pe_op ho pa pb, fun w H σ s Q R p => ?_⟩
  refine ra.bnd R p fun d s1 w1 H1 v1 l1 R1 r1 p1 => ?_
  refine rb.bnd R1 p1 fun e s2 w2 H2 v2 l2 R2 r2 p2 => ?_
  exact hr W w2 H2 σ s2 v1 v2 d e Q R2 (Rep.up l2 r1) r2 p2
theorem de_cmp {op : CmpOp} {r : R2} {g : D → D → M D} {a b : Expr} {fa fb : M D} {pos : Pos} (ho : OpR X (compareOp op) r) (hr : ROp X r g) (ha : DE X W a fa) (hb : DE X W b fb) (hm : behindInMarks op b = false := by first | exact nobehind _ (by decide) (by decide) | rfl) :
    DE X W (.Compare a [op] [b] pos) (bnd fa fun d => bnd fb fun e => g d e) := by
  obtain ⟨ta, pa, ra⟩ := ha
  obtain ⟨tb, pb, rb⟩ := hb
  refine ⟨tOp r ta tb, pe_cmpR ho pa pb hm, fun w H σ s Q R p => ?_⟩
  refine ra.bnd R p fun d s1 w1 H1 v1 l1 R1 r1 p1 => ?_
  refine rb.bnd R1 p1 fun e s2 w2 H2 v2 l2 R2 r2 p2 => ?_
  exact hr W w2 H2 σ s2 v1 v2 d e Q R2 (Rep.up l2 r1) r2 p2
def asB : D → M Bool
  | .bl b => ret b
  | _ => fail
theorem asB_fol {K : PySem.W.Frag} {w : Wd} {H : Hp} {σ : L2.St} {s : S} {v : V} {d : D} {Q : Bool → Hp → Prop} (R : RS K w H σ s) (r : Rep K w v d) (p : Post K W pB w H σ (asB d s) Q) : ∃ k, v = .bl k ∧ Q k H := by
  cases r with
  | bl b => exact ⟨b, rfl, Post.here p R rfl⟩
  | _ => exact p.elim
theorem dt_cmp {op : CmpOp} {r : R2} {g : D → D → M D} {a b : Expr} {fa fb : M D} {pos : Pos} (ho : OpR X (compareOp op) r) (hr : ROp X r g) (ha : DE X W a fa) (hb : DE X W b fb) (hm : behindInMarks op b = false := by first | exact nobehind _ (by decide) (by decide) | rfl) :
    DT X W (.Compare a [op] [b] pos) (bnd (bnd fa fun d => bnd fb fun e => g d e) asB) := by
  obtain ⟨ta, pa, ra⟩ := ha
  obtain ⟨tb, pb, rb⟩ := hb
  have h := de_cmp (pos := pos) ho hr ⟨ta, pa, ra⟩ ⟨tb, pb, rb⟩ hm
  refine ⟨tTest (tOp r ta tb), pt_cmpR ho pa pb hm, fun w H σ s Q R p => ?_⟩
  have key : Fol X.K W (pD X.K) (tOp r ta tb) (bnd fa fun d => bnd fb fun e => g d e) := fun w H σ s Q R p => by
    refine ra.bnd R p fun d s1 w1 H1 v1 l1 R1 r1 p1 => ?_
    refine rb.bnd R1 p1 fun e s2 w2 H2 v2 l2 R2 r2 p2 => ?_
    exact hr W w2 H2 σ s2 v1 v2 d e Q R2 (Rep.up l2 r1) r2 p2
  exact key.bnd R p fun d s1 w1 H1 v1 l1 R1 r1 p1 => asB_fol R1 r1 p1
/-- an expression that gives True or False, as a test -/
theorem dt_val {e : Expr} {f : M D} (h : DE X W e f) (he : ∀ whole, isTrue e X.env whole = (do let v ← whole; standAt e.pos; holding [v] (truthy v)) := by intro _; rfl) : DT X W e (bnd f asB) := by
  obtain ⟨t, p, r⟩ := h
  exact ⟨tB t, pt_val p he, fun w H σ s Q R p => r.bnd R p fun d s1 w1 H1 v1 l1 R1 r1 p1 => asB_fol R1 r1 p1⟩
/-! ints -/
def i2 (g : Int → Int → D) : D → D → M D
  | .int i, .int j => ret (g i j)
  | _, _ => fail
def i2c (c : Int → Int → Bool) (g : Int → Int → D) : D → D → M D
  | .int i, .int j => if c i j = true then ret (g i j) else fail
  | _, _ => fail
theorem rop_i2 {g : Int → Int → D} {g' : Int → Int → V} (h : ∀ w i j, Rep X.K w (g' i j) (g i j)) : ROp X (rI0 g') (i2 g) := fun W w H σ s x y d e Q R rx ry p => by
  cases rx with
  | int i =>
    cases ry with
    | int j => exact ⟨i, j, rfl, rfl, Post.here p R (h w i j)⟩
    | _ => exact p.elim
  | _ => exact p.elim
theorem rop_i2c {C : Int → Int → Prop} {c : Int → Int → Bool} {g : Int → Int → D} {g' : Int → Int → V} (hc : ∀ i j, c i j = true → C i j) (h : ∀ w i j, Rep X.K w (g' i j) (g i j)) : ROp X (rI C g') (i2c c g) := fun W w H σ s x y d e Q R rx ry p => by
  cases rx with
  | int i =>
    cases ry with
    | int j =>
      unfold i2c at p
      dsimp only at p
      split at p
      · next k => exact ⟨i, j, rfl, rfl, hc i j k, Post.here p R (h w i j)⟩
      · exact p.elim
    | _ => exact p.elim
  | _ => exact p.elim
theorem ROp.or {r1 r2 : R2} {g : D → D → M D} {g1 g2 : D → D → M D} (h1 : ROp X r1 g1) (h2 : ROp X r2 g2) (h : ∀ d e, g d e = g1 d e ∨ g d e = g2 d e) : ROp X (fun x y H Q => r1 x y H Q ∨ r2 x y H Q) g := fun W w H σ s x y d e Q R rx ry p => by
  rcases h d e with q | q
  · rw [q] at p; exact .inl (h1 W w H σ s x y d e Q R rx ry p)
  · rw [q] at p; exact .inr (h2 W w H σ s x y d e Q R rx ry p)
theorem opr_or {f : Value → Value → Sem Value} {r1 r2 : R2} (h1 : OpR X f r1) (h2 : OpR X f r2) : OpR X f (fun x y H Q => r1 x y H Q ∨ r2 x y H Q) := by
  intro pins s σ H x y v u Q I rx ry h
  rcases h with h | h
  · exact h1 pins s σ H x y v u Q I rx ry h
  · exact h2 pins s σ H x y v u Q I rx ry h
/-- * of two factors of together less than a hundred million bits -/
def CMulX (i j : Int) : Prop := i.natAbs.log2 + j.natAbs.log2 < 100000000
theorem CMulX.fits {i j : Int} (h : CMulX i j) : IntMulOk i j := by
  have b : ∀ x : Int, Builtin.Int.intBits x ≤ x.natAbs.log2 + 1 := fun x => by
    unfold Builtin.Int.intBits
    split <;> omega
  have b1 := b i
  have b2 := b j
  have h3 : i.natAbs.log2 + j.natAbs.log2 < 100000000 := h
  have line : bitsLine = 134217728 := by decide
  unfold IntMulOk
  intro z
  rw [Bool.and_eq_true] at z
  have y := z.2
  unfold Builtin.Int.intTooBig at y
  have x := of_decide_eq_true y
  rw [line] at x
  omega
theorem op_mulX : OpR X (binaryOp .Mult) (rI CMulX fun i j => .int (i * j)) := opI fun _ _ _ _ _ _ _ hc q => mul_int q hc.fits
def subM : D → D → M D := i2 fun i j => .int (i - j)
def mulM : D → D → M D := i2c (fun i j => decide (i.natAbs.log2 + j.natAbs.log2 < 100000000)) fun i j => .int (i * j)
def divM : D → D → M D := i2c (fun _ j => decide (0 < j) && decide (j.natAbs.log2 < 9000)) fun i j => .int (i / j)
def modM : D → D → M D := i2c (fun _ j => decide (0 < j)) fun i j => .int (i % j)
def powM : D → D → M D := i2c (fun i j => decide (0 ≤ j) && (decide (j ≤ 1000000) && decide (i.natAbs < 2 ^ 64))) fun i j => .int (i ^ j.toNat)
def shlM : D → D → M D := i2c (fun i j => decide (0 ≤ j) && (decide (j ≤ 1000000) && decide (i.natAbs < 2 ^ 64))) fun i j => .int (i * 2 ^ j.toNat)
def shrM : D → D → M D := i2c (fun _ j => decide (0 ≤ j)) fun i j => .int (i / 2 ^ j.toNat)
def andM : D → D → M D := i2 fun i j => .int (Builtin.bitAnd i j)
def orM : D → D → M D := i2 fun i j => .int (Builtin.bitOr i j)
def xorM : D → D → M D := i2 fun i j => .int (Builtin.bitXor i j)
theorem rop_sub : ROp X (rI0 fun i j => .int (i - j)) subM := rop_i2 fun _ _ _ => .int _
theorem rop_mul : ROp X (rI CMulX fun i j => .int (i * j)) mulM := rop_i2c (fun i j h => (of_decide_eq_true h : i.natAbs.log2 + j.natAbs.log2 < 100000000)) fun _ _ _ => .int _
theorem rop_div : ROp X (rI CDivW fun i j => .int (i / j)) divM := rop_i2c (fun i j h => by
  rw [Bool.and_eq_true, decide_eq_true_eq, decide_eq_true_eq] at h; exact h) fun _ _ _ => .int _
theorem rop_mod : ROp X (rI (fun _ j => 0 < j) fun i j => .int (i % j)) modM := rop_i2c (fun i j h => of_decide_eq_true h) fun _ _ _ => .int _
theorem rop_pow : ROp X (rI CPow fun i j => .int (i ^ j.toNat)) powM := rop_i2c (fun i j h => by
  rw [Bool.and_eq_true, Bool.and_eq_true, decide_eq_true_eq, decide_eq_true_eq, decide_eq_true_eq] at h; exact h) fun _ _ _ => .int _
theorem rop_shl : ROp X (rI CPow fun i j => .int (i * 2 ^ j.toNat)) shlM := rop_i2c (fun i j h => by
  rw [Bool.and_eq_true, Bool.and_eq_true, decide_eq_true_eq, decide_eq_true_eq, decide_eq_true_eq] at h; exact h) fun _ _ _ => .int _
theorem rop_shr : ROp X (rI (fun _ j => 0 ≤ j) fun i j => .int (i / 2 ^ j.toNat)) shrM := rop_i2c (fun i j h => of_decide_eq_true h) fun _ _ _ => .int _
theorem rop_and : ROp X (rI0 fun i j => .int (Builtin.bitAnd i j)) andM := rop_i2 fun _ _ _ => .int _
theorem rop_or : ROp X (rI0 fun i j => .int (Builtin.bitOr i j)) orM := rop_i2 fun _ _ _ => .int _
theorem rop_xor : ROp X (rI0 fun i j => .int (Builtin.bitXor i j)) xorM := rop_i2 fun _ _ _ => .int _
section
variable {a b : Expr} {fa fb : M D} {pos : Pos}
theorem de_sub (ha : DE X W a fa) (hb : DE X W b fb) : DE X W (.BinOp a .Sub b pos) (bnd fa fun d => bnd fb fun e => subM d e) := de_op op_sub rop_sub ha hb
theorem de_mul (ha : DE X W a fa) (hb : DE X W b fb) : DE X W (.BinOp a .Mult b pos) (bnd fa fun d => bnd fb fun e => mulM d e) := de_op op_mulX rop_mul ha hb
theorem de_div (ha : DE X W a fa) (hb : DE X W b fb) : DE X W (.BinOp a .FloorDiv b pos) (bnd fa fun d => bnd fb fun e => divM d e) := de_op op_fdivW rop_div ha hb
theorem de_mod (ha : DE X W a fa) (hb : DE X W b fb) : DE X W (.BinOp a .Mod b pos) (bnd fa fun d => bnd fb fun e => modM d e) := de_op op_mod rop_mod ha hb
theorem de_pow (ha : DE X W a fa) (hb : DE X W b fb) : DE X W (.BinOp a .Pow b pos) (bnd fa fun d => bnd fb fun e => powM d e) := de_op op_pow rop_pow ha hb
theorem de_shl (ha : DE X W a fa) (hb : DE X W b fb) : DE X W (.BinOp a .LShift b pos) (bnd fa fun d => bnd fb fun e => shlM d e) := de_op op_shl rop_shl ha hb
theorem de_shr (ha : DE X W a fa) (hb : DE X W b fb) : DE X W (.BinOp a .RShift b pos) (bnd fa fun d => bnd fb fun e => shrM d e) := de_op op_shr rop_shr ha hb
theorem de_band (ha : DE X W a fa) (hb : DE X W b fb) : DE X W (.BinOp a .BitAnd b pos) (bnd fa fun d => bnd fb fun e => andM d e) := de_op op_and rop_and ha hb
theorem de_bxor (ha : DE X W a fa) (hb : DE X W b fb) : DE X W (.BinOp a .BitXor b pos) (bnd fa fun d => bnd fb fun e => xorM d e) := de_op op_xor rop_xor ha hb
theorem de_bor (ha : DE X W a fa) (hb : DE X W b fb) : DE X W (.BinOp a .BitOr b pos) (bnd fa fun d => bnd fb fun e => orM d e) := de_op op_or rop_or ha hb
end
/-! ### and, or, not, if else -/
section
variable {a b : Expr} {rest : List Expr} {fa fb : M D} {ta tb : M Bool} {pos : Pos}
def andT (p q : M Bool) : M Bool := bnd p fun c => if c = true then q else ret false
def orT (p q : M Bool) : M Bool := bnd p fun c => if c = true then ret true else q
def notT (p : M Bool) : M Bool := bnd p fun c => ret (!c)
def andV (p q : M D) : M D := bnd p fun d => bnd (asB d) fun c => if c = true then q else ret (.bl false)
def orV (p q : M D) : M D := bnd p fun d => bnd (asB d) fun c => if c = true then ret (.bl true) else q
def notV (p : M D) : M D := bnd p fun d => bnd (asB d) fun c => ret (.bl (!c))
def iteM (c : M Bool) (p q : M D) : M D := bnd c fun b => if b = true then p else q
/-- and, or within a test -/
def DW (X : Cx) (W : WX) (e : Expr) (f : M Bool) : Prop := ∃ t, PW X e t ∧ Fol X.K W pB t f
theorem dw_and1 (h : DT X W a ta) : DW X W (.BoolOp .And [a] pos) ta := let ⟨t, p, r⟩ := h; ⟨t, pw_and1 p, r⟩
theorem dw_or1 (h : DT X W a ta) : DW X W (.BoolOp .Or [a] pos) ta := let ⟨t, p, r⟩ := h; ⟨t, pw_or1 p, r⟩
theorem dw_and (h : DT X W a ta) (k : DW X W (.BoolOp .And (b :: rest) pos) tb) : DW X W (.BoolOp .And (a :: b :: rest) pos) (andT ta tb) := by
  obtain ⟨t, p, r⟩ := h
  obtain ⟨u, q, k⟩ := k
  refine ⟨_, pw_and p q, fun w H σ s Q R z => ?_⟩
  refine r.bnd R z fun c s1 w1 H1 v1 l1 R1 r1 p1 => ?_
  cases r1
  cases c with
  | true => exact k w1 H1 σ s1 Q R1 p1
  | false => exact Post.here p1 R1 rfl
theorem dw_or (h : DT X W a ta) (k : DW X W (.BoolOp .Or (b :: rest) pos) tb) : DW X W (.BoolOp .Or (a :: b :: rest) pos) (orT ta tb) := by
  obtain ⟨t, p, r⟩ := h
  obtain ⟨u, q, k⟩ := k
  refine ⟨_, pw_or p q, fun w H σ s Q R z => ?_⟩
  refine r.bnd R z fun c s1 w1 H1 v1 l1 R1 r1 p1 => ?_
  cases r1
  cases c with
  | false => exact k w1 H1 σ s1 Q R1 p1
  | true => exact Post.here p1 R1 rfl
theorem dt_w {e : Expr} {f : M Bool} (h : DW X W e f) : DT X W e f := let ⟨t, p, r⟩ := h; ⟨t, p.pt, r⟩
theorem dt_not (h : DT X W a ta) : DT X W (.UnaryOp .Not a pos) (notT ta) := by
  obtain ⟨t, p, r⟩ := h
  refine ⟨_, pt_not p, fun w H σ s Q R z => ?_⟩
  refine r.bnd R z fun c s1 w1 H1 v1 l1 R1 r1 p1 => ?_
  cases r1
  exact Post.here p1 R1 rfl
theorem asB_bnd {K : PySem.W.Frag} {α ν : Type} {P : Pr ν α} {w : Wd} {H : Hp} {σ : L2.St} {s : S} {v : V} {d : D} {k : Bool → M α} {Q : ν → Hp → Prop} (r : Rep K w v d) (p : Post K W P w H σ (bnd (asB d) k s) Q) : ∃ c, v = .bl c ∧ Post K W P w H σ (k c s) Q := by
  cases r with
  | bl b => exact ⟨b, rfl, p⟩
  | _ => exact p.elim
theorem de_one {op} (h : DE X W a fa) : DE X W (.BoolOp op [a] pos) fa := let ⟨t, p, r⟩ := h; ⟨t, pe_one p, r⟩
theorem de_and (h : DE X W a fa) (k : DE X W (.BoolOp .And (b :: rest) pos) fb) : DE X W (.BoolOp .And (a :: b :: rest) pos) (andV fa fb) := by
  obtain ⟨t, p, r⟩ := h
  obtain ⟨u, q, k⟩ := k
  refine ⟨_, pe_and p q, fun w H σ s Q R z => ?_⟩
  refine r.bnd R z fun d s1 w1 H1 v1 l1 R1 r1 p1 => ?_
  obtain ⟨c, e, p2⟩ := asB_bnd r1 p1
  refine ⟨c, e, ?_⟩
  cases c with
  | true => exact k w1 H1 σ s1 Q R1 p2
  | false => exact Post.here p2 R1 (Rep.bl false)
theorem de_or (h : DE X W a fa) (k : DE X W (.BoolOp .Or (b :: rest) pos) fb) : DE X W (.BoolOp .Or (a :: b :: rest) pos) (orV fa fb) := by
  obtain ⟨t, p, r⟩ := h
  obtain ⟨u, q, k⟩ := k
  refine ⟨_, pe_or p q, fun w H σ s Q R z => ?_⟩
  refine r.bnd R z fun d s1 w1 H1 v1 l1 R1 r1 p1 => ?_
  obtain ⟨c, e, p2⟩ := asB_bnd r1 p1
  refine ⟨c, e, ?_⟩
  cases c with
  | false => exact k w1 H1 σ s1 Q R1 p2
  | true => exact Post.here p2 R1 (Rep.bl true)
theorem de_not (h : DE X W a fa) : DE X W (.UnaryOp .Not a pos) (notV fa) := by
  obtain ⟨t, p, r⟩ := h
  refine ⟨_, pe_not p, fun w H σ s Q R z => ?_⟩
  refine r.bnd R z fun d s1 w1 H1 v1 l1 R1 r1 p1 => ?_
  obtain ⟨c, e, p2⟩ := asB_bnd r1 p1
  exact ⟨c, e, Post.here p2 R1 (Rep.bl (!c))⟩
theorem de_ite {c : Expr} (h : DT X W c ta) (ha : DE X W a fa) (hb : DE X W b fb) : DE X W (.IfExp c a b pos) (iteM ta fa fb) := by
  obtain ⟨t, p, r⟩ := h
  obtain ⟨u, pa, ra⟩ := ha
  obtain ⟨u', pb, rb⟩ := hb
  refine ⟨_, pe_ifExp p pa pb, fun w H σ s Q R z => ?_⟩
  refine r.bnd R z fun c s1 w1 H1 v1 l1 R1 r1 p1 => ?_
  cases r1
  cases c with
  | true => exact ra w1 H1 σ s1 Q R1 p1
  | false => exact rb w1 H1 σ s1 Q R1 p1
end
/-! ### lists of arguments, displays -/
section
variable {a : Expr} {es : List Expr} {fa : M D} {fs : M (List D)} {pos : Pos}
def consM (p : M D) (q : M (List D)) : M (List D) := bnd p fun d => bnd q fun ds => ret (d :: ds)
theorem da_nil : DA X W [] (ret []) := ⟨_, pa_nil, fun w H σ s Q R p => Post.here p R (RepL.nil (K := X.K) (w := w))⟩
theorem da_cons (h : DE X W a fa) (k : DA X W es fs) (hst : starEach (a :: es) X.env = (false, eval a X.env) :: starEach es X.env := by rfl) : DA X W (a :: es) (consM fa fs) := by
  obtain ⟨t, p, r⟩ := h
  obtain ⟨u, q, k⟩ := k
  refine ⟨_, pa_cons p q hst, fun w H σ s Q R z => ?_⟩
  refine r.bnd R z fun d s1 w1 H1 v1 l1 R1 r1 p1 => ?_
  refine k.bnd R1 p1 fun ds s2 w2 H2 v2 l2 R2 r2 p2 => ?_
  exact Post.here p2 R2 (RepL.cons (Rep.up l2 r1) r2)
def lenOk (n : Nat) : Bool := decide (n ≤ sizeLine)
def tupM (q : M (List D)) : M D := bnd q fun ds => if lenOk ds.length = true then ret (.tup ds) else fail
def lstN (q : M (List D)) : M Cell := bnd q fun ds => if lenOk ds.length = true then ret (.lst ds) else fail
theorem de_tup {x1} (h : DA X W es fs) : DE X W (.Tuple es x1 pos) (tupM fs) := by
  obtain ⟨t, p, r⟩ := h
  refine ⟨_, pe_tup p, fun w H σ s Q R z => ?_⟩
  refine r.bnd R z fun ds s1 w1 H1 v1 l1 R1 r1 p1 => ?_
  split at p1
  · next k =>
    refine ⟨by rw [RepL.length r1]; exact of_decide_eq_true k, fun q hq => ?_⟩
    obtain ⟨l2, R2, r2⟩ := R1.newT hq r1
    exact p1 _ _ _ l2 R2 r2
  · exact p1.elim
theorem dn_lst (h : DA X W es fs) : DN X W (.List es pos) (lstN fs) := by
  obtain ⟨t, p, r⟩ := h
  refine ⟨_, pe_lst p, fun w H σ s Q R z => ?_⟩
  refine r.bnd R z fun ds s1 w1 H1 v1 l1 R1 r1 p1 => ?_
  split at p1
  · next k =>
    refine ⟨by rw [RepL.length r1]; exact of_decide_eq_true k, fun q hq => ?_⟩
    exact p1 w1 _ _ (Le.laid hq) (R1.laid hq) ⟨q, rfl, (R1.fresh hq).1, (R1.fresh hq).2, ⟨_, upd_same, r1⟩, hq⟩
  · exact p1.elim
/-- a new list, never changed from here on -/
def frzM (m : M Cell) : M D := bnd m fun c => match c with
  | .lst ds => ret (.lst ds)
  | .dct _ => fail
/-- a new list or dict that stands by itself -/
def ownM (m : M Cell) : M D := bnd m fun c s => .ok (.cell s.vh.length) { s with vh := s.vh ++ [c] }
theorem RS.frz {K : PySem.W.Frag} {w : Wd} {H : Hp} {σ : L2.St} {s : S} {p : Addr} {o : HO} (R : RS K w H σ s) (h : H p = some o) (hf : w.F p = none) (hr : p ∉ w.ρ) : RS K (w.frz p o) H σ s := by
  have le := Wd.frz_le (o := o) hf
  refine ⟨fun a q e => ?_, R.len, fun i d e => ?_, R.cl, R.nd, fun a ha => ?_, fun n a c e1 e2 => ?_⟩
  · have e : upd w.F p o a = some q := e
    by_cases hh : a = p
    · subst hh; rw [upd_same] at e; cases e; exact h
    · rw [upd_ne hh] at e; exact R.sub a q e
  · obtain ⟨v, h1, h2⟩ := R.loc i d e
    exact ⟨v, h1, h2.upW le⟩
  · show upd w.F p o a = none
    rw [upd_ne (fun (e : a = p) => hr (e ▸ ha))]; exact R.out a ha
  · exact (R.cells n a c e1 e2).upW le rfl
theorem frz_fol {t : TE} {f : M Cell} (r : Fol X.K W (pN X.K) t f) : Fol X.K W (pD X.K) t (frzM f) := fun w H σ s Q R z => by
  refine r w H σ s Q R ?_
  unfold frzM bnd at z
  cases hf : f s with
  | bad => rw [hf] at z; exact z.elim
  | exc x s1 => rw [hf] at z; exact z
  | ok c s1 =>
    rw [hf] at z
    rintro w1 H1 _ l1 R1 ⟨q, rfl, N⟩
    cases c with
    | dct _ => exact z.elim
    | lst ds =>
      obtain ⟨vs, h1, h2⟩ := N.c
      exact z _ _ _ (l1.frz N.n N.f) (R1.frz h1 N.f N.r) (.lst (SqL.of upd_same) (h2.upW (Wd.frz_le N.f)))
theorem own_fol {t : TE} {f : M Cell} (r : Fol X.K W (pN X.K) t f) : Fol X.K W (pD X.K) t (ownM f) := fun w H σ s Q R z => by
  refine r w H σ s Q R ?_
  unfold ownM bnd at z
  cases hf : f s with
  | bad => rw [hf] at z; exact z.elim
  | exc x s1 => rw [hf] at z; exact z
  | ok c s1 =>
    rw [hf] at z
    rintro w1 H1 _ l1 R1 ⟨q, rfl, N⟩
    refine z _ _ _ (l1.own N.n) (R1.addCell N.f N.r N.c) (.cell ?_)
    show (w1.ρ ++ [q])[s1.vh.length]? = some q
    rw [← R1.cl, List.getElem?_append_right (Nat.le_refl _), Nat.sub_self]
    rfl
theorem de_frz {f : M Cell} (h : DN X W a f) : DE X W a (frzM f) := let ⟨t, p, r⟩ := h; ⟨t, p, frz_fol r⟩
theorem de_own {f : M Cell} (h : DN X W a f) : DE X W a (ownM f) := let ⟨t, p, r⟩ := h; ⟨t, p, own_fol r⟩
end
end Fx

namespace Fx
open PySem PySem.Spec PyProof.Rows L2
open Classical
/-! ### a reading made of f itself -/
def tM {α ν : Type} (K : PySem.W.Frag) (W : WX) (P : Pr ν α) (f : M α) : L2.St → Hp → (ν → Hp → Prop) → Prop := fun σ H Q => ∃ w s, RS K w H σ s ∧ Post K W P w H σ (f s) Q
theorem tM_fol {α ν : Type} {K : PySem.W.Frag} {W : WX} {P : Pr ν α} {f : M α} : Fol K W P (tM K W P f) f := fun w H σ s Q R p => ⟨w, s, R, p⟩
variable {X : Cx} {W : WX}
theorem DE.pe {e : Expr} {f : M D} (h : DE X W e f) : PE X e (tM X.K W (pD X.K) f) := by
  obtain ⟨t, p, r⟩ := h
  exact ⟨fun pins s σ H Q I ⟨w, z, R, q⟩ => p.run pins s σ H Q I (r w H σ z Q R q)⟩
theorem DT.pt {e : Expr} {f : M Bool} (h : DT X W e f) : PT X e (tM X.K W pB f) := by
  obtain ⟨t, p, r⟩ := h
  exact ⟨fun pins s σ H Q I ⟨w, z, R, q⟩ => p.run pins s σ H Q I (r w H σ z Q R q)⟩
/-! ### statements -/
inductive Out where
  | nx | brk | cnt | rt (d : D)
section
variable (K : PySem.W.Frag) (W : WX)
def PostS (w : Wd) (H : Hp) (r : Res Out) (D : Ends) : Prop := match r with
  | .ok .nx s => ∀ w' H' σ', Le w H w' H' → RS K w' H' σ' s → D.nx σ' H'
  | .ok .brk s => ∀ w' H' σ', Le w H w' H' → RS K w' H' σ' s → D.bk σ' H'
  | .ok .cnt s => ∀ w' H' σ', Le w H w' H' → RS K w' H' σ' s → D.ct σ' H'
  | .ok (.rt d) s => ∀ w' H' σ' v, Le w H w' H' → RS K w' H' σ' s → Rep K w' v d → D.rt v H'
  | .exc e s => ∀ w' H' σ', Le w H w' H' → RS K w' H' σ' s → W e w' H' σ'
  | .bad => False
def FolS (t : TS) (f : M Out) : Prop := ∀ w H σ s D, RS K w H σ s → PostS K W w H (f s) D → t D σ H
end
section
variable {K : PySem.W.Frag} {α ν : Type} {P : Pr ν α} {w w1 : Wd} {σ : L2.St} {s : S} {H : Hp} {D : Ends}
theorem PostS.up {H1 : Hp} {r : Res Out} (l : Le w H w1 H1) (h : PostS K W w H r D) : PostS K W w1 H1 r D := by
  cases r with
  | ok a s =>
    cases a with
    | rt d => exact fun w' H' σ' v l' R r => h w' H' σ' v (l.trans l') R r
    | _ => exact fun w' H' σ' l' R => h w' H' σ' (l.trans l') R
  | exc e s => exact fun w' H' σ' l' R => h w' H' σ' (l.trans l') R
  | bad => exact h
theorem PostS.bnd {m : M α} {k : α → M Out} {Q : ν → Hp → Prop} (h : PostS K W w H (Fx.bnd m k s) D) (f : ∀ a s' w' H' v, Le w H w' H' → RS K w' H' σ s' → P.p H w' H' v a → PostS K W w' H' (k a s') D → Q v H') : Post K W P w H σ (m s) Q := by
  unfold Fx.bnd at h
  cases e : m s with
  | ok a s' => rw [e] at h; exact fun w' H' v l R p => f a s' w' H' v l R p (h.up l)
  | exc x s' => rw [e] at h; exact fun w' H' l R => h w' H' σ l R
  | bad => rw [e] at h; exact h
theorem Fol.bndS {t : L2.St → Hp → (ν → Hp → Prop) → Prop} {f : M α} {k : α → M Out} {Q : ν → Hp → Prop} (h : Fol K W P t f) (R : RS K w H σ s) (p : PostS K W w H (Fx.bnd f k s) D)
    (g : ∀ a s' w' H' v, Le w H w' H' → RS K w' H' σ s' → P.p H w' H' v a → PostS K W w' H' (k a s') D → Q v H') : t σ H Q := h w H σ s Q R (p.bnd g)
theorem PostS.nx (h : PostS K W w H (ret .nx s) D) (R : RS K w H σ s) : D.nx σ H := h w H σ (Le.refl w H) R
end
def DS (X : Cx) (W : WX) (st : Stmt) (f : M Out) : Prop := ∃ t, PS X st t ∧ FolS X.K W t f
def DSs (X : Cx) (W : WX) (sts : List Stmt) (f : M Out) : Prop := ∃ t, PSs X sts t ∧ FolS X.K W t f
def seqM (p q : M Out) : M Out := fun s => match p s with
  | .ok .nx s' => q s'
  | r => r
section
variable {st : Stmt} {rest : List Stmt} {e c : Expr} {f g : M Out} {fe : M D} {fc : M Bool} {pos : Pos}
theorem dss_nil : DSs X W [] (ret .nx) := ⟨_, pss_nil, fun w H σ s D R p => p.nx R⟩
theorem dss_cons (h : DS X W st f) (k : DSs X W rest g) : DSs X W (st :: rest) (seqM f g) := by
  obtain ⟨t, p, r⟩ := h
  obtain ⟨u, q, k⟩ := k
  refine ⟨_, pss_cons p q, fun w H σ s D R z => ?_⟩
  refine r w H σ s { D with nx := u D } R ?_
  unfold seqM at z
  cases hf : f s with
  | ok a s' =>
    rw [hf] at z
    cases a with
    | nx => exact fun w' H' σ' l R' => k w' H' σ' s' D R' (z.up l)
    | brk => exact z
    | cnt => exact z
    | rt d => exact z
  | exc x s' => rw [hf] at z; exact z
  | bad => rw [hf] at z; exact z
theorem dss_one (h : DS X W st f) : DSs X W [st] f := let ⟨t, p, r⟩ := h; ⟨t, pss_one p, r⟩
theorem ds_pass : DS X W (.Pass pos) (ret .nx) := ⟨_, ps_pass, fun w H σ s D R p => p.nx R⟩
theorem ds_doc {x j pos'} : DS X W (.Expr (.Constant (.str x) j pos) pos') (ret .nx) := ⟨_, ps_doc, fun w H σ s D R p => p.nx R⟩
theorem ds_break : DS X W (.Break pos) (ret .brk) := ⟨_, ps_break, fun w H σ s D R p => p w H σ (Le.refl w H) R⟩
theorem ds_continue : DS X W (.Continue pos) (ret .cnt) := ⟨_, ps_continue, fun w H σ s D R p => p w H σ (Le.refl w H) R⟩
def retM (p : M D) : M Out := bnd p fun d => ret (.rt d)
def dropM (p : M D) : M Out := bnd p fun _ => ret .nx
def ifM (c : M Bool) (p q : M Out) : M Out := bnd c fun b => if b = true then p else q
theorem ds_ret (h : DE X W e fe) : DS X W (.Return (some e) pos) (retM fe) := by
  obtain ⟨t, p, r⟩ := h
  refine ⟨_, ps_ret p, fun w H σ s D R z => ?_⟩
  exact r.bndS R z fun d s1 w1 H1 v1 l1 R1 r1 p1 => p1 w1 H1 σ v1 (Le.refl w1 H1) R1 r1
theorem ds_retN : DS X W (.Return none pos) (ret (.rt .non)) := ⟨_, ps_retN, fun w H σ s D R p => p w H σ .non (Le.refl w H) R .non⟩
theorem ds_expr (h : DE X W e fe) (hs : swapsWith e none pos.line X.env = pure false := by rfl) : DS X W (.Expr e pos) (dropM fe) := by
  obtain ⟨t, p, r⟩ := h
  refine ⟨_, ps_expr p hs, fun w H σ s D R z => ?_⟩
  exact r.bndS R z fun d s1 w1 H1 v1 l1 R1 r1 p1 => p1.nx R1
theorem ds_if {a b : List Stmt} (h : DT X W c fc) (ha : DSs X W a f) (hb : DSs X W b g) : DS X W (.If c a b pos) (ifM fc f g) := by
  obtain ⟨t, p, r⟩ := h
  obtain ⟨u, q, k⟩ := ha
  obtain ⟨u', q', k'⟩ := hb
  refine ⟨_, ps_if p q q', fun w H σ s D R z => ?_⟩
  refine r.bndS R z fun d s1 w1 H1 v1 l1 R1 r1 p1 => ?_
  cases r1
  cases d with
  | true => exact k w1 H1 σ s1 D R1 p1
  | false => exact k' w1 H1 σ s1 D R1 p1
/-! targets -/
def setL (i : Nat) (d : D) : M Out := fun s => .ok .nx { s with loc := s.loc.set i (some d) }
def PostG (K : PySem.W.Frag) (w : Wd) (H : Hp) (r : Res Out) (Q : L2.St → Hp → Prop) : Prop := match r with
  | .ok .nx s => ∀ w' H' σ', Le w H w' H' → RS K w' H' σ' s → Q σ' H'
  | _ => False
def DG (X : Cx) (target : Expr) (t : D → M Out) : Prop := ∃ g, PG X target g ∧ ∀ w H σ s v d Q, RS X.K w H σ s → Rep X.K w v d → PostG X.K w H (t d s) Q → g v σ H Q
theorem dg_name {i : Nat} {x : Str} (hN : X.N.Nodup) (hi : X.N[i]? = some x := by rfl) (hx : Loc X.env.scope x := by first | exact Or.inl rfl | exact Or.inr rfl) (hf : X.fn x = true ∨ X.env.scope.names.lookup x = some .local := by first | exact .inl rfl | exact .inr rfl) : DG X (.Name x pos) (setL i) :=
  ⟨_, pg_name hN hi hx hf, fun w H σ s v d Q R r p => p w H _ (Le.refl w H) (R.set r)⟩
def asgM (p : M D) (t : D → M Out) : M Out := bnd p t
theorem ds_asg {tg : Expr} {t : D → M Out} (h : DE X W e fe) (hg : DG X tg t) (ht : ∀ d s, (∃ s', t d s = .ok .nx s') ∨ t d s = .bad) (hs : swapsWithSole [tg] e pos.line X.env = pure false := by rfl) (hw : swappedStores [tg] e X.env = pure none := by rfl)
    (h1 : (assignEach [tg] X.env).map (·.2) = [assign tg X.env] := by rfl) : DS X W (.Assign [tg] e pos) (asgM fe t) := by
  obtain ⟨u, p, r⟩ := h
  obtain ⟨g, pg, k⟩ := hg
  refine ⟨_, ps_asg p pg hs hw h1, fun w H σ s D R z => ?_⟩
  refine r.bndS R z fun d s1 w1 H1 v1 l1 R1 r1 p1 => ?_
  refine k w1 H1 σ s1 v1 d D.nx R1 r1 ?_
  rcases ht d s1 with ⟨s', e⟩ | e
  · rw [e] at p1 ⊢; exact p1
  · rw [e] at p1; exact p1.elim
theorem setL_ok {i : Nat} (d : D) (s : S) : (∃ s', setL i d s = .ok .nx s') ∨ setL i d s = .bad := .inl ⟨_, rfl⟩
/-- x = e -/
theorem ds_set (i : Nat) {x : Str} {p' : Pos} (h : DE X W e fe) (hN : X.N.Nodup) (hi : X.N[i]? = some x := by rfl) (hx : Loc X.env.scope x := by first | exact Or.inl rfl | exact Or.inr rfl) (hf : X.fn x = true ∨ X.env.scope.names.lookup x = some .local := by first | exact .inl rfl | exact .inr rfl)
    (hs : swapsWithSole [.Name x p'] e pos.line X.env = pure false := by rfl) (hw : swappedStores [.Name x p'] e X.env = pure none := by rfl) (h1 : (assignEach [.Name x p'] X.env).map (·.2) = [assign (.Name x p') X.env] := by rfl) : DS X W (.Assign [.Name x p'] e pos) (asgM fe (setL i)) :=
  ds_asg h (dg_name hN hi hx hf) setL_ok hs hw h1
theorem bnd_ok {α β : Type} {m : M α} {k : α → M β} {s s' : S} {a : α} (h : m s = .ok a s') : bnd m k s = k a s' := by
  unfold bnd
  rw [h]
theorem getL_eq {i : Nat} {s : S} {d : D} (h : s.loc[i]? = some (some d)) : getL i s = .ok d s := by
  unfold getL
  rw [h]
/-- x += e, of ints -/
def augF (f : Int → Int → Int) (i : Nat) : D → D → M Out
  | .int x, .int y => setL i (.int (f x y))
  | _, _ => fail
def augI (f : Int → Int → Int) (i : Nat) (p : M D) : M Out := bnd (getL i) fun a => bnd p fun b => augF f i a b
theorem ds_augI (i : Nat) {x : Str} {p' : Pos} {op : Operator} {F : Int → Int → Int} (ho : PIp X op (ipI F)) (h : DE X W e fe) (hN : X.N.Nodup) (hi : X.N[i]? = some x := by rfl) (hx : Loc X.env.scope x := by first | exact Or.inl rfl | exact Or.inr rfl) (hf : X.fn x = true ∨ X.env.scope.names.lookup x = some .local := by first | exact .inl rfl | exact .inr rfl) :
    DS X W (.AugAssign (.Name x p') op e pos) (augI F i fe) := by
  obtain ⟨u, p, r⟩ := h
  refine ⟨_, ps_aug hN hi hx p ho hf, fun w H σ s D R z => ?_⟩
  cases hl : s.loc[i]? with
  | none => unfold augI Fx.bnd getL at z; rw [hl] at z; exact z.elim
  | some o =>
    cases o with
    | none => unfold augI Fx.bnd getL at z; rw [hl] at z; exact z.elim
    | some d =>
      have z : PostS X.K W w H (bnd fe (fun b => augF F i d b) s) D := by
        have e : augI F i fe s = bnd fe (fun b => augF F i d b) s := by
          unfold augI
          exact bnd_ok (getL_eq hl)
        rw [← e]; exact z
      obtain ⟨v, hv, rv⟩ := R.loc i d hl
      refine ⟨v, hv, ?_⟩
      refine r.bndS R z fun b s1 w1 H1 v1 l1 R1 r1 p1 => ?_
      have rv := rv.up l1
      cases rv with
      | int a =>
        cases r1 with
        | int b => exact ⟨a, b, rfl, rfl, p1 w1 H1 _ (Le.refl w1 H1) (R1.set (.int _))⟩
        | _ => exact p1.elim
      | _ => exact p1.elim
/-! ### while -/
noncomputable def whileM (c : M Bool) (b : M Out) : Nat → M Out
  | 0 => fun _ => .bad
  | n + 1 => fun s => match c s with
    | .ok true s1 => match b s1 with
      | .ok .nx s2 => whileM c b n s2
      | .ok .cnt s2 => whileM c b n s2
      | .ok .brk s2 => .ok .nx s2
      | r => r
    | .ok false s1 => .ok .nx s1
    | .exc x s1 => .exc x s1
    | .bad => .bad
theorem ds_while (n : Nat) {body : List Stmt} (hp : PassesOwn (model X.prog X.w) X.A X.env X.xe) (h : DT X W c fc) (hb : DSs X W body f) : DS X W (.While c body [] pos) (whileM fc f n) := by
  obtain ⟨t, p, r⟩ := h
  obtain ⟨u, q, k⟩ := hb
  refine ⟨_, ps_while hp p q, fun w H σ s D R z => ?_⟩
  refine ⟨fun m σ' H' => ∃ w' s', RS X.K w' H' σ' s' ∧ PostS X.K W w' H' (whileM fc f m s') D, ⟨n, w, s, R, z⟩, ?_⟩
  rintro m σ' H' ⟨w', s', R', z'⟩
  cases m with
  | zero => exact z'.elim
  | succ m =>
    have z2 : PostS X.K W w' H' (bnd fc (fun b s1 => if b = true then (match f s1 with
      | .ok .nx s2 => whileM fc f m s2
      | .ok .cnt s2 => whileM fc f m s2
      | .ok .brk s2 => .ok .nx s2
      | r => r) else .ok .nx s1) s') D := by
      unfold whileM at z'
      unfold Fx.bnd
      cases hc : fc s' with
      | ok b s1 => rw [hc] at z'; cases b <;> exact z'
      | exc x s1 => rw [hc] at z'; exact z'
      | bad => rw [hc] at z'; exact z'
    refine r.bndS R' z2 fun b s1 w1 H1 v1 l1 R1 r1 p1 => ?_
    cases r1
    cases b with
    | false => exact p1 w1 H1 σ' (Le.refl w1 H1) R1
    | true =>
      refine ⟨fun σ2 H2 => ∃ w2 s2, RS X.K w2 H2 σ2 s2 ∧ PostS X.K W w2 H2 (whileM fc f m s2) D, fun σ2 H2 h => ⟨m, Nat.lt_succ_self m, h⟩, ?_⟩
      refine k w1 H1 σ' s1 _ R1 ?_
      have p1 : PostS X.K W w1 H1 (match f s1 with
        | .ok .nx s2 => whileM fc f m s2
        | .ok .cnt s2 => whileM fc f m s2
        | .ok .brk s2 => .ok .nx s2
        | r => r) D := p1
      cases hf : f s1 with
      | ok a s2 =>
        rw [hf] at p1
        cases a with
        | nx => exact fun w2 H2 σ2 l R2 => ⟨w2, s2, R2, p1.up l⟩
        | cnt => exact fun w2 H2 σ2 l R2 => ⟨w2, s2, R2, p1.up l⟩
        | brk => exact p1
        | rt d => exact p1
      | exc x s2 => rw [hf] at p1; exact p1
      | bad => rw [hf] at p1; exact p1.elim
end
/-! ### what is walked -/
structure Wk where
  items : List D
  ok : S → Prop
def wkI (K : PySem.W.Frag) : Wd → It → Wk → Prop := fun w0 J it => ∀ w H σ s, w0.le w → RS K w H σ s → it.ok s → ∀ i : Nat, (i < it.items.length → J.go i H) ∧ (it.items.length ≤ i → J.stop i H) ∧
  ∀ x H', J.yld i H x H' → ∀ d, it.items[i]? = some d → ∃ w', Le w H w' H' ∧ RS K w' H' σ s ∧ Rep K w' x d
@[reducible] def pI (K : PySem.W.Frag) : Pr It Wk := ⟨fun _ w H J it => wkI K w J it, fun _ _ _ _ _ _ _ _ _ _ h => h⟩
def DI (X : Cx) (W : WX) (tg e : Expr) (f : M Wk) : Prop := ∃ wi, PI X tg e wi ∧ Fol X.K W (pI X.K) wi f
noncomputable def loopM (ok : S → Prop) (t : D → M Out) (b : M Out) : List D → M Out
  | [] => fun s => if ok s then .ok .nx s else .bad
  | d :: ds => fun s => if ok s then (match t d s with
    | .ok .nx s1 => match b s1 with
      | .ok .nx s2 => loopM ok t b ds s2
      | .ok .cnt s2 => loopM ok t b ds s2
      | .ok .brk s2 => .ok .nx s2
      | r => r
    | _ => .bad) else .bad
noncomputable def forM (f : M Wk) (t : D → M Out) (b : M Out) : M Out := bnd f fun it => loopM it.ok t b it.items
section
variable {tg e : Expr} {fi : M Wk} {t : D → M Out} {b : M Out} {body : List Stmt} {pos : Pos}
theorem ds_for (hp : PassesOwn (model X.prog X.w) X.A X.env X.xe) (hc : X.calm = true) (hi : DI X W tg e fi) (hg : DG X tg t) (hb : DSs X W body b) (hs : ∀ x, foldedSetIterable e X.env x = pure x := by intro _; rfl) : DS X W (.For tg e body [] pos) (forM fi t b) := by
  obtain ⟨wi, p, r⟩ := hi
  obtain ⟨g, pg, kg⟩ := hg
  obtain ⟨u, q, k⟩ := hb
  refine ⟨_, ps_for hp hc p pg q hs, fun w H σ s D R z => ?_⟩
  refine r.bndS R z fun it s1 w1 H1 J l1 R1 r1 p1 => ?_
  refine ⟨fun i m σ' H' => m = it.items.length - i ∧ i ≤ it.items.length ∧ ∃ w' s', w1.le w' ∧ RS X.K w' H' σ' s' ∧ PostS X.K W w' H' (loopM it.ok t b (it.items.drop i) s') D, ⟨_, rfl, Nat.zero_le _, w1, s1, Wd.le.refl w1, R1, p1⟩, ?_⟩
  rintro i m σ' H' ⟨rfl, hi, w', s', l', R', z'⟩
  by_cases hlt : i < it.items.length
  · obtain ⟨d, hd⟩ : ∃ d, it.items[i]? = some d := ⟨_, List.getElem?_eq_getElem hlt⟩
    have ed : it.items.drop i = d :: it.items.drop (i + 1) := by
      rw [List.drop_eq_getElem_cons hlt]
      rw [List.getElem?_eq_getElem hlt] at hd
      rw [Option.some.inj hd]
    rw [ed] at z'
    unfold loopM at z'
    by_cases hok : it.ok s'
    · rw [if_pos hok] at z'
      obtain ⟨h1, h2, h3⟩ := r1 w' H' σ' s' l' R' hok i
      refine .inr ⟨h1 hlt, fun σ2 H2 => ∃ w2 s2, w1.le w2 ∧ RS X.K w2 H2 σ2 s2 ∧ PostS X.K W w2 H2 (loopM it.ok t b (it.items.drop (i + 1)) s2) D, fun σ2 H2 ⟨w2, s2, l2, R2, z2⟩ => ⟨it.items.length - (i + 1), by omega, rfl, hlt, w2, s2, l2, R2, z2⟩, fun x H2 hy => ?_⟩
      obtain ⟨w2, l2, R2, r2⟩ := h3 x H2 hy d hd
      refine kg w2 H2 σ' s' x d _ R2 r2 ?_
      cases ht : t d s' with
      | ok o s3 =>
        rw [ht] at z'
        cases o with
        | nx =>
          refine fun w3 H3 σ3 l3 R3 => ?_
          refine k w3 H3 σ3 s3 _ R3 ?_
          have z' : PostS X.K W w' H' (match b s3 with
            | .ok .nx s2 => loopM it.ok t b (it.items.drop (i + 1)) s2
            | .ok .cnt s2 => loopM it.ok t b (it.items.drop (i + 1)) s2
            | .ok .brk s2 => .ok .nx s2
            | r => r) D := z'
          have z3 := z'.up (l2.trans l3)
          cases hb : b s3 with
          | ok a s4 =>
            rw [hb] at z3
            cases a with
            | nx => exact fun w4 H4 σ4 l R4 => ⟨w4, s4, l'.trans (l2.le.trans (l3.le.trans l.le)), R4, z3.up l⟩
            | cnt => exact fun w4 H4 σ4 l R4 => ⟨w4, s4, l'.trans (l2.le.trans (l3.le.trans l.le)), R4, z3.up l⟩
            | brk => exact z3
            | rt d => exact z3
          | exc x s4 => rw [hb] at z3; exact z3
          | bad => rw [hb] at z3; exact z3.elim
        | _ => exact z'.elim
      | exc _ _ => rw [ht] at z'; exact z'.elim
      | bad => rw [ht] at z'; exact z'.elim
    · rw [if_neg hok] at z'; exact z'.elim
  · have hi' : it.items.length ≤ i := by omega
    rw [List.drop_eq_nil_of_le hi'] at z'
    unfold loopM at z'
    by_cases hok : it.ok s'
    · rw [if_pos hok] at z'
      obtain ⟨h1, h2, h3⟩ := r1 w' H' σ' s' l' R' hok i
      exact .inl ⟨h2 hi', z' w' H' σ' (Le.refl w' H') R'⟩
    · rw [if_neg hok] at z'; exact z'.elim
end
end Fx

namespace Fx
open PySem PySem.Spec PyProof.Rows L2
open Classical
variable {X : Cx} {W : WX}
section
variable {K : PySem.W.Frag} {α β ν μ : Type} {P : Pr ν α} {P2 : Pr μ β} {w w1 : Wd} {σ : L2.St} {s : S}
theorem Fol.bndE {t : L2.St → Hp → (ν → Hp → Prop) → Prop} {f : M α} {k : α → M β} {Q2 : μ → Hp → Prop} {Q : ν → Hp → Prop} {H : Hp} (h : Fol K W P t f) (R : RS K w H σ s) (p : Post K W P2 w H σ (Fx.bnd f k s) Q2)
    (g : ∀ a s' w' H' v, f s = .ok a s' → Le w H w' H' → RS K w' H' σ s' → P.p H w' H' v a → Post K W P2 w' H' σ (k a s') Q2 → Q v H') : t σ H Q := by
  refine h w H σ s Q R ?_
  unfold Fx.bnd at p
  cases e : f s with
  | ok a s' => rw [e] at p; exact fun w' H' v l R x => g a s' w' H' v e l R x (p.up l)
  | exc x s' => rw [e] at p; exact p
  | bad => rw [e] at p; exact p
end
/-! ### what is walked: a list, a tuple, a text -/
def signs (x : Str) : List D := x.cps.toList.map fun c => .str ⟨#[c]⟩
def itemsOf (s : S) : D → Option (List D)
  | .tup ds => some ds
  | .str x => some (signs x)
  | d => lstOf s d
noncomputable def seqI (d : D) : M Wk := fun s => match itemsOf s d with
  | some ds => .ok ⟨ds, fun s' => itemsOf s' d = some ds⟩ s
  | none => .bad
theorem PI.or {tg e : Expr} {w1 w2 : TI} (h1 : PI X tg e w1) (h2 : PI X tg e w2) : PI X tg e (fun σ H R => w1 σ H R ∨ w2 σ H R) :=
  ⟨fun pins s σ H R I h => h.elim (h1.run pins s σ H R I) (h2.run pins s σ H R I)⟩
theorem pI_list {K : PySem.W.Frag} {w0 : Wd} {a : Addr} {d : D} {ds : List D} (r : Rep K w0 (.ref a) d) (hl : ∀ s, itemsOf s d = lstOf s d) : wkI K w0 (Itl K a) ⟨ds, fun s' => itemsOf s' d = some ds⟩ := by
  intro w H σ s l R hok i
  have hok : itemsOf s d = some ds := hok
  rw [hl] at hok
  obtain ⟨a', vs, e, h1, h2⟩ := R.list (r.upW l) hok
  cases e
  have hS : SqL K H a vs := h1
  refine ⟨fun hi => ?_, fun hi => ⟨vs, hS, by rw [RepL.length h2]; exact hi⟩, fun x H' hy d' hd => ?_⟩
  · obtain ⟨v, hv, _⟩ := RepL.get h2 (List.getElem?_eq_getElem hi)
    exact ⟨vs, v, hS, hv⟩
  · obtain ⟨rfl, hx⟩ := hy
    obtain ⟨v, hv, rv⟩ := RepL.get h2 hd
    have := hx vs hS
    rw [hv] at this; cases this
    exact ⟨w, Le.refl _ _, R, rv⟩
theorem pI_tup {K : PySem.W.Frag} {w0 : Wd} {a : Addr} {ds : List D} (r : Rep K w0 (.ref a) (.tup ds)) : wkI K w0 (Itt K a) ⟨ds, fun s' => itemsOf s' (.tup ds) = some ds⟩ := by
  intro w H σ s l R hok i
  obtain ⟨a', vs, e, h1, h2⟩ := R.tuple (r.upW l) (ds := ds) rfl
  cases e
  refine ⟨fun hi => ?_, fun hi => ⟨vs, h1, by rw [RepL.length h2]; exact hi⟩, fun x H' hy d' hd => ?_⟩
  · obtain ⟨v, hv, _⟩ := RepL.get h2 (List.getElem?_eq_getElem hi)
    exact ⟨vs, v, h1, hv⟩
  · obtain ⟨rfl, hx⟩ := hy
    obtain ⟨v, hv, rv⟩ := RepL.get h2 hd
    have := hx vs h1
    rw [hv] at this; cases this
    exact ⟨w, Le.refl _ _, R, rv⟩
theorem pI_str {K : PySem.W.Frag} {w0 : Wd} {x : Str} : wkI K w0 (Its x) ⟨signs x, fun s' => itemsOf s' (.str x) = some (signs x)⟩ := by
  intro w H σ s l R hok i
  have hlen : (signs x).length = x.cps.size := by unfold signs; rw [List.length_map, Array.length_toList]
  refine ⟨fun hi => by rw [hlen] at hi; exact hi, fun hi => by rw [hlen] at hi; exact hi, fun v H' hy d' hd => ?_⟩
  obtain ⟨rfl, c, hc, rfl⟩ := hy
  have e : (signs x)[i]? = some (.str ⟨#[c]⟩) := by
    unfold signs
    rw [List.getElem?_map, Array.getElem?_toList, hc]; rfl
  have hd : (signs x)[i]? = some d' := hd
  rw [e] at hd; cases hd
  exact ⟨w, Le.refl _ _, R, .str _⟩
theorem di_seq {tg e : Expr} {f : M D} (h : DE X W e f) : DI X W tg e (bnd f seqI) := by
  obtain ⟨t, p, r⟩ := h
  refine ⟨_, PI.or (pi_list p) (PI.or (pi_tup p) (pi_str p)), fun w H σ s R0 R z => ?_⟩
  have base : ∀ (Q : V → Hp → Prop), (∀ a s' w' H' v, f s = .ok a s' → Le w H w' H' → RS X.K w' H' σ s' → Rep X.K w' v a → Post X.K W (pI X.K) w' H' σ (seqI a s') R0 → Q v H') → t σ H Q := fun Q g => r.bndE R z g
  cases hf : f s with
  | bad => exact .inl (base _ fun a s' w' H' v e => by rw [hf] at e; cases e)
  | exc x s1 => exact .inl (base _ fun a s' w' H' v e => by rw [hf] at e; cases e)
  | ok d s1 =>
    cases d with
    | tup ds =>
      refine .inr (.inl (base _ fun a s' w' H' v e l R' ra q => ?_))
      rw [hf] at e; cases e
      obtain ⟨a', vs, e, h1, h2⟩ := R'.tuple ra (ds := ds) rfl
      subst e
      exact ⟨a', rfl, ⟨vs, h1⟩, q w' H' _ (Le.refl _ _) R' (pI_tup ra)⟩
    | str x =>
      refine .inr (.inr (base _ fun a s' w' H' v e l R' ra q => ?_))
      rw [hf] at e; cases e
      cases ra
      exact ⟨x, rfl, q w' H' _ (Le.refl _ _) R' pI_str⟩
    | _ =>
      refine .inl (base _ fun a s' w' H' v e l R' ra q => ?_)
      rw [hf] at e; cases e
      unfold seqI at q
      split at q
      · next ds hds =>
        have hds' := hds
        simp only [itemsOf] at hds'
        obtain ⟨a', vs, e, h1, h2⟩ := R'.list ra hds'
        subst e
        refine ⟨a', rfl, ⟨vs, h1⟩, q w' H' _ (Le.refl _ _) R' (pI_list ra fun _ => rfl)⟩
      · exact q.elim
/-! ### range -/
def ranD (lo : Int) (n : Nat) : List D := (List.range n).map fun (k : Nat) => D.int (lo + (k : Int))
theorem ranD_len {lo : Int} {n : Nat} : (ranD lo n).length = n := by unfold ranD; rw [List.length_map, List.length_range]
theorem ranD_get {lo : Int} {n i : Nat} (h : i < n) : (ranD lo n)[i]? = some (.int (lo + (i : Int))) := by
  unfold ranD
  rw [List.getElem?_map, List.getElem?_range h]; rfl
def okB (i : Int) : Bool := decide (-(2 ^ 62) ≤ i) && decide (i < 2 ^ 62)
def ran1I : List D → M Wk
  | [.int n] => fun s => if okB n = true then .ok ⟨ranD 0 n.toNat, fun _ => True⟩ s else .bad
  | _ => fun _ => .bad
def ran2I : List D → M Wk
  | [.int lo, .int n] => fun s => if (okB lo && okB n) = true then .ok ⟨ranD lo (n - lo).toNat, fun _ => True⟩ s else .bad
  | _ => fun _ => .bad
theorem pI_ran {K : PySem.W.Frag} {w0 : Wd} {lo : Int} {n : Nat} : wkI K w0 (Itr lo n) ⟨ranD lo n, fun _ => True⟩ := by
  intro w H σ s l R _ i
  refine ⟨fun hi => by rw [ranD_len] at hi; exact hi, fun hi => by rw [ranD_len] at hi; exact hi, fun v H' hy d' hd => ?_⟩
  obtain ⟨rfl, rfl⟩ := hy
  have hi : i < n := by
    have := (List.getElem?_eq_some_iff.mp hd).1
    rw [ranD_len] at this; exact this
  have hd : (ranD lo n)[i]? = some d' := hd
  rw [ranD_get hi] at hd; cases hd
  exact ⟨w, Le.refl _ _, R, .int _⟩
theorem okB_ok {i : Int} (h : okB i = true) : -(2 ^ 62) ≤ i ∧ i < 2 ^ 62 := by
  unfold okB at h
  rw [Bool.and_eq_true, decide_eq_true_eq, decide_eq_true_eq] at h; exact h
theorem di_range1 {tg a : Expr} {f : M (List D)} {p pos : Pos} (hm : X.mg "range" = none) (h : DA X W [a] f) (hg : Gl X "range" := by rfl) (hs : starEach [a] X.env = [(false, eval a X.env)] := by rfl) : DI X W tg (.Call (.Name "range" p) [a] [] pos) (bnd f ran1I) := by
  obtain ⟨t, q, r⟩ := h
  refine ⟨_, pi_range1 hg hm q hs, fun w H σ s R0 R z => ?_⟩
  refine r.bnd R z fun ds s1 w1 H1 vs l1 R1 r1 p1 => ?_
  cases r1 with
  | nil => exact p1.elim
  | cons h t =>
    cases t with
    | nil =>
      cases h with
      | int n =>
        have p1 : Post X.K W (pI X.K) w1 H1 σ (if okB n = true then Res.ok (Wk.mk (ranD 0 n.toNat) fun _ => True) s1 else .bad) R0 := p1
        split at p1
        · next k => exact ⟨n, rfl, (okB_ok k).1, (okB_ok k).2, p1 w1 H1 _ (Le.refl _ _) R1 pI_ran⟩
        · exact p1.elim
      | _ => exact p1.elim
    | cons h2 t2 => exact (by cases h <;> exact p1.elim)
theorem di_range2 {tg a b : Expr} {f : M (List D)} {p pos : Pos} (hm : X.mg "range" = none) (h : DA X W [a, b] f) (hg : Gl X "range" := by rfl) (hs : starEach [a, b] X.env = [(false, eval a X.env), (false, eval b X.env)] := by rfl) (hs2 : starEach [b] X.env = [(false, eval b X.env)] := by rfl) :
    DI X W tg (.Call (.Name "range" p) [a, b] [] pos) (bnd f ran2I) := by
  obtain ⟨t, q, r⟩ := h
  refine ⟨_, pi_range2 hg hm q hs hs2, fun w H σ s R0 R z => ?_⟩
  refine r.bnd R z fun ds s1 w1 H1 vs l1 R1 r1 p1 => ?_
  cases r1 with
  | nil => exact p1.elim
  | cons h t =>
    cases t with
    | nil => exact (by cases h <;> exact p1.elim)
    | cons h2 t2 =>
      cases t2 with
      | cons _ _ => exact (by cases h <;> cases h2 <;> exact p1.elim)
      | nil =>
        cases h with
        | int lo =>
          cases h2 with
          | int n =>
            have p1 : Post X.K W (pI X.K) w1 H1 σ (if (okB lo && okB n) = true then Res.ok (Wk.mk (ranD lo (n - lo).toNat) fun _ => True) s1 else .bad) R0 := p1
            split at p1
            · next k =>
              rw [Bool.and_eq_true] at k
              exact ⟨lo, n, rfl, ⟨(okB_ok k.1).1, (okB_ok k.1).2, (okB_ok k.2).1, (okB_ok k.2).2⟩, p1 w1 H1 _ (Le.refl _ _) R1 pI_ran⟩
            · exact p1.elim
          | _ => exact p1.elim
        | _ => exact p1.elim
/-! ### zip of two lists, reversed -/
noncomputable def zipI : List D → M Wk
  | [a, b] => fun s => match lstOf s a, lstOf s b with
    | some xs, some ys => .ok ⟨List.zipWith (fun x y => D.tup [x, y]) xs ys, fun s' => lstOf s' a = some xs ∧ lstOf s' b = some ys⟩ s
    | _, _ => .bad
  | _ => fun _ => .bad
theorem pI_zip {K : PySem.W.Frag} {w0 : Wd} {a b : Addr} {d e : D} {xs ys : List D} (ra : Rep K w0 (.ref a) d) (rb : Rep K w0 (.ref b) e) : wkI K w0 (Itz K a b) ⟨List.zipWith (fun x y => D.tup [x, y]) xs ys, fun s' => lstOf s' d = some xs ∧ lstOf s' e = some ys⟩ := by
  intro w H σ s l R hok i
  obtain ⟨k1, k2⟩ : lstOf s d = some xs ∧ lstOf s e = some ys := hok
  obtain ⟨a', vs, e1, h1, h2⟩ := R.list (ra.upW l) k1
  cases e1
  obtain ⟨b', us, e2, h3, h4⟩ := R.list (rb.upW l) k2
  cases e2
  have hlen : (List.zipWith (fun x y => D.tup [x, y]) xs ys).length = min xs.length ys.length := List.length_zipWith
  refine ⟨fun hi => ?_, fun hi => ⟨vs, us, h1, h3, ?_⟩, fun x H' hy d' hd => ?_⟩
  · have hi : i < (List.zipWith (fun x y => D.tup [x, y]) xs ys).length := hi
    rw [hlen] at hi
    obtain ⟨v, hv, _⟩ := RepL.get h2 (List.getElem?_eq_getElem (show i < xs.length by omega))
    obtain ⟨u, hu, _⟩ := RepL.get h4 (List.getElem?_eq_getElem (show i < ys.length by omega))
    exact ⟨vs, us, v, u, h1, h3, hv, hu⟩
  · have hi : (List.zipWith (fun x y => D.tup [x, y]) xs ys).length ≤ i := hi
    rw [hlen] at hi
    rw [RepL.length h2, RepL.length h4]
    omega
  · obtain ⟨T, x1, y1, rfl, nT, rfl, f1, f2⟩ := hy
    have hd : (List.zipWith (fun x y => D.tup [x, y]) xs ys)[i]? = some d' := hd
    obtain ⟨v1, hv1⟩ : ∃ v, xs[i]? = some v := by
      have := (List.getElem?_eq_some_iff.mp hd).1
      rw [hlen] at this
      exact ⟨_, List.getElem?_eq_getElem (show i < xs.length by omega)⟩
    obtain ⟨v2, hv2⟩ : ∃ v, ys[i]? = some v := by
      have := (List.getElem?_eq_some_iff.mp hd).1
      rw [hlen] at this
      exact ⟨_, List.getElem?_eq_getElem (show i < ys.length by omega)⟩
    rw [List.getElem?_zipWith, hv1, hv2] at hd
    cases hd
    obtain ⟨u1, hu1, r1⟩ := RepL.get h2 hv1
    obtain ⟨u2, hu2, r2⟩ := RepL.get h4 hv2
    have e1 := f1 vs h1
    have e2 := f2 us h3
    rw [hu1] at e1; cases e1
    rw [hu2] at e2; cases e2
    obtain ⟨l2, R2, r⟩ := R.newT nT (.cons r1 (.cons r2 .nil))
    exact ⟨_, l2, R2, r⟩
theorem di_zip {es : List Expr} {kk : Nat} {tpos : Pos} {a b : Expr} {f : M (List D)} {p pos : Pos} (hm : X.mg "zip" = none) (h : DA X W [a, b] f) (hg : Gl X "zip" := by rfl)
    (hs : starEach [a, b] X.env = (false, eval a X.env) :: starEach [b] X.env := by rfl) (hpl : (backTo pos (starEach [b] X.env)).any (·.1) = false := by rfl) :
    DI X W (.Tuple es kk tpos) (.Call (.Name "zip" p) [a, b] [] pos) (bnd f zipI) := by
  obtain ⟨t, q, r⟩ := h
  refine ⟨_, pi_zip hg hm q hs hpl, fun w H σ s R0 R z => ?_⟩
  refine r.bnd R z fun ds s1 w1 H1 vs l1 R1 r1 p1 => ?_
  cases r1 with
  | nil => exact p1.elim
  | cons h t =>
    cases t with
    | nil => exact p1.elim
    | cons h2 t2 =>
      cases t2 with
      | cons _ _ => exact p1.elim
      | nil =>
        unfold zipI at p1
        dsimp only at p1
        split at p1
        · next xs ys hx hy =>
          obtain ⟨a', vs, e1, q1, q2⟩ := R1.list h hx
          subst e1
          obtain ⟨b', us, e2, q3, q4⟩ := R1.list h2 hy
          subst e2
          exact ⟨a', b', vs, us, rfl, q1, q3, p1 w1 H1 _ (Le.refl _ _) R1 (pI_zip h h2)⟩
        · exact p1.elim
/-! ### targets of two, three names -/
def unp2 (i j : Nat) (d : D) : M Out := fun s => match d with
  | .tup [x, y] => .ok .nx { s with loc := (s.loc.set i (some x)).set j (some y) }
  | _ => .bad
theorem dg_two {i j : Nat} {x y : Str} {kk : Nat} {p1 p2 pos : Pos} (hc : X.calm = true) (hN : X.N.Nodup) (hi : X.N[i]? = some x := by rfl) (hj : X.N[j]? = some y := by rfl) (hx : Loc X.env.scope x := by first | exact Or.inl rfl | exact Or.inr rfl) (hy : Loc X.env.scope y := by first | exact Or.inl rfl | exact Or.inr rfl)
    (hf : X.fn x = true ∨ X.env.scope.names.lookup x = some .local := by first | exact .inl rfl | exact .inr rfl) (hf2 : X.fn y = true ∨ X.env.scope.names.lookup y = some .local := by first | exact .inl rfl | exact .inr rfl)
    (hn : (assignEach [.Name x p1, .Name y p2] X.env).length = 2 := by rfl) (hst : (assignEach [.Name x p1, .Name y p2] X.env).findIdx? (·.1) = none := by rfl)
    (hs1 : (assignEach [.Name x p1, .Name y p2] X.env).map (·.2) = assign (.Name x p1) X.env :: (assignEach [.Name y p2] X.env).map (·.2) := by rfl) (hs2 : (assignEach [.Name y p2] X.env).map (·.2) = assign (.Name y p2) X.env :: (assignEach [] X.env).map (·.2) := by rfl) :
    DG X (.Tuple [.Name x p1, .Name y p2] kk pos) (unp2 i j) := by
  refine ⟨_, pg_tup hc (pgs_cons (pg_name hN hi hx hf) (pgs_cons (pg_name hN hj hy hf2) pgs_nil hs2) hs1) hn hst, fun w H σ s v d Q R r p => ?_⟩
  unfold unp2 at p
  split at p
  · next d1 d2 =>
    obtain ⟨a, vs, rfl, h1, h2⟩ := R.tuple r (ds := [d1, d2]) rfl
    cases h2 with
    | cons r1 t1 =>
      cases t1 with
      | cons r2 t2 =>
        cases t2
        exact ⟨a, _, rfl, h1, rfl, _, _, rfl, _, _, rfl, rfl, p w H _ (Le.refl _ _) ((R.set r1).set r2)⟩
  · exact p.elim
theorem unp2_ok {i j : Nat} (d : D) (s : S) : (∃ s', unp2 i j d s = .ok .nx s') ∨ unp2 i j d s = .bad := by
  unfold unp2
  split
  · exact .inl ⟨_, rfl⟩
  · exact .inr rfl
end Fx

namespace Fx
open PySem PySem.Spec PyProof.Rows L2
open Classical
variable {X : Cx} {W : WX}
/-! ### [e for x in it if c]: the block's name in slot i -/
def yesM : M Bool := ret true
noncomputable def lcLoop (ok : S → Prop) (i : Nat) (c : M Bool) (e : M D) (l0 l : List (Option D)) : List D → List D → M Cell
  | [], acc => fun s => if ok s then .ok (.lst acc) { s with loc := l } else .bad
  | d :: ds, acc => fun s => if ok s ∧ acc.length < sizeLine then (match c { s with loc := l0.set i (some d) } with
    | .ok true s1 => match e s1 with
      | .ok y s2 => lcLoop ok i c e l0 l ds (acc ++ [y]) { s2 with loc := l0 }
      | _ => .bad
    | .ok false s1 => lcLoop ok i c e l0 l ds acc { s1 with loc := l0 }
    | _ => .bad) else .bad
noncomputable def lcM (f : M Wk) (i : Nat) (c : M Bool) (e : M D) : M Cell := bnd f fun it s => lcLoop it.ok i c e (s.loc.set i none) s.loc it.items [] { s with loc := s.loc.set i none }
theorem set_set_none {α : Type} {l : List (Option α)} {i : Nat} {x : Option α} : ((l.set i none).set i x).set i none = l.set i none := by
  rw [List.set_set, List.set_set]
theorem RS.wipe {K : PySem.W.Frag} {w : Wd} {H : Hp} {σ : L2.St} {s : S} {i : Nat} (R : RS K w H σ s) : RS K w H (σ.set i none) { s with loc := s.loc.set i none } := by
  refine R.other (by rw [List.length_set, List.length_set]; exact R.len) fun j d h => ?_
  by_cases hj : j = i
  · subst hj
    by_cases hl : j < s.loc.length
    · rw [List.getElem?_set_self hl] at h; cases h
    · rw [List.getElem?_eq_none (by rw [List.length_set]; omega)] at h; cases h
  · rw [List.getElem?_set_ne (Ne.symm hj)] at h ⊢
    exact R.loc j d h
/-- the slots that hold the locals l, by w -/
def LocOk (K : PySem.W.Frag) (w : Wd) (σ : L2.St) (l : List (Option D)) : Prop := σ.length = l.length ∧ ∀ (i : Nat) d, l[i]? = some (some d) → ∃ v, σ[i]? = some (some v) ∧ Rep K w v d
theorem LocOk.up {K : PySem.W.Frag} {w w' : Wd} {σ : L2.St} {l : List (Option D)} (h : LocOk K w σ l) (le : w.le w') : LocOk K w' σ l := ⟨h.1, fun i d e => let ⟨v, a, b⟩ := h.2 i d e; ⟨v, a, b.upW le⟩⟩
theorem RS.locOk {K : PySem.W.Frag} {w : Wd} {H : Hp} {σ : L2.St} {s : S} (R : RS K w H σ s) : LocOk K w σ s.loc := ⟨R.len, R.loc⟩
theorem RS.withLoc {K : PySem.W.Frag} {w : Wd} {H : Hp} {σ σ' : L2.St} {s : S} {l : List (Option D)} (R : RS K w H σ s) (h : LocOk K w σ' l) : RS K w H σ' { s with loc := l } := R.other h.1 h.2
theorem Le.mut {w w1 : Wd} {H H1 : Hp} {p : Addr} {o : HO} (l : Le w H w1 H1) (hp : H p = none) : Le w H w1 (upd H1 p o) := ⟨l.le, fun a q e h => by rw [upd_ne (ne_of_none e hp)]; exact l.keep a q e h, l.newρ, l.newF⟩
/-- a tracked thing that is neither frozen nor a cell may change -/
theorem RS.mut {K : PySem.W.Frag} {w : Wd} {H : Hp} {σ : L2.St} {s : S} {p : Addr} {o : HO} (R : RS K w H σ s) (hf : w.F p = none) (hr : p ∉ w.ρ) : RS K w (upd H p o) σ s :=
  ⟨fun a q e => by rw [upd_ne (ne_of_none e hf)]; exact R.sub a q e, R.len, R.loc, R.cl, R.nd, R.out, fun n a c e1 e2 => (R.cells n a c e1 e2).upW (Wd.le.refl w) (upd_ne fun (e : a = p) => hr (e ▸ List.mem_of_getElem? e1))⟩
theorem DN.pe {e : Expr} {f : M Cell} (h : DN X W e f) : PE X e (tM X.K W (pN X.K) f) := by
  obtain ⟨t, p, r⟩ := h
  exact ⟨fun pins s σ H Q I ⟨w, z, R, q⟩ => p.run pins s σ H Q I (r w H σ z Q R q)⟩
def tests (ifs : List Expr) (X : Cx) (c : M Bool) : Prop := PTs X ifs (tM X.K W0 pB c)
theorem tests_nil : tests [] X yesM := ⟨fun pins s σ H Q I ⟨w, z, R, q⟩ => pts_nil.run pins s σ H Q I (Post.here q R rfl)⟩
theorem tests_one {e : Expr} {c : M Bool} (h : DT X W0 e c) : tests [e] X c := pts_one h.pt
theorem lc_fol {wi : TI} {n : Str} {i : Nat} {fi : M Wk} {c : M Bool} {fe : M D} (r : Fol X.K W (pI X.K) wi fi) : Fol X.K W (pN X.K) (tLc wi (gName i) (tM X.K W0 pB c) (tM X.K W0 (pD X.K) fe) ([(n, i)].map (·.2))) (lcM fi i c fe) := by
  intro w H σ s Q R z
  refine r.bnd R z fun it s1 w1 H1 J l1 R1 r1 p1 => ?_
  intro Dl hD
  have fr := R1.fresh hD
  have z1 : Post X.K W (pN X.K) w1 H1 σ (lcLoop it.ok i c fe (s1.loc.set i none) s1.loc it.items [] { s1 with loc := s1.loc.set i none }) Q := p1
  have ew : L2.wipe σ ([(n, i)].map (·.2)) = σ.set i none := rfl
  -- what holds between two turns
  refine ⟨fun k m H' => m = it.items.length - k ∧ k ≤ it.items.length ∧ ∃ w' s' acc, Le w1 H1 w' H' ∧ RS X.K w' H' (σ.set i none) s' ∧ s'.loc = s1.loc.set i none ∧ w'.F Dl = none ∧ Dl ∉ w'.ρ ∧ (∃ vs, H' Dl = some (.lst vs) ∧ RepL X.K w' vs acc) ∧
    Post X.K W (pN X.K) w1 H1 σ (lcLoop it.ok i c fe (s1.loc.set i none) s1.loc (it.items.drop k) acc s') Q, ⟨_, rfl, Nat.zero_le _, w1, { s1 with loc := s1.loc.set i none }, [], Le.laid hD, (R1.laid hD).wipe, rfl, fr.1, fr.2, ⟨[], upd_same, .nil⟩, z1⟩, ?_⟩
  rintro k m H' ⟨rfl, hk, w', s', acc, l', R', el, hF, hρ, ⟨vs, hvs, racc⟩, z'⟩
  by_cases hlt : k < it.items.length
  · obtain ⟨d, hd⟩ : ∃ d, it.items[k]? = some d := ⟨_, List.getElem?_eq_getElem hlt⟩
    have ed : it.items.drop k = d :: it.items.drop (k + 1) := by
      rw [List.drop_eq_getElem_cons hlt]
      rw [List.getElem?_eq_getElem hlt] at hd
      rw [Option.some.inj hd]
    rw [ed] at z'
    unfold lcLoop at z'
    by_cases hok : it.ok s' ∧ acc.length < sizeLine
    · rw [if_pos hok] at z'
      obtain ⟨h1, h2, h3⟩ := r1 w' H' _ s' l'.le R' hok.1 k
      refine .inr ⟨h1 hlt, fun H2 => (k + 1 ≤ it.items.length ∧ ∃ w' s' acc, Le w1 H1 w' H2 ∧ RS X.K w' H2 (σ.set i none) s' ∧ s'.loc = s1.loc.set i none ∧ w'.F Dl = none ∧ Dl ∉ w'.ρ ∧ (∃ vs, H2 Dl = some (.lst vs) ∧ RepL X.K w' vs acc) ∧
        Post X.K W (pN X.K) w1 H1 σ (lcLoop it.ok i c fe (s1.loc.set i none) s1.loc (it.items.drop (k + 1)) acc s') Q), fun H2 hh => ⟨it.items.length - (k + 1), by omega, rfl, hh⟩, fun x H2 hy => ?_⟩
      obtain ⟨w2, l2, R2, r2⟩ := h3 x H2 hy d hd
      rw [ew]
      refine ⟨set_set_none, ?_⟩
      have R2s := R2.set (i := i) r2
      rw [el] at R2s
      -- the new list from one state to a later one
      have carry : ∀ {w5 : Wd} {H5 : Hp}, Le w' H' w5 H5 → w5.F Dl = none ∧ Dl ∉ w5.ρ ∧ H5 Dl = some (.lst vs) := fun {w5 H5} l5 => by
        refine ⟨?_, fun h => ?_, l5.keep Dl _ hvs hρ⟩
        · cases q : w5.F Dl with
          | none => rfl
          | some o =>
            rcases l5.newF Dl o q with h | h | h
            · rw [hF] at h; cases h
            · rw [hvs] at h; cases h
            · exact (hρ h).elim
        · rcases l5.newρ Dl h with h | h
          · exact hρ h
          · rw [hvs] at h; cases h
      have loc0 : LocOk X.K w1 (σ.set i none) (s1.loc.set i none) := R1.wipe.locOk
      refine ⟨w2, _, R2s, ?_⟩
      have z' : Post X.K W (pN X.K) w1 H1 σ (match c { s' with loc := (s1.loc.set i none).set i (some d) } with
        | .ok true s1' => match fe s1' with
          | .ok y s2 => lcLoop it.ok i c fe (s1.loc.set i none) s1.loc (it.items.drop (k + 1)) (acc ++ [y]) { s2 with loc := s1.loc.set i none }
          | _ => .bad
        | .ok false s1' => lcLoop it.ok i c fe (s1.loc.set i none) s1.loc (it.items.drop (k + 1)) acc { s1' with loc := s1.loc.set i none }
        | _ => .bad) Q := z'
      cases hcc : c { s' with loc := (s1.loc.set i none).set i (some d) } with
      | exc _ _ => rw [hcc] at z'; exact z'.elim
      | bad => rw [hcc] at z'; exact z'.elim
      | ok b s3 =>
        rw [hcc] at z'
        rintro w3 H3 b' l3 R3 eb
        have eb : b' = b := eb
        subst eb
        cases b' with
        | false =>
          obtain ⟨c1, c2, c3⟩ := carry (l2.trans l3)
          have lt := l'.trans (l2.trans l3)
          exact ⟨hlt, w3, { s3 with loc := s1.loc.set i none }, acc, lt, R3.withLoc (loc0.up lt.le), rfl, c1, c2, ⟨vs, c3, racc.up (l2.trans l3)⟩, z'⟩
        | true =>
          refine ⟨w3, s3, R3, ?_⟩
          have z' : Post X.K W (pN X.K) w1 H1 σ (match fe s3 with
            | .ok y s2 => lcLoop it.ok i c fe (s1.loc.set i none) s1.loc (it.items.drop (k + 1)) (acc ++ [y]) { s2 with loc := s1.loc.set i none }
            | _ => .bad) Q := z'
          cases hee : fe s3 with
          | exc _ _ => rw [hee] at z'; exact z'.elim
          | bad => rw [hee] at z'; exact z'.elim
          | ok y s4 =>
            rw [hee] at z'
            rintro w4 H4 v l4 R4 ry
            have lt := l2.trans (l3.trans l4)
            obtain ⟨c1, c2, c3⟩ := carry lt
            have lt1 := l'.trans lt
            refine ⟨vs, c3, by rw [RepL.length racc]; exact hok.2, hlt, w4, { s4 with loc := s1.loc.set i none }, acc ++ [y], lt1.mut hD, (R4.withLoc (loc0.up lt1.le)).mut c1 c2, rfl, c1, c2, ⟨vs ++ [v], upd_same, RepL.append (racc.up lt) (.cons ry .nil)⟩, z'⟩
    · rw [if_neg hok] at z'; exact z'.elim
  · have hk' : it.items.length ≤ k := by omega
    rw [List.drop_eq_nil_of_le hk'] at z'
    unfold lcLoop at z'
    by_cases hok : it.ok s'
    · rw [if_pos hok] at z'
      obtain ⟨h1, h2, h3⟩ := r1 w' H' _ s' l'.le R' hok k
      refine .inl ⟨h2 hk', z' w' H' _ l' (R'.withLoc (R1.locOk.up l'.le)) ⟨Dl, rfl, hF, hρ, ⟨vs, hvs, racc⟩, hD⟩⟩
    · rw [if_neg hok] at z'; exact z'.elim
theorem dn_lc {elt tg iter : Expr} {ifs : List Expr} {scope : Scope} {n : Str} {i : Nat} {pos : Pos} {fi : M Wk} {c : M Bool} {fe : M D} (hc : X.calm = true) (hN : X.N.Nodup) (hi : DI X W tg iter fi) (ok : BlkOk X.N X.env.scope scope [(n, i)])
    (hg : ∀ (s : Shared) (H : Hp) (C : Addr) (cl : List (Str × Addr)) (fp : List Addr), PG (X.blk s H scope (compEnvC scope cl C X.env) fp) tg (gName i))
    (ht : ∀ (s : Shared) (H : Hp) (C : Addr) (cl : List (Str × Addr)) (fp : List Addr), tests ifs (X.blk s H scope (compEnvC scope cl C X.env) fp) c)
    (he : ∀ (s : Shared) (H : Hp) (C : Addr) (cl : List (Str × Addr)) (fp : List Addr), DE (X.blk s H scope (compEnvC scope cl C X.env) fp) W0 elt fe) (hs : ∀ x, foldedSetIterable iter X.env x = pure x := by intro _; rfl) :
    DN X W (.ListComp elt [⟨tg, iter, ifs, 0⟩] scope pos) (lcM fi i c fe) := by
  obtain ⟨wi, p, r⟩ := hi
  exact ⟨_, pe_lc (tt := tM X.K W0 pB c) (te := tM X.K W0 (pD X.K) fe) hc hN p ok hg (fun s H C cl fp => ht s H C cl fp) (fun s H C cl fp => (he s H C cl fp).pe) hs, lc_fol r⟩
/-- y = [..] on one line: frozen, or a cell -/
theorem DE.asg_fol {te : TE} {f : M D} {j : Nat} (h : Fol X.K W (pD X.K) te f) : FolS X.K W (tAsg te (gName j)) (asgM f (setL j)) := fun w H σ s D R z =>
  h.bndS R z fun d s1 w1 H1 v1 l1 R1 r1 p1 => p1 w1 H1 _ (Le.refl _ _) (R1.set r1)
section
variable {elt tg iter : Expr} {ifs : List Expr} {scope : Scope} {n y : Str} {i j : Nat} {py pos spos : Pos} {fi : M Wk} {c : M Bool} {fe : M D}
theorem ds_lc (own : Bool) (hc : X.calm = true) (hN : X.N.Nodup) (hi : DI X W tg iter fi) (ok : BlkOk X.N X.env.scope scope [(n, i)])
    (hg : ∀ (s : Shared) (H : Hp) (C : Addr) (cl : List (Str × Addr)) (fp : List Addr), PG (X.blk s H scope (compEnvC scope cl C X.env) fp) tg (gName i))
    (ht : ∀ (s : Shared) (H : Hp) (C : Addr) (cl : List (Str × Addr)) (fp : List Addr), tests ifs (X.blk s H scope (compEnvC scope cl C X.env) fp) c)
    (he : ∀ (s : Shared) (H : Hp) (C : Addr) (cl : List (Str × Addr)) (fp : List Addr), DE (X.blk s H scope (compEnvC scope cl C X.env) fp) W0 elt fe)
    (hsw : swapsWith (.ListComp elt [⟨tg, iter, ifs, 0⟩] scope pos) (some (.Name y py)) spos.line X.env = pure true) (hy : X.N[j]? = some y := by rfl) (hyl : X.env.scope.names.lookup y = some .local := by rfl) (hs : ∀ x, foldedSetIterable iter X.env x = pure x := by intro _; rfl) :
    DS X W (.Assign [.Name y py] (.ListComp elt [⟨tg, iter, ifs, 0⟩] scope pos) spos) (asgM (if own = true then ownM (lcM fi i c fe) else frzM (lcM fi i c fe)) (setL j)) := by
  obtain ⟨wi, p, r⟩ := hi
  have f : Fol X.K W (pN X.K) (tLc wi (gName i) (tM X.K W0 pB c) (tM X.K W0 (pD X.K) fe) ([(n, i)].map (·.2))) (lcM fi i c fe) := lc_fol r
  refine ⟨_, ps_setLc (tt := tM X.K W0 pB c) (te := tM X.K W0 (pD X.K) fe) hc hN hy hyl hsw p ok hg (fun s H C cl fp => ht s H C cl fp) (fun s H C cl fp => (he s H C cl fp).pe) hs, ?_⟩
  cases own with
  | true => exact DE.asg_fol (own_fol f)
  | false => exact DE.asg_fol (frz_fol f)
end
end Fx

namespace Fx
open PySem PySem.Spec PyProof.Rows L2
open Classical
variable {X : Cx} {W : WX}
/-! ### what a def hands back: its new cells as trees -/
mutual
/-- no cell from b on -/
def nc (b : Nat) : D → Bool
  | .cell n => decide (n < b)
  | .tup xs => ncL b xs
  | .lst xs => ncL b xs
  | _ => true
def ncL (b : Nat) : List D → Bool
  | [] => true
  | x :: xs => nc b x && ncL b xs
end
def mapO (f : D → Option D) : List D → Option (List D)
  | [] => some []
  | x :: xs => match f x, mapO f xs with
    | some y, some ys => some (y :: ys)
    | _, _ => none
def thaw (vh : List Cell) (b : Nat) : Nat → D → Option D
  | 0, d => if nc b d = true then some d else none
  | k + 1, d => if nc b d = true then some d else match d with
    | .cell n => match vh[n]? with
      | some (.lst ds) => (mapO (thaw vh b k) ds).map .lst
      | _ => none
    | .tup ds => (mapO (thaw vh b k) ds).map .tup
    | .lst ds => (mapO (thaw vh b k) ds).map .lst
    | _ => none
def Wd.fall (w : Wd) (b : Nat) (H : Hp) : Wd := ⟨w.ρ.take b, fun a => match w.F a with
  | some o => some o
  | none => if a ∈ w.ρ.drop b then H a else none⟩
section
variable {K : PySem.W.Frag} {w w0 : Wd} {H H0 : Hp} {σ : L2.St} {s : S} {b : Nat}
theorem fall_F {a : Addr} {o : HO} (h : w.F a = some o) : (w.fall b H).F a = some o := by
  show (match w.F a with | some o => some o | none => if a ∈ w.ρ.drop b then H a else none) = some o
  rw [h]
mutual
theorem nc_rep : ∀ {v : V} {d : D}, Rep K w v d → nc b d = true → Rep K (w.fall b H) v d
  | _, _, .non, _ => .non
  | _, _, .bl x, _ => .bl x
  | _, _, .int i, _ => .int i
  | _, _, .str x, _ => .str x
  | _, _, .ref a, _ => .ref a
  | _, _, .tup h t, c => .tup (sqT_up (fun _ _ e => fall_F e) h) (nc_repL t (by simpa [nc] using c))
  | _, _, .lst h t, c => .lst (sqL_up (fun _ _ e => fall_F e) h) (nc_repL t (by simpa [nc] using c))
  | _, _, .cell (n := n) h, c => .cell (by
      have hn : n < b := by simpa [nc] using c
      show (w.ρ.take b)[n]? = _
      rw [List.getElem?_take, if_pos hn]; exact h)
theorem nc_repL : ∀ {vs : List V} {ds : List D}, RepL K w vs ds → ncL b ds = true → RepL K (w.fall b H) vs ds
  | _, _, .nil, _ => .nil
  | _, _, .cons h t, c => by
    have c : (nc b _ && ncL b _) = true := c
    rw [Bool.and_eq_true] at c
    exact .cons (nc_rep h c.1) (nc_repL t c.2)
end
mutual
theorem nc_of : ∀ {v : V} {d : D}, Rep K w0 v d → w0.ρ.length ≤ b → nc b d = true
  | _, _, .non, _ => rfl
  | _, _, .bl x, _ => rfl
  | _, _, .int i, _ => rfl
  | _, _, .str x, _ => rfl
  | _, _, .ref a, _ => rfl
  | _, _, .tup h t, c => by unfold nc; exact nc_ofL t c
  | _, _, .lst h t, c => by unfold nc; exact nc_ofL t c
  | _, _, .cell (n := n) h, c => by
    have := (List.getElem?_eq_some_iff.mp h).1
    unfold nc; exact decide_eq_true (by omega)
theorem nc_ofL : ∀ {vs : List V} {ds : List D}, RepL K w0 vs ds → w0.ρ.length ≤ b → ncL b ds = true
  | _, _, .nil, _ => rfl
  | _, _, .cons h t, c => by
    unfold ncL
    rw [nc_of h c, nc_ofL t c]; rfl
end
theorem nc_repK : ∀ {vs vs0 : List (Key × V)} {ds : List (Key × D)}, RepK K w vs ds → RepK K w0 vs0 ds → w0.ρ.length ≤ b → RepK K (w.fall b H) vs ds
  | _, _, _, .nil, _, _ => .nil
  | _, _, _, .cons h t, .cons h0 t0, c => .cons (nc_rep h (nc_of h0 c)) (nc_repK t t0 c)
theorem mapO_rep {f : D → Option D} {w1 : Wd} (ih : ∀ v d d', Rep K w v d → f d = some d' → Rep K w1 v d') : ∀ {vs : List V} {ds ds' : List D}, RepL K w vs ds → mapO f ds = some ds' → RepL K w1 vs ds'
  | _, _, _, .nil, e => by cases e; exact .nil
  | _, _, _, .cons (d := d) (ds := ds) h t, e => by
    unfold mapO at e
    cases h1 : f d with
    | none => rw [h1] at e; cases e
    | some y =>
      cases h2 : mapO f ds with
      | none => rw [h1, h2] at e; cases e
      | some ys =>
        rw [h1, h2] at e; cases e
        exact .cons (ih _ _ _ h h1) (mapO_rep ih t h2)
theorem RepL.nd (R : RS K w H σ s) {n : Nat} {a : Addr} (h : w.ρ[n]? = some a) (hb : b ≤ n) : a ∈ w.ρ.drop b := by
  refine List.mem_of_getElem? (i := n - b) ?_
  rw [List.getElem?_drop, Nat.add_sub_cancel' hb]; exact h
theorem thaw_rep (R : RS K w H σ s) : ∀ (k : Nat) {v : V} {d d' : D}, Rep K w v d → thaw s.vh b k d = some d' → Rep K (w.fall b H) v d'
  | 0, v, d, d', r, e => by
    unfold thaw at e
    split at e
    · next c => cases e; exact nc_rep r c
    · cases e
  | k + 1, v, d, d', r, e => by
    unfold thaw at e
    split at e
    · next c => cases e; exact nc_rep r c
    · next c =>
      have ih : ∀ {v : V} {d d' : D}, Rep K w v d → thaw s.vh b k d = some d' → Rep K (w.fall b H) v d' := fun r q => thaw_rep R k r q
      cases r with
      | tup h t =>
        dsimp only at e
        cases h2 : mapO (thaw s.vh b k) _ with
        | none => rw [h2] at e; cases e
        | some ys => rw [h2] at e; cases e; exact .tup (sqT_up (fun _ _ e => fall_F e) h) (mapO_rep (fun _ _ _ r q => ih r q) t h2)
      | lst h t =>
        dsimp only at e
        cases h2 : mapO (thaw s.vh b k) _ with
        | none => rw [h2] at e; cases e
        | some ys => rw [h2] at e; cases e; exact .lst (sqL_up (fun _ _ e => fall_F e) h) (mapO_rep (fun _ _ _ r q => ih r q) t h2)
      | @cell a n h =>
        dsimp only at e
        have hn : ¬ n < b := by simpa [nc] using c
        obtain ⟨cc, e1, hc⟩ := R.cellOf h
        rw [e1] at e
        cases cc with
        | dct _ => cases e
        | lst ds =>
          dsimp only at e
          cases h2 : mapO (thaw s.vh b k) ds with
          | none => rw [h2] at e; cases e
          | some ys =>
            rw [h2] at e; cases e
            obtain ⟨vs, q1, q2⟩ := hc
            refine .lst (SqL.of ?_) (mapO_rep (fun _ _ _ r q => ih r q) q2 h2)
            show (match w.F _ with | some o => some o | none => if _ ∈ w.ρ.drop b then H _ else none) = _
            rw [R.out _ (List.mem_of_getElem? h)]
            show (if _ ∈ w.ρ.drop b then H _ else none) = _
            rw [if_pos (RepL.nd R h (by omega))]; exact q1
      | _ => simp [nc] at c
/-- the caller's state behind a def that changed nothing of it -/
theorem RS.back {σ0 : L2.St} {s0 : S} (R0 : RS K w0 H0 σ0 s0) (l : Le w0 H0 w H) (R : RS K w H σ s) (hp : s.vh.take s0.vh.length = s0.vh) (hb : b = s0.vh.length) : Le w0 H0 (w.fall b H) H ∧ RS K (w.fall b H) H σ0 s0 := by
  subst hb
  have hlen : s0.vh.length ≤ w.ρ.length := by
    rw [R.cl]
    have := congrArg List.length hp
    rw [List.length_take] at this
    omega
  have hρ : ∀ n a, w0.ρ[n]? = some a → (w.ρ.take s0.vh.length)[n]? = some a := fun n a e => by
    have hn : n < s0.vh.length := by rw [← R0.cl]; exact (List.getElem?_eq_some_iff.mp e).1
    rw [List.getElem?_take, if_pos hn]; exact l.le.1 n a e
  have le : w0.le (w.fall s0.vh.length H) := ⟨hρ, fun a o e => fall_F (l.le.2 a o e)⟩
  have outD : ∀ a ∈ w.ρ.drop s0.vh.length, a ∉ w.ρ.take s0.vh.length := fun a h h2 => by
    have nd := R.nd
    rw [← List.take_append_drop s0.vh.length w.ρ, List.nodup_append] at nd
    exact nd.2.2 a h2 a h rfl
  refine ⟨⟨le, l.keep, fun a h => l.newρ a (List.mem_of_mem_take h), fun a o h => ?_⟩, ?_⟩
  · have h : (match w.F a with | some o => some o | none => if a ∈ w.ρ.drop s0.vh.length then H a else none) = some o := h
    cases q : w.F a with
    | some o' => rw [q] at h; cases h; exact l.newF a _ q
    | none =>
      rw [q] at h
      have h : (if a ∈ w.ρ.drop s0.vh.length then H a else none) = some o := h
      split at h
      · next hm =>
        rcases l.newρ a (List.mem_of_mem_drop hm) with z | z
        · exact .inr (.inr z)
        · exact .inr (.inl z)
      · cases h
  · refine ⟨fun a o h => ?_, R0.len, fun i d e => ?_, ?_, R.nd.sublist (List.take_sublist _ _), fun a ha => ?_, fun n a c e1 e2 => ?_⟩
    · have h : (match w.F a with | some o => some o | none => if a ∈ w.ρ.drop s0.vh.length then H a else none) = some o := h
      cases q : w.F a with
      | some o' => rw [q] at h; cases h; exact R.sub a _ q
      | none =>
        rw [q] at h
        have h : (if a ∈ w.ρ.drop s0.vh.length then H a else none) = some o := h
        split at h
        · exact h
        · cases h
    · obtain ⟨v, h1, h2⟩ := R0.loc i d e
      exact ⟨v, h1, h2.upW le⟩
    · show (w.ρ.take s0.vh.length).length = _
      rw [List.length_take]; omega
    · show (match w.F a with | some o => some o | none => if a ∈ w.ρ.drop s0.vh.length then H a else none) = none
      rw [R.out a (List.mem_of_mem_take ha)]
      show (if a ∈ w.ρ.drop s0.vh.length then H a else none) = none
      rw [if_neg fun h => outD a h ha]
    · have e1 : (w.ρ.take s0.vh.length)[n]? = some a := e1
      have hn : n < s0.vh.length := (List.getElem?_eq_some_iff.mp e2).1
      rw [List.getElem?_take, if_pos hn] at e1
      have e2' : s.vh[n]? = some c := by
        rw [← hp, List.getElem?_take, if_pos hn] at e2; exact e2
      have hc := R.cells n a c e1 e2'
      obtain ⟨a0, _, hc0⟩ := R0.addrOf e2
      cases c with
      | lst ds =>
        obtain ⟨vs, q1, q2⟩ := hc
        obtain ⟨vs0, _, q0⟩ := hc0
        exact ⟨vs, q1, nc_repL q2 (nc_ofL q0 (Nat.le_of_eq R0.cl))⟩
      | dct kvs =>
        obtain ⟨vs, q1, q2⟩ := hc
        obtain ⟨vs0, _, q0⟩ := hc0
        exact ⟨vs, q1, nc_repK q2 q0 (Nat.le_of_eq R0.cl)⟩
end
/-! ### pure defs -/
abbrev Pf := List D → List Cell → Option D
noncomputable def fin (vh : List Cell) (s : S) (d : D) : Option D := if s.vh.take vh.length = vh then thaw s.vh vh.length 8 d else none
def initS (n : Nat) (ds : List D) (vh : List Cell) : S := ⟨ds.map some ++ List.replicate (n - ds.length) none, vh⟩
noncomputable def runP (n : Nat) (g : M Out) : Pf := fun ds vh => match g (initS n ds vh) with
  | .ok (.rt d) s => fin vh s d
  | .ok .nx s => fin vh s .non
  | _ => none
/-- the promise: from data to a datum, nothing of the caller's changed -/
def SpP (K : PySem.W.Frag) (n : Nat) (F : Pf) : Sp := fun vs H Q _ => vs.length = n ∧ ∃ w σ s ds d, RS K w H σ s ∧ RepL K w vs ds ∧ F ds s.vh = some d ∧ ∀ w' H' v, Le w H w' H' → RS K w' H' σ s → Rep K w' v d → Q v H'
theorem fn_pure {P : Program} {wd : World} {K : PySem.W.Frag} {mg : Str → Option Value} {base : Heap} {x qual : Str} {st : Stmt} {f : Addr} {fd : FuncData} {N ps : List Str} {k : Nat} {g : M Out} (F : Fun K x qual st f fd) (Sc : FnScope N ps (defScope st)) (hle : ps.length ≤ N.length)
    (body : ∀ (cdv : Value) (A : Around) (outer : List Env) (s : Shared) (H : Hp) (E : XK), Room k (A.deeper (envOfC qual (defScope st) s.heap.objs.size f cdv)) →
      DSs (cxOf CX0 P wd K mg base N qual (defScope st) f cdv A outer s H E).nox W0 (defBody st) g) : FnOk P wd K mg base CX0 (k + 1) f fd ps (SpP K ps.length (runP N.length g)) := by
  refine F.ok Sc (fun vs H Q E h => h.1) fun cdv A outer s H vs Q E hr h => ?_
  obtain ⟨t, p, r⟩ := body cdv A outer s H E hr
  obtain ⟨hl, w, σ, z, ds, d, R, rv, e, q⟩ := h
  refine ⟨t, p, r w H _ (initS N.length ds z.vh) _ ?_ ?_⟩
  · have hdl := RepL.length rv
    refine R.other (l := ds.map some ++ List.replicate (N.length - ds.length) none) ?_ fun i d hi => ?_
    · show (vs.map some ++ List.replicate (N.length - vs.length) none).length = _
      simp only [List.length_append, List.length_map, List.length_replicate]
      rw [hdl]
    · by_cases hlt : i < ds.length
      · rw [List.getElem?_append_left (by rw [List.length_map]; exact hlt), List.getElem?_map] at hi
        cases h2 : ds[i]? with
        | none => rw [h2] at hi; cases hi
        | some d2 =>
          rw [h2] at hi; cases hi
          obtain ⟨v, h3, h4⟩ := RepL.get rv h2
          refine ⟨v, ?_, h4⟩
          show (vs.map some ++ _)[i]? = _
          rw [List.getElem?_append_left (by rw [List.length_map, hdl]; exact hlt), List.getElem?_map, h3]; rfl
      · rw [List.getElem?_append_right (by rw [List.length_map]; omega)] at hi
        have := List.mem_of_getElem? hi
        rw [List.mem_replicate] at this
        cases this.2
  · show PostS K W0 w H (g (initS N.length ds z.vh)) _
    unfold runP at e
    have fin_ok : ∀ {d0 : D} {s1 : S}, fin z.vh s1 d0 = some d → ∀ w' H' σ' v, Le w H w' H' → RS K w' H' σ' s1 → Rep K w' v d0 → Q v H' := fun {d0 s1} e w' H' σ' v l R' rv => by
      unfold fin at e
      split at e
      · next hp =>
        obtain ⟨l2, R2⟩ := RS.back R l R' hp rfl
        exact q _ _ _ l2 R2 (thaw_rep R' 8 rv e)
      · cases e
    cases hg : g (initS N.length ds z.vh) with
    | bad => rw [hg] at e; cases e
    | exc x s1 => rw [hg] at e; cases e
    | ok o s1 =>
      rw [hg] at e
      cases o with
      | brk => cases e
      | cnt => cases e
      | rt d0 => exact fun w' H' σ' v l R' rv => fin_ok e w' H' σ' v l R' rv
      | nx => exact fun w' H' σ' l R' => fin_ok e w' H' σ' .non l R' .non
/-- a def of the text that keeps such a promise, by its name -/
structure FnP (P : Program) (wd : World) (K : PySem.W.Frag) (mg : Str → Option Value) (base : Heap) (x : Str) (n k : Nat) (F : Pf) : Prop where
  ex : ∃ (f : Addr) (fd : FuncData) (ps : List Str), ps.length = n ∧ mg x = some (.ref f) ∧ PySem.W.keepIn K (.ref f) = true ∧ Binds K fd ps [] ∧ FnOk P wd K mg base CX0 k f fd ps (SpP K n F)
theorem FnP.mono {P : Program} {wd : World} {K : PySem.W.Frag} {mg : Str → Option Value} {base : Heap} {x : Str} {n j k : Nat} {F : Pf} (h : FnP P wd K mg base x n j F) (l : j ≤ k) : FnP P wd K mg base x n k F :=
  let ⟨f, fd, ps, a, b, c, d, e⟩ := h.ex; ⟨f, fd, ps, a, b, c, d, e.mono l⟩
def callP (n : Nat) (F : Pf) (ds : List D) : M D := fun s => if ds.length = n then match F ds s.vh with
  | some d => .ok d s
  | none => .bad else .bad
theorem de_callP {x : Str} {n k : Nat} {F : Pf} {e : Expr} {es : List Expr} {fs : M (List D)} {p pos : Pos} (h : FnP X.prog X.w X.K X.mg X.base x n k F) (hr : Room k X.A) (ha : DA X W (e :: es) fs) (hg : Gl X x := by rfl) (hdb : (x == ("__debug__" : Str)) = false := by decide)
    (he : starEach (e :: es) X.env = (false, eval e X.env) :: starEach es X.env := by rfl) (hpl : (backTo pos (starEach es X.env)).any (·.1) = false := by rfl) : DE X W (.Call (.Name x p) (e :: es) [] pos) (bnd fs (callP n F)) := by
  obtain ⟨f, fd, ps, hps, hm, hk, hb, G⟩ := h.ex
  obtain ⟨t, q, r⟩ := ha
  refine ⟨_, pe_call G hr hg hm hk hb .nil pass0 q hdb he hpl, fun w H σ s Q R z => ?_⟩
  refine r.bnd R z fun ds s1 w1 H1 vs l1 R1 r1 p1 => ?_
  have p1 : Post X.K W (pD X.K) w1 H1 σ (if ds.length = n then match F ds s1.vh with
    | some d => .ok d s1
    | none => .bad else .bad) Q := p1
  by_cases hl : ds.length = n
  · rw [if_pos hl] at p1
    cases hF : F ds s1.vh with
    | none => rw [hF] at p1; exact p1.elim
    | some d =>
      rw [hF] at p1
      refine ⟨?_, w1, σ, s1, ds, d, R1, ?_, hF, fun w' H' v l R' r' => p1 w' H' v l R' r'⟩
      · rw [List.append_nil, RepL.length r1]; exact hl
      · rw [List.append_nil]; exact r1
  · rw [if_neg hl] at p1; exact p1.elim
end Fx

namespace Fx
open PySem PySem.Spec PyProof.Rows L2
variable {X : Cx} {W : WX}
/-! ### built-in calls -/
def RCal (X : Cx) (r : List V → Hp → VK → Prop) (g : List D → M D) : Prop := ∀ (W : WX) w H σ s vs ds Q, RS X.K w H σ s → RepL X.K w vs ds → Post X.K W (pD X.K) w H σ (g ds s) Q → r vs H Q
def RCalN (X : Cx) (r : List V → Hp → VK → Prop) (g : List D → M Cell) : Prop := ∀ (W : WX) w H σ s vs ds Q, RS X.K w H σ s → RepL X.K w vs ds → Post X.K W (pN X.K) w H σ (g ds s) Q → r vs H Q
section
variable {id : String} {r : List V → Hp → VK → Prop} {x : Str} {e : Expr} {es : List Expr} {fs : M (List D)} {p pos : Pos} {T : String}
theorem de_callB {g : List D → M D} (hc : CallR X (.builtin id) r) (hr : RCal X r g) (hm : X.mg x = none) (ha : DA X W (e :: es) fs) (hv : bootBuiltins x = some (.builtin id)) (hg : Gl X x := by rfl) (hn : x ≠ "__name__" := by decide) (hdb : (x == ("__debug__" : Str)) = false := by decide)
    (he : starEach (e :: es) X.env = (false, eval e X.env) :: starEach es X.env := by rfl) (hpl : (backTo pos (starEach es X.env)).any (·.1) = false := by rfl) : DE X W (.Call (.Name x p) (e :: es) [] pos) (bnd fs g) := by
  obtain ⟨t, q, k⟩ := ha
  refine ⟨_, pe_callB hc hg hm hv q hn hdb he hpl, fun w H σ s Q R z => ?_⟩
  exact k.bnd R z fun ds s1 w1 H1 vs l1 R1 r1 p1 => hr W w1 H1 σ s1 vs ds Q R1 r1 p1
theorem dn_callB {g : List D → M Cell} (hc : CallR X (.builtin id) r) (hr : RCalN X r g) (hm : X.mg x = none) (ha : DA X W (e :: es) fs) (hv : bootBuiltins x = some (.builtin id)) (hg : Gl X x := by rfl) (hn : x ≠ "__name__" := by decide) (hdb : (x == ("__debug__" : Str)) = false := by decide)
    (he : starEach (e :: es) X.env = (false, eval e X.env) :: starEach es X.env := by rfl) (hpl : (backTo pos (starEach es X.env)).any (·.1) = false := by rfl) : DN X W (.Call (.Name x p) (e :: es) [] pos) (bnd fs g) := by
  obtain ⟨t, q, k⟩ := ha
  refine ⟨_, pe_callB hc hg hm hv q hn hdb he hpl, fun w H σ s Q R z => ?_⟩
  exact k.bnd R z fun ds s1 w1 H1 vs l1 R1 r1 p1 => hr W w1 H1 σ s1 vs ds Q R1 r1 p1
theorem de_callT {g : List D → M D} (hc : CallR X (.type T) r) (hr : RCal X r g) (hm : X.mg x = none) (ha : DA X W (e :: es) fs) (hv : bootBuiltins x = some (.type T)) (hg : Gl X x := by rfl) (hn : x ≠ "__name__" := by decide) (hdb : (x == ("__debug__" : Str)) = false := by decide)
    (he : starEach (e :: es) X.env = (false, eval e X.env) :: starEach es X.env := by rfl) (hpl : (backTo pos (starEach es X.env)).any (·.1) = false := by rfl) : DE X W (.Call (.Name x p) (e :: es) [] pos) (bnd fs g) := by
  obtain ⟨t, q, k⟩ := ha
  refine ⟨_, pe_callTy hc hg hm hv q hn hdb he hpl, fun w H σ s Q R z => ?_⟩
  exact k.bnd R z fun ds s1 w1 H1 vs l1 R1 r1 p1 => hr W w1 H1 σ s1 vs ds Q R1 r1 p1
theorem dn_callT {g : List D → M Cell} (hc : CallR X (.type T) r) (hr : RCalN X r g) (hm : X.mg x = none) (ha : DA X W (e :: es) fs) (hv : bootBuiltins x = some (.type T)) (hg : Gl X x := by rfl) (hn : x ≠ "__name__" := by decide) (hdb : (x == ("__debug__" : Str)) = false := by decide)
    (he : starEach (e :: es) X.env = (false, eval e X.env) :: starEach es X.env := by rfl) (hpl : (backTo pos (starEach es X.env)).any (·.1) = false := by rfl) : DN X W (.Call (.Name x p) (e :: es) [] pos) (bnd fs g) := by
  obtain ⟨t, q, k⟩ := ha
  refine ⟨_, pe_callTy hc hg hm hv q hn hdb he hpl, fun w H σ s Q R z => ?_⟩
  exact k.bnd R z fun ds s1 w1 H1 vs l1 R1 r1 p1 => hr W w1 H1 σ s1 vs ds Q R1 r1 p1
end
theorem one_of {K : PySem.W.Frag} {w : Wd} {vs : List V} {d : D} (r : RepL K w vs [d]) : ∃ v, vs = [v] ∧ Rep K w v d := by
  cases r with | cons h t => cases t; exact ⟨_, rfl, h⟩
theorem two_of {K : PySem.W.Frag} {w : Wd} {vs : List V} {d e : D} (r : RepL K w vs [d, e]) : ∃ v u, vs = [v, u] ∧ Rep K w v d ∧ Rep K w u e := by
  cases r with | cons h t => cases t with | cons h2 t2 => cases t2; exact ⟨_, _, rfl, h, h2⟩
/-! len -/
def lenM : List D → M D
  | [d] => fun s => match d with
    | .str x => if lenOk x.length = true then .ok (.int x.length) s else .bad
    | .tup ds => .ok (.int ds.length) s
    | d => match lstOf s d with
      | some ds => .ok (.int ds.length) s
      | none => match dctOf s d with
        | some kvs => .ok (.int kvs.length) s
        | none => .bad
  | _ => fail
theorem callR_or {f : Value} {r1 r2 : List V → Hp → VK → Prop} (h1 : CallR X f r1) (h2 : CallR X f r2) : CallR X f (fun xs H Q => r1 xs H Q ∨ r2 xs H Q) := by
  intro pins s σ H xs us Q I r h
  rcases h with h | h
  · exact h1 pins s σ H xs us Q I r h
  · exact h2 pins s σ H xs us Q I r h
theorem RepK.length {K : PySem.W.Frag} {w : Wd} : ∀ {vs : List (Key × V)} {ds : List (Key × D)}, RepK K w vs ds → vs.length = ds.length
  | _, _, .nil => rfl
  | _, _, .cons _ t => by simp only [List.length_cons]; rw [RepK.length t]
theorem rc_len : RCal X (fun xs H Q => (∃ x n, xs = [x] ∧ LenV X.K x H n ∧ Q (.int n) H) ∨ ∃ a kvs, xs = [V.ref a] ∧ H a = some (.dK kvs) ∧ Q (.int kvs.length) H) lenM := by
  intro W w H σ s vs ds Q R r p
  unfold lenM at p
  split at p
  · next d =>
    obtain ⟨v, rfl, rv⟩ := one_of r
    split at p
    · next x =>
      split at p
      · next k => cases rv; exact .inl ⟨_, _, rfl, ⟨of_decide_eq_true k, rfl⟩, Post.here p R (Rep.int _)⟩
      · exact p.elim
    · next es =>
      obtain ⟨a, us, rfl, h1, h2⟩ := R.tuple rv (ds := es) rfl
      refine .inl ⟨_, us.length, rfl, .inr ⟨us, h1, rfl⟩, ?_⟩
      rw [RepL.length h2]; exact Post.here p R (Rep.int _)
    · split at p
      · next es he =>
        obtain ⟨a, us, rfl, h1, h2⟩ := R.list rv he
        refine .inl ⟨_, us.length, rfl, .inl ⟨us, h1, rfl⟩, ?_⟩
        rw [RepL.length h2]; exact Post.here p R (Rep.int _)
      · split at p
        · next kvs he =>
          obtain ⟨a, us, rfl, h1, h2⟩ := R.dict rv he
          refine .inr ⟨_, us, rfl, h1, ?_⟩
          rw [RepK.length h2]; exact Post.here p R (Rep.int _)
        · exact p.elim
  · exact p.elim
theorem de_len {e : Expr} {fs : M (List D)} {p pos : Pos} (hm : X.mg "len" = none) (ha : DA X W [e] fs) (hg : Gl X "len" := by rfl) (he : starEach [e] X.env = (false, eval e X.env) :: starEach [] X.env := by rfl) (hpl : (backTo pos (starEach [] X.env)).any (·.1) = false := by rfl) :
    DE X W (.Call (.Name "len" p) [e] [] pos) (bnd fs lenM) := de_callB (callR_or call_len call_lenD) rc_len hm ha PySem.boot_len hg (by decide) (by decide) he hpl
/-! isinstance of a built-in class -/
def tyName (s : S) : D → Option String
  | .non => some "NoneType"
  | .bl _ => some "bool"
  | .int _ => some "int"
  | .str _ => some "str"
  | .tup _ => some "tuple"
  | .lst _ => some "list"
  | .cell n => match s.vh[n]? with
    | some (.lst _) => some "list"
    | some (.dct _) => some "dict"
    | none => none
  | .ref _ => none
def isaT (T a : String) : Bool := (a == T) || (T == "int" && a == "bool")
def isaM (T : String) (d : D) : M D := fun s => match tyName s d with
  | some a => .ok (.bl (isaT T a)) s
  | none => .bad
theorem tyx_of {K : PySem.W.Frag} {w : Wd} {H : Hp} {σ : L2.St} {s : S} {v : V} {d : D} {a : String} (R : RS K w H σ s) (r : Rep K w v d) (h : tyName s d = some a) : TyX K H v (.type a) := by
  cases r with
  | non => cases h; exact .base .non
  | bl b => cases h; exact .base (.bl b)
  | int i => cases h; exact .base (.int i)
  | str x => cases h; exact .base (.str x)
  | ref a => cases h
  | tup h1 t =>
    cases h
    rcases sqT_up R.sub h1 with (h2 | ⟨o, h2⟩) | ⟨o, its, n, h2, h3, _⟩
    · exact .base (.tup h2)
    · exact .fTuple h2
    · exact .kTuple h2 h3
  | lst h1 t =>
    cases h
    rcases sqL_up R.sub h1 with (h2 | ⟨o, h2⟩) | ⟨o, its, n, h2, h3, _⟩
    · exact .base (.lst h2)
    · exact .base (.frz h2)
    · exact .kList h2 h3
  | cell h1 =>
    obtain ⟨c, e, hc⟩ := R.cellOf h1
    unfold tyName at h
    simp only [e] at h
    cases c with
    | lst ds => simp at h; subst h; obtain ⟨vs, h2, _⟩ := hc; exact .base (.lst h2)
    | dct ds => simp at h; subst h; obtain ⟨vs, h2, _⟩ := hc; exact .base (.dK h2)
def sixT : List String := ["int", "bool", "str", "tuple", "list", "dict"]
def sevA : List String := ["NoneType", "bool", "int", "str", "tuple", "list", "dict"]
theorem kit_all : ∀ T ∈ sixT, ∀ a ∈ sevA, kitB a T = some (isaT T a) := by decide +kernel
theorem tyName_in {s : S} {d : D} {a : String} (h : tyName s d = some a) : a ∈ sevA := by
  unfold tyName at h
  split at h <;> first
    | (cases h; decide)
    | (split at h <;> first | (cases h; decide) | cases h)
    | cases h
theorem de_isa (T : String) {e : Expr} {f : M D} {p p2 pos : Pos} (hi : X.mg "isinstance" = none) (hm : X.mg (Str.ofString T) = none) (h : DE X W e f) (hv : bootBuiltins (Str.ofString T) = some (.type T)) (hT : T ∈ sixT := by decide) (hg : Gl X "isinstance" := by rfl) (hg2 : Gl X (Str.ofString T) := by rfl)
    (hn : Str.ofString T ≠ "__name__" := by decide) (hd : (Str.ofString T == ("__debug__" : Str)) = false := by decide)
    (hst : starEach [e, .Name (Str.ofString T) p2] X.env = (false, eval e X.env) :: starEach [.Name (Str.ofString T) p2] X.env := by rfl) (hst2 : starEach [.Name (Str.ofString T) p2] X.env = (false, eval (.Name (Str.ofString T) p2) X.env) :: starEach [] X.env := by rfl)
    (hpl : (backTo pos (starEach [.Name (Str.ofString T) p2] X.env)).any (·.1) = false := by rfl) :
    DE X W (.Call (.Name "isinstance" p) [e, .Name (Str.ofString T) p2] [] pos) (bnd f (isaM T)) := by
  obtain ⟨t, q, k⟩ := h
  refine ⟨_, pe_callB call_isi hg hi (by decide +kernel) (pa_cons q (pa_cons (pe_bltn (v := .ty T) hg2 hm hv rfl hn hd) pa_nil hst2) hst) (by decide) (by decide) hst hpl, fun w H σ s Q R z => ?_⟩
  refine k.bnd R z fun d s1 w1 H1 v l1 R1 r1 p1 => ?_
  have p1 : Post X.K W (pD X.K) w1 H1 σ (match tyName s1 d with
    | some a => .ok (.bl (isaT T a)) s1
    | none => .bad) Q := p1
  cases ht : tyName s1 d with
  | none => rw [ht] at p1; exact p1.elim
  | some a =>
    rw [ht] at p1
    exact ⟨v, .ty T, .type a, .type T, isaT T a, rfl, .ty T, tyx_of R1 r1 ht, kit_ty (kit_all T hT a (tyName_in ht)), Post.here p1 R1 (Rep.bl _)⟩
/-! ### + -/
def addM : D → D → M D
  | .int i, .int j => ret (.int (i + j))
  | .str a, .str b => if lenOk (a.length + b.length) = true then ret (.str (a ++ b)) else fail
  | d, e => fun s => match lstOf s d, lstOf s e with
    | some xs, some ys => if lenOk (xs.length + ys.length) = true then .ok (.lst (xs ++ ys)) s else .bad
    | _, _ => .bad
def catN : D → D → M Cell := fun d e s => match lstOf s d, lstOf s e with
  | some xs, some ys => if lenOk (xs.length + ys.length) = true then .ok (.lst (xs ++ ys)) s else .bad
  | _, _ => .bad
def rCatR (K : PySem.W.Frag) : R2 := fun x y H Q => ∃ l b xs zs, x = .ref l ∧ y = .ref b ∧ SqL K H l xs ∧ SqL K H b zs ∧ xs.length + zs.length ≤ sizeLine ∧ ∀ p, H p = none → Q (.ref p) (upd H p (.lst (xs ++ zs)))
theorem op_catR : OpR X (binaryOp .Add) (rCatR X.K) := by
  intro pins s σ H x y v u Q I rx ry h
  obtain ⟨l, b, xs, zs, rfl, rfl, hH, hB, hz, q⟩ := h
  cases rx
  cases ry
  obtain ⟨its, r, ⟨⟨cls, dd, data, sl⟩, n, ho, hc, hdd, hd⟩, _⟩ := I.list hH
  obtain ⟨its2, r2, ⟨⟨cls2, dd2, data2, sl2⟩, n2, ho2, hc2, hdd2, hd2⟩, _⟩ := I.list hB
  simp only at hc hd hc2 hd2
  subst hc hd hc2 hd2
  have hl := r.length
  have hl2 := r2.length
  refine concat_meets ⟨_, ho, rfl⟩ ⟨_, ho2, rfl⟩ noFill_list_add seq_list_add PySem.F.slot_list_add PySem.F.entry_list_add (PySem.F.args_list_add_2 _ _) (list_addW l b its.toArray its2.toArray n n2 dd dd2 sl sl2 (by rw [List.size_toArray, List.size_toArray]; omega)) ⟨ho, ho2, ?_⟩
  have ea : its.toArray ++ its2.toArray = (its ++ its2).toArray := by simp
  rw [ea]
  exact ⟨.ref _, _, I.lnew (t' := s.toks) (r.append r2) (by rw [List.length_append]; omega), rfl, q _ I.fresh⟩
theorem de_add {a b : Expr} {fa fb : M D} {pos : Pos} (ha : DE X W a fa) (hb : DE X W b fb) : DE X W (.BinOp a .Add b pos) (bnd fa fun d => bnd fb fun e => addM d e) :=
  de_op (opr_or op_add (opr_or op_add_str op_catR)) (fun W w H σ s x y d e Q R rx ry p => by
    unfold addM at p
    split at p
    · cases rx; cases ry; exact .inl ⟨_, _, rfl, rfl, Post.here p R (Rep.int _)⟩
    · cases rx; cases ry
      split at p
      · next k => exact .inr (.inl ⟨_, _, rfl, rfl, of_decide_eq_true k, Post.here p R (Rep.str _)⟩)
      · exact p.elim
    · dsimp only at p
      split at p
      · next xs ys hx hy =>
        split at p
        · next k =>
          obtain ⟨l, vs, rfl, h1, h2⟩ := R.list rx hx
          obtain ⟨b, us, rfl, h3, h4⟩ := R.list ry hy
          have hk : xs.length + ys.length ≤ sizeLine := of_decide_eq_true k
          refine .inr (.inr ⟨l, b, vs, us, rfl, rfl, h1, h3, by rw [RepL.length h2, RepL.length h4]; exact hk, fun q hq => ?_⟩)
          obtain ⟨l3, R3, r3⟩ := R.newL hq (RepL.append h2 h4)
          exact p _ _ _ l3 R3 r3
        · exact p.elim
      · exact p.elim) ha hb
theorem dn_cat {a b : Expr} {fa fb : M D} {pos : Pos} (ha : DE X W a fa) (hb : DE X W b fb) : DN X W (.BinOp a .Add b pos) (bnd fa fun d => bnd fb fun e => catN d e) := by
  obtain ⟨ta, pa, ra⟩ := ha
  obtain ⟨tb, pb, rb⟩ := hb
  refine ⟨tOp (rCatR X.K) ta tb, pe_op op_catR pa pb, fun w H σ s Q R p => ?_⟩
  refine ra.bnd R p fun d s1 w1 H1 v1 l1 R1 r1 p1 => ?_
  refine rb.bnd R1 p1 fun e s2 w2 H2 v2 l2 R2 r2 p2 => ?_
  unfold catN at p2
  split at p2
  · next xs ys hx hy =>
    split at p2
    · next k =>
      obtain ⟨l, vs, rfl, h1, h2⟩ := R2.list (Rep.up l2 r1) hx
      obtain ⟨b, us, rfl, h3, h4⟩ := R2.list r2 hy
      have hk : xs.length + ys.length ≤ sizeLine := of_decide_eq_true k
      refine ⟨l, b, vs, us, rfl, rfl, h1, h3, by rw [RepL.length h2, RepL.length h4]; exact hk, fun p hp => ?_⟩
      exact p2 w2 _ _ (Le.laid hp) (R2.laid hp) ⟨p, rfl, (R2.fresh hp).1, (R2.fresh hp).2, ⟨_, upd_same, RepL.append h2 h4⟩, hp⟩
    · exact p2.elim
  · exact p2.elim
/-! ### comparisons -/
def isNonM : D → M D
  | .non => ret (.bl true)
  | _ => ret (.bl false)
def notNonM : D → M D
  | .non => ret (.bl false)
  | _ => ret (.bl true)
theorem non_of {K : PySem.W.Frag} {w : Wd} {v : V} {d : D} (r : Rep K w v d) : decide (v = V.non) = (match d with | .non => true | _ => false) := by
  cases r <;> simp
theorem rop_isN : ROp X (fun x y H Q => y = .non ∧ Q (.bl (decide (x = .non))) H) (fun d e => match e with | .non => isNonM d | _ => fail) := by
  intro W w H σ s x y d e Q R rx ry p
  cases ry with
  | non =>
    refine ⟨rfl, ?_⟩
    rw [non_of rx]
    cases d <;> exact Post.here p R (Rep.bl _)
  | _ => exact p.elim
theorem rop_notN : ROp X (fun x y H Q => y = .non ∧ Q (.bl (!decide (x = .non))) H) (fun d e => match e with | .non => notNonM d | _ => fail) := by
  intro W w H σ s x y d e Q R rx ry p
  cases ry with
  | non =>
    refine ⟨rfl, ?_⟩
    rw [non_of rx]
    cases d <;> exact Post.here p R (Rep.bl _)
  | _ => exact p.elim
/-! what == sees -/
mutual
def pyT : D → Option PyData
  | .non => some .none
  | .bl b => some (.bool b)
  | .int i => some (.int i)
  | .str x => some (.str x)
  | .tup xs => (pyL xs).map .tuple
  | .lst xs => (pyL xs).map .list
  | _ => none
def pyL : List D → Option (List PyData)
  | [] => some []
  | x :: xs => match pyT x, pyL xs with
    | some y, some ys => some (y :: ys)
    | _, _ => none
end
def pyD (s : S) (d : D) : Option PyData := match d with
  | .cell n => match s.vh[n]? with
    | some (.lst xs) => (pyL xs).map .list
    | _ => none
  | d => pyT d
mutual
theorem dp_of {K : PySem.W.Frag} {w : Wd} {H : Hp} (sub : ∀ a o, w.F a = some o → H a = some o) : ∀ {v : V} {d : D} {q : PyData}, Rep K w v d → pyT d = some q → Dp K H v q
  | _, _, _, .non, e => by cases e; exact .non
  | _, _, _, .bl b, e => by cases e; exact .bl b
  | _, _, _, .int i, e => by cases e; exact .int i
  | _, _, _, .str x, e => by cases e; exact .str x
  | _, _, _, .ref a, e => by cases e
  | _, _, _, .cell h, e => by cases e
  | _, _, _, .tup (ds := ds) h t, e => by
    unfold pyT at e
    cases q : pyL ds with
    | none => rw [q] at e; cases e
    | some qs => rw [q] at e; cases e; exact .tup (sqT_up sub h) (dpL_of sub t q)
  | _, _, _, .lst (ds := ds) h t, e => by
    unfold pyT at e
    cases q : pyL ds with
    | none => rw [q] at e; cases e
    | some qs => rw [q] at e; cases e; exact .lst (sqL_up sub h) (dpL_of sub t q)
theorem dpL_of {K : PySem.W.Frag} {w : Wd} {H : Hp} (sub : ∀ a o, w.F a = some o → H a = some o) : ∀ {vs : List V} {ds : List D} {qs : List PyData}, RepL K w vs ds → pyL ds = some qs → DpAll K H vs qs
  | _, _, _, .nil, e => by cases e; exact .nil
  | _, _, _, .cons (d := d) (ds := ds) h t, e => by
    unfold pyL at e
    cases h1 : pyT d with
    | none => rw [h1] at e; cases e
    | some y =>
      cases h2 : pyL ds with
      | none => rw [h1, h2] at e; cases e
      | some ys => rw [h1, h2] at e; cases e; exact .cons (dp_of sub h h1) (dpL_of sub t h2)
end
theorem RS.py {K : PySem.W.Frag} {w : Wd} {H : Hp} {σ : L2.St} {s : S} {v : V} {d : D} {q : PyData} (R : RS K w H σ s) (r : Rep K w v d) (h : pyD s d = some q) : Dp K H v q := by
  cases r with
  | @cell a n h1 =>
    obtain ⟨c, e, hc⟩ := R.cellOf h1
    unfold pyD at h
    simp only [e] at h
    cases c with
    | dct _ => simp at h
    | lst ds =>
      dsimp only at h
      cases h2 : pyL ds with
      | none => rw [h2] at h; cases h
      | some ys =>
        rw [h2] at h; cases h
        obtain ⟨vs, h3, h4⟩ := hc
        exact .lst (SqL.of h3) (dpL_of R.sub h4 h2)
  | non => exact dp_of R.sub .non h
  | bl b => exact dp_of R.sub (.bl b) h
  | int i => exact dp_of R.sub (.int i) h
  | str x => exact dp_of R.sub (.str x) h
  | ref a => exact dp_of R.sub (.ref a) h
  | tup h1 t => exact dp_of R.sub (.tup h1 t) h
  | lst h1 t => exact dp_of R.sub (.lst h1 t) h
def eqD (d e : D) : M D := fun s => match pyD s d, pyD s e with
  | some p, some q => if (SeqAt.shaped p && SeqAt.shaped q) = true then .ok (.bl (PyData.eqv p q)) s else .bad
  | _, _ => .bad
def neD (d e : D) : M D := fun s => match pyD s d, pyD s e with
  | some p, some q => if (SeqAt.shaped p && SeqAt.shaped q) = true then .ok (.bl (!PyData.eqv p q)) s else .bad
  | _, _ => .bad
def eqM : D → D → M D
  | .str a, .str b => ret (.bl (decide (a = b)))
  | d, e => eqD d e
def neM : D → D → M D
  | .str a, .str b => ret (.bl (!decide (a = b)))
  | d, e => neD d e
theorem rop_eqD : ROp X (rEqD X.K) eqD := by
  intro W w H σ s x y d e Q R rx ry p
  unfold eqD at p
  split at p
  · next p1 q1 h1 h2 =>
    split at p
    · next k =>
      rw [Bool.and_eq_true] at k
      exact ⟨p1, q1, R.py rx h1, R.py ry h2, k.1, k.2, Post.here p R (Rep.bl _)⟩
    · exact p.elim
  · exact p.elim
theorem rop_neD : ROp X (rNeD X.K) neD := by
  intro W w H σ s x y d e Q R rx ry p
  unfold neD at p
  split at p
  · next p1 q1 h1 h2 =>
    split at p
    · next k =>
      rw [Bool.and_eq_true] at k
      exact ⟨p1, q1, R.py rx h1, R.py ry h2, k.1, k.2, Post.here p R (Rep.bl _)⟩
    · exact p.elim
  · exact p.elim
theorem rop_eq : ROp X (fun x y H Q => rEq x y H Q ∨ rEqD X.K x y H Q) eqM := by
  intro W w H σ s x y d e Q R rx ry p
  unfold eqM at p
  split at p
  · next a b =>
    cases rx; cases ry
    refine .inl ⟨rfl, ?_⟩
    have e : decide (V.str a = V.str b) = decide (a = b) := by
      by_cases h : a = b
      · subst h; simp
      · rw [decide_eq_false h]
        exact decide_eq_false fun z => h (V.str.inj z)
    rw [e]
    exact Post.here p R (Rep.bl _)
  · exact .inr (rop_eqD W w H σ s x y d e Q R rx ry p)
theorem rop_ne : ROp X (fun x y H Q => rNe x y H Q ∨ rNeD X.K x y H Q) neM := by
  intro W w H σ s x y d e Q R rx ry p
  unfold neM at p
  split at p
  · next a b =>
    cases rx; cases ry
    refine .inl ⟨rfl, ?_⟩
    have e : decide (V.str a = V.str b) = decide (a = b) := by
      by_cases h : a = b
      · subst h; simp
      · rw [decide_eq_false h]
        exact decide_eq_false fun z => h (V.str.inj z)
    rw [e]
    exact Post.here p R (Rep.bl _)
  · exact .inr (rop_neD W w H σ s x y d e Q R rx ry p)
theorem op_eqA (hu : X.A.units + 64 < cLine) : OpR X (compareOp .Eq) (fun x y H Q => rEq x y H Q ∨ rEqD X.K x y H Q) := opr_or op_eq (op_eqD hu)
theorem op_neA (hu : X.A.units + 64 < cLine) : OpR X (compareOp .NotEq) (fun x y H Q => rNe x y H Q ∨ rNeD X.K x y H Q) := opr_or op_ne (op_neD hu)
theorem units_of {A : Around} {k : Nat} (hr : Room k A) : A.units + 64 < cLine := by have := hr.un; omega
def ltM : D → D → M D
  | .int i, .int j => ret (.bl (decide (i < j)))
  | .str a, .str b => ret (.bl (decide (a.cps.toList < b.cps.toList)))
  | _, _ => fail
theorem rop_lt : ROp X (fun x y H Q => rI0 (fun i j => .bl (decide (i < j))) x y H Q ∨ ∃ i j, x = .str i ∧ y = .str j ∧ Q (.bl (decide (i.cps.toList < j.cps.toList))) H) ltM := by
  intro W w H σ s x y d e Q R rx ry p
  unfold ltM at p
  split at p
  · cases rx; cases ry; exact .inl ⟨_, _, rfl, rfl, Post.here p R (Rep.bl _)⟩
  · cases rx; cases ry; exact .inr ⟨_, _, rfl, rfl, Post.here p R (Rep.bl _)⟩
  · exact p.elim
def leM : D → D → M D := i2 fun i j => .bl (decide (i ≤ j))
def gtM : D → D → M D := i2 fun i j => .bl (decide (j < i))
def geM : D → D → M D := i2 fun i j => .bl (decide (j ≤ i))
theorem rop_le : ROp X (rI0 fun i j => .bl (decide (i ≤ j))) leM := rop_i2 fun _ _ _ => .bl _
theorem rop_gt : ROp X (rI0 fun i j => .bl (decide (j < i))) gtM := rop_i2 fun _ _ _ => .bl _
theorem rop_ge : ROp X (rI0 fun i j => .bl (decide (j ≤ i))) geM := rop_i2 fun _ _ _ => .bl _
end Fx

namespace Fx
open PySem PySem.Spec PyProof.Rows L2
variable {X : Cx} {W : WX}
abbrev bin (op : D → D → M D) (a b : M D) : M D := bnd a fun d => bnd b fun e => op d e
abbrev tst (a : M D) : M Bool := bnd a asB
/-! ### a[i] -/
def ixM : D → D → M D := fun d e s => match e with
  | .int i => match d with
    | .str x => if lenOk x.length = true then (match atI x.cps.toList i with
      | some c => .ok (.str ⟨#[c]⟩) s
      | none => .bad) else .bad
    | .tup ds => match atI ds i with
      | some y => .ok y s
      | none => .bad
    | d => match lstOf s d with
      | some ds => match atI ds i with
        | some y => .ok y s
        | none => .bad
      | none => .bad
  | _ => .bad
theorem RepL.at {K : PySem.W.Frag} {w : Wd} {vs : List V} {ds : List D} {i : Int} {d : D} (r : RepL K w vs ds) (h : atI ds i = some d) : ∃ v, atI vs i = some v ∧ Rep K w v d := by
  unfold atI at h ⊢
  rw [RepL.length r]
  cases e : ixN ds.length i with
  | none => rw [e] at h; cases h
  | some j =>
    rw [e] at h
    exact RepL.get r h
theorem rop_ix : ROp X (rIx X.K) ixM := by
  intro W w H σ s x y d e Q R rx ry p
  unfold ixM at p
  split at p
  · next i =>
    cases ry
    split at p
    · next z =>
      cases rx
      split at p
      · next k =>
        split at p
        · next c hc => exact .inr (.inr ⟨z, i, c, rfl, rfl, of_decide_eq_true k, hc, Post.here p R (Rep.str _)⟩)
        · exact p.elim
      · exact p.elim
    · next ds =>
      split at p
      · next y hy =>
        obtain ⟨a, us, rfl, h1, h2⟩ := R.tuple rx (ds := ds) rfl
        obtain ⟨v, hv, rv⟩ := RepL.at h2 hy
        exact .inr (.inl ⟨a, us, i, v, rfl, rfl, h1, hv, Post.here p R rv⟩)
      · exact p.elim
    · split at p
      · next ds hd =>
        split at p
        · next y hy =>
          obtain ⟨a, us, rfl, h1, h2⟩ := R.list rx hd
          obtain ⟨v, hv, rv⟩ := RepL.at h2 hy
          exact .inl ⟨a, us, i, v, rfl, rfl, h1, hv, Post.here p R rv⟩
        · exact p.elim
      · exact p.elim
  · exact p.elim
theorem de_ix {a b : Expr} {fa fb : M D} {pos : Pos} (ha : DE X W a fa) (hb : DE X W b fb) (hs : PlainIx b := by exact fun _ _ => rfl) : DE X W (.Subscript a b pos) (bin ixM fa fb) := by
  obtain ⟨ta, pa, ra⟩ := ha
  obtain ⟨tb, pb, rb⟩ := hb
  refine ⟨_, pe_ix ix_seq pa pb hs, fun w H σ s Q R p => ?_⟩
  refine ra.bnd R p fun d s1 w1 H1 v1 l1 R1 r1 p1 => ?_
  refine rb.bnd R1 p1 fun e s2 w2 H2 v2 l2 R2 r2 p2 => ?_
  exact rop_ix W w2 H2 σ s2 v1 v2 d e Q R2 (Rep.up l2 r1) r2 p2
/-! ### slices -/
def DO (X : Cx) (W : WX) (e : Option Expr) (f : M (Option Int)) : Prop := ∃ t, PO X e t ∧ Fol X.K W (⟨fun _ _ _ a b => a = b, fun _ _ _ _ _ _ _ _ _ _ h => h⟩ : Pr (Option Int) (Option Int)) t f
def partM (f : M D) : M (Option Int) := bnd f fun d => match d with
  | .int i => ret (some i)
  | _ => fail
theorem do_none : DO X W none (ret none) := ⟨_, po_none, fun w H σ s Q R p => Post.here p R rfl⟩
theorem do_some {e : Expr} {f : M D} (h : DE X W e f) : DO X W (some e) (partM f) := by
  obtain ⟨t, p, r⟩ := h
  refine ⟨_, po_some p, fun w H σ s Q R z => ?_⟩
  refine r.bnd R z fun d s1 w1 H1 v l1 R1 r1 p1 => ?_
  cases r1 with
  | int i => exact ⟨i, rfl, Post.here p1 R1 rfl⟩
  | _ => exact p1.elim
def cutD (xs : List D) (lo hi : Option Int) : List D := (xs.drop (HT.sIx xs.length 0 lo)).take (HT.sIx xs.length xs.length hi - HT.sIx xs.length 0 lo)
theorem RepL.cut {K : PySem.W.Frag} {w : Wd} {vs : List V} {ds : List D} (r : RepL K w vs ds) (lo hi : Option Int) : RepL K w (cutV vs lo hi) (cutD ds lo hi) := by
  unfold cutV cutD
  rw [RepL.length r]
  exact (r.drop _).take _
/-- of a text -/
def slS (f : M D) (lo hi : M (Option Int)) : M D := bnd f fun d => bnd lo fun l => bnd hi fun u => match d with
  | .str x => if lenOk x.length = true then ret (.str (cutS x l u)) else fail
  | _ => fail
/-- of a list -/
def slL (f : M D) (lo hi : M (Option Int)) : M Cell := bnd f fun d => bnd lo fun l => bnd hi fun u => fun s => match lstOf s d with
  | some ds => .ok (.lst (cutD ds l u)) s
  | none => .bad
section
variable {e : Expr} {lo hi : Option Expr} {f : M D} {fl fh : M (Option Int)} {pos p2 : Pos}
theorem de_slS (h : DE X W e f) (hl : DO X W lo fl) (hh : DO X W hi fh) : DE X W (.Subscript e (.Slice lo hi none p2) pos) (slS f fl fh) := by
  obtain ⟨t, p, r⟩ := h
  obtain ⟨tl, pl, rl⟩ := hl
  obtain ⟨th, ph, rh⟩ := hh
  refine ⟨_, pe_slice sl_str p pl ph, fun w H σ s Q R z => ?_⟩
  refine r.bnd R z fun d s1 w1 H1 v1 l1 R1 r1 p1 => ?_
  refine rl.bnd R1 p1 fun a s2 w2 H2 v2 l2 R2 r2 p2 => ?_
  refine rh.bnd R2 p2 fun b s3 w3 H3 v3 l3 R3 r3 p3 => ?_
  cases r2; cases r3
  cases r1 with
  | str x =>
    dsimp only at p3
    split at p3
    · next k => exact ⟨x, rfl, of_decide_eq_true k, Post.here p3 R3 (Rep.str _)⟩
    · exact p3.elim
  | _ => exact p3.elim
theorem dn_slL (h : DE X W e f) (hl : DO X W lo fl) (hh : DO X W hi fh) : DN X W (.Subscript e (.Slice lo hi none p2) pos) (slL f fl fh) := by
  obtain ⟨t, p, r⟩ := h
  obtain ⟨tl, pl, rl⟩ := hl
  obtain ⟨th, ph, rh⟩ := hh
  refine ⟨_, pe_slice sl_list p pl ph, fun w H σ s Q R z => ?_⟩
  refine r.bnd R z fun d s1 w1 H1 v1 l1 R1 r1 p1 => ?_
  refine rl.bnd R1 p1 fun a s2 w2 H2 v2 l2 R2 r2 p2 => ?_
  refine rh.bnd R2 p2 fun b s3 w3 H3 v3 l3 R3 r3 p3 => ?_
  cases r2; cases r3
  split at p3
  · next ds hd =>
    obtain ⟨a', vs, rfl, h1, h2⟩ := R3.list (Rep.up l3 (Rep.up l2 r1)) hd
    refine ⟨a', vs, rfl, h1, fun q hq => ?_⟩
    exact p3 w3 _ _ (Le.laid hq) (R3.laid hq) ⟨q, rfl, (R3.fresh hq).1, (R3.fresh hq).2, ⟨_, upd_same, h2.cut a b⟩, hq⟩
  · exact p3.elim
end
/-! ### list(..), tuple(..), ord, str of an int, abs, min, max of two -/
def listN : List D → M Cell
  | [d] => fun s => match d with
    | .tup ds => .ok (.lst ds) s
    | d => match lstOf s d with
      | some ds => .ok (.lst ds) s
      | none => .bad
  | _ => fun _ => .bad
theorem rc_list : RCalN X (fun xs H Q => ∃ p ys, xs = [.ref p] ∧ (SqL X.K H p ys ∨ SqT X.K H p ys) ∧ ∀ l, H l = none → Q (.ref l) (upd H l (.lst ys))) listN := by
  intro W w H σ s vs ds Q R r p
  unfold listN at p
  split at p
  · next d =>
    obtain ⟨v, rfl, rv⟩ := one_of r
    split at p
    · next es =>
      obtain ⟨a, us, rfl, h1, h2⟩ := R.tuple rv (ds := es) rfl
      exact ⟨a, us, rfl, .inr h1, fun q hq => p w _ _ (Le.laid hq) (R.laid hq) ⟨q, rfl, (R.fresh hq).1, (R.fresh hq).2, ⟨_, upd_same, h2⟩, hq⟩⟩
    · split at p
      · next es he =>
        obtain ⟨a, us, rfl, h1, h2⟩ := R.list rv he
        exact ⟨a, us, rfl, .inl h1, fun q hq => p w _ _ (Le.laid hq) (R.laid hq) ⟨q, rfl, (R.fresh hq).1, (R.fresh hq).2, ⟨_, upd_same, h2⟩, hq⟩⟩
      · exact p.elim
  · exact p.elim
def tupleM : List D → M D
  | [d] => fun s => match d with
    | .tup ds => .ok (.tup ds) s
    | d => match lstOf s d with
      | some ds => .ok (.tup ds) s
      | none => .bad
  | _ => fun _ => .bad
theorem rc_tuple : RCal X (fun xs H Q => ∃ p ys, xs = [.ref p] ∧ ((SqL X.K H p ys ∧ ∀ l, H l = none → Q (.ref l) (upd H l (.tup ys))) ∨ (SqT X.K H p ys ∧ Q (.ref p) H))) tupleM := by
  intro W w H σ s vs ds Q R r p
  unfold tupleM at p
  split at p
  · next d =>
    obtain ⟨v, rfl, rv⟩ := one_of r
    split at p
    · next es =>
      obtain ⟨a, us, rfl, h1, h2⟩ := R.tuple rv (ds := es) rfl
      exact ⟨a, us, rfl, .inr ⟨h1, Post.here p R rv⟩⟩
    · split at p
      · next es he =>
        obtain ⟨a, us, rfl, h1, h2⟩ := R.list rv he
        refine ⟨a, us, rfl, .inl ⟨h1, fun q hq => ?_⟩⟩
        obtain ⟨l3, R3, r3⟩ := R.newT hq h2
        exact p _ _ _ l3 R3 r3
      · exact p.elim
  · exact p.elim
def ordM : List D → M D
  | [.str x] => if x.length = 1 then ret (.int (x.cps.getD 0 0 : Nat)) else fail
  | _ => fail
theorem rc_ord : RCal X (fun xs H Q => ∃ x, xs = [.str x] ∧ x.length = 1 ∧ Q (.int (x.cps.getD 0 0 : Nat)) H) ordM := by
  intro W w H σ s vs ds Q R r p
  unfold ordM at p
  split at p
  · next x =>
    obtain ⟨v, rfl, rv⟩ := one_of r
    cases rv
    split at p
    · next k => exact ⟨x, rfl, k, Post.here p R (Rep.int _)⟩
    · exact p.elim
  · exact p.elim
def strM : List D → M D
  | [.int i] => if i.natAbs.log2 < 1920 then ret (.str (toString i)) else fail
  | _ => fail
theorem rc_str : RCal X (fun xs H Q => ∃ i, xs = [.int i] ∧ i.natAbs.log2 < 1920 ∧ Q (.str (toString i)) H) strM := by
  intro W w H σ s vs ds Q R r p
  unfold strM at p
  split at p
  · next x =>
    obtain ⟨v, rfl, rv⟩ := one_of r
    cases rv
    split at p
    · next k => exact ⟨x, rfl, k, Post.here p R (Rep.str _)⟩
    · exact p.elim
  · exact p.elim
def absM : List D → M D
  | [.int i] => ret (.int (if i < 0 then -i else i))
  | _ => fail
theorem rc_abs : RCal X (fun xs H Q => ∃ i, xs = [.int i] ∧ Q (.int (if i < 0 then -i else i)) H) absM := by
  intro W w H σ s vs ds Q R r p
  unfold absM at p
  split at p
  · obtain ⟨v, rfl, rv⟩ := one_of r
    cases rv
    exact ⟨_, rfl, Post.here p R (Rep.int _)⟩
  · exact p.elim
def max2M : List D → M D
  | [.int i, .int j] => ret (.int (if j > i then j else i))
  | _ => fail
def min2M : List D → M D
  | [.int i, .int j] => ret (.int (if j < i then j else i))
  | _ => fail
theorem rc_max2 : RCal X (fun xs H Q => ∃ i j, xs = [.int i, .int j] ∧ Q (.int (if j > i then j else i)) H) max2M := by
  intro W w H σ s vs ds Q R r p
  unfold max2M at p
  split at p
  · obtain ⟨v, u, rfl, rv, ru⟩ := two_of r
    cases rv; cases ru
    exact ⟨_, _, rfl, Post.here p R (Rep.int _)⟩
  · exact p.elim
theorem rc_min2 : RCal X (fun xs H Q => ∃ i j, xs = [.int i, .int j] ∧ Q (.int (if j < i then j else i)) H) min2M := by
  intro W w H σ s vs ds Q R r p
  unfold min2M at p
  split at p
  · obtain ⟨v, u, rfl, rv, ru⟩ := two_of r
    cases rv; cases ru
    exact ⟨_, _, rfl, Post.here p R (Rep.int _)⟩
  · exact p.elim
def negM : D → M D
  | .int i => ret (.int (-i))
  | _ => fail
theorem de_neg {e : Expr} {f : M D} {pos : Pos} (h : DE X W e f) : DE X W (.UnaryOp .USub e pos) (bnd f negM) := by
  obtain ⟨t, p, r⟩ := h
  refine ⟨_, pe_un un_neg p, fun w H σ s Q R z => ?_⟩
  refine r.bnd R z fun d s1 w1 H1 v l1 R1 r1 p1 => ?_
  cases r1 with
  | int i => exact ⟨i, rfl, Post.here p1 R1 (Rep.int _)⟩
  | _ => exact p1.elim
/-! ### methods of lists and texts -/
def isTy (T : String) (s : S) (d : D) : Bool := match d with
  | .str _ => T == "str"
  | d => (T == "list" && (lstOf s d).isSome) || (T == "dict" && (dctOf s d).isSome)
theorem tyV_of {K : PySem.W.Frag} {w : Wd} {H : Hp} {σ : L2.St} {s : S} {v : V} {d : D} {T : String} (R : RS K w H σ s) (r : Rep K w v d) (h : isTy T s d = true) : tyV K T v H := by
  unfold isTy at h
  split at h
  · cases r
    show T = "str"
    simpa using h
  · rw [Bool.or_eq_true, Bool.and_eq_true, Bool.and_eq_true] at h
    rcases h with ⟨h1, h2⟩ | ⟨h1, h2⟩
    · obtain ⟨ds, hd⟩ := Option.isSome_iff_exists.mp h2
      obtain ⟨a, vs, rfl, h3, _⟩ := R.list r hd
      exact .inl ⟨by simpa using h1, vs, h3⟩
    · obtain ⟨ds, hd⟩ := Option.isSome_iff_exists.mp h2
      obtain ⟨a, vs, rfl, h3, _⟩ := R.dict r hd
      exact .inr (.inr (.inl ⟨by simpa using h1, .inl ⟨vs, h3⟩⟩))
def methM (T : String) (f : M D) (fs : M (List D)) (g : D → List D → M D) : M D := bnd f fun d s => if isTy T s d = true then bnd fs (fun ds => g d ds) s else .bad
def meth0M (T : String) (f : M D) (g : D → M D) : M D := bnd f fun d s => if isTy T s d = true then g d s else .bad
def RMt (X : Cx) (r : V → List V → Hp → VK → Prop) (g : D → List D → M D) : Prop := ∀ (W : WX) w H σ s v vs d ds Q, RS X.K w H σ s → Rep X.K w v d → RepL X.K w vs ds → Post X.K W (pD X.K) w H σ (g d ds s) Q → r v vs H Q
theorem de_meth {o e : Expr} {es : List Expr} {f : M D} {fs : M (List D)} {g : D → List D → M D} {name : Str} {ap pos : Pos} {T id : String} {r : V → List V → Hp → VK → Prop} (hr : RMt X r g) (pa : PlainAttrs T) (slot : Slot T name id) (hty : typeOf (.builtin id) = pure (.type "method_descriptor")) (hm : MtR X id r)
    (ho : DE X W o f) (ha : DA X W (e :: es) fs) (hbase : attributeBase o name X.env (eval o X.env) = eval o X.env := by rfl)
    (hfew : ((backTo pos (starEach (e :: es) X.env)).all (fun x => !x.1) && (backToKw pos (keywordEach [] X.env)).all (fun x => x.1.isSome)
      && decide ((e :: es).length + ([] : List Keyword).length + (if ([] : List Keyword).isEmpty then 0 else 1) < 30)) = true := by rfl)
    (hline : (ap.endLine == pos.line) = true := by rfl) (hs : starEach (e :: es) X.env = (false, eval e X.env) :: starEach es X.env := by rfl) (hplain : (backTo pos (starEach es X.env)).any (·.1) = false := by rfl) :
    DE X W (.Call (.Attribute o name ap) (e :: es) [] pos) (methM T f fs g) := by
  obtain ⟨to, po, ro⟩ := ho
  obtain ⟨ta, qa, ra⟩ := ha
  refine ⟨_, pe_bm pa slot hty hm po qa hbase hfew hline hs hplain, fun w H σ s Q R z => ?_⟩
  refine ro.bnd R z fun d s1 w1 H1 v l1 R1 r1 p1 => ?_
  split at p1
  · next k =>
    refine ⟨tyV_of R1 r1 k, ?_⟩
    refine ra.bnd R1 p1 fun ds s2 w2 H2 vs l2 R2 r2 p2 => ?_
    exact hr W w2 H2 σ s2 v vs d ds Q R2 (Rep.up l2 r1) r2 p2
  · exact p1.elim
theorem de_meth0 {o : Expr} {f : M D} {g : D → M D} {name : Str} {ap pos : Pos} {T id : String} {r : V → List V → Hp → VK → Prop} (hr : RMt X r fun d _ => g d) (pa : PlainAttrs T) (slot : Slot T name id) (hty : typeOf (.builtin id) = pure (.type "method_descriptor")) (hm : MtR X id r)
    (ho : DE X W o f) (hbase : attributeBase o name X.env (eval o X.env) = eval o X.env := by rfl) (hline : (ap.endLine == pos.line) = true := by rfl) :
    DE X W (.Call (.Attribute o name ap) [] [] pos) (meth0M T f g) := by
  obtain ⟨to, po, ro⟩ := ho
  refine ⟨_, pe_bm0 pa slot hty hm po hbase hline, fun w H σ s Q R z => ?_⟩
  refine ro.bnd R z fun d s1 w1 H1 v l1 R1 r1 p1 => ?_
  split at p1
  · next k => exact ⟨tyV_of R1 r1 k, hr W w1 H1 σ s1 v [] d [] Q R1 r1 .nil p1⟩
  · exact p1.elim
/-- a list that stands by itself is written -/
def wrM (d : D) (g : List D → M (List D × D)) : M D := fun s => match d with
  | .cell n => match s.vh[n]? with
    | some (.lst ds) => match g ds s with
      | .ok (es, y) s' => .ok y { s' with vh := s'.vh.set n (.lst es) }
      | _ => .bad
    | _ => .bad
  | _ => .bad
def appM (d : D) : List D → M D
  | [e] => wrM d fun ds s => if ds.length < sizeLine then .ok (ds ++ [e], .non) s else .bad
  | _ => fail
theorem RS.wr {K : PySem.W.Frag} {w : Wd} {H : Hp} {σ : L2.St} {s : S} {v : V} {d : D} {g : List D → M (List D × D)} {Q : V → Hp → Prop} (R : RS K w H σ s) (r : Rep K w v d) (p : Post K W (pD K) w H σ (wrM d g s) Q) :
    ∃ (a : Addr) (vs : List V) (ds es : List D) (y : D) (s' : S), v = .ref a ∧ H a = some (.lst vs) ∧ RepL K w vs ds ∧ g ds s = .ok (es, y) s' ∧ (s' = s → ∀ us u, RepL K w us es → Rep K w u y → Q u (upd H a (.lst us))) := by
  unfold wrM at p
  cases r with
  | @cell a n h1 =>
    obtain ⟨c, e, hc⟩ := R.cellOf h1
    dsimp only at p
    rw [e] at p
    cases c with
    | dct _ => exact p.elim
    | lst ds =>
      obtain ⟨vs, h2, h3⟩ := hc
      dsimp only at p
      cases hg : g ds s with
      | exc _ _ => rw [hg] at p; exact p.elim
      | bad => rw [hg] at p; exact p.elim
      | ok q s' =>
        rw [hg] at p
        obtain ⟨es, y⟩ := q
        refine ⟨a, vs, ds, es, y, s', rfl, h2, h3, hg, fun e us u r1 r2 => ?_⟩
        subst e
        exact p w _ u (Le.write (List.mem_of_getElem? h1)) (R.setCell h1 ⟨us, upd_same, r1⟩) r2
  | _ => exact p.elim
theorem rm_append : RMt X rAppend appM := by
  intro W w H σ s v vs d ds Q R r rs p
  unfold appM at p
  split at p
  · next e =>
    obtain ⟨u, rfl, ru⟩ := one_of rs
    obtain ⟨a, us, ds, es, y, s', rfl, h1, h2, h3, h4⟩ := R.wr r p
    split at h3
    · next k =>
      cases h3
      exact ⟨a, us, u, rfl, rfl, h1, by rw [RepL.length h2]; exact k, h4 rfl _ _ (RepL.append h2 (.cons ru .nil)) Rep.non⟩
    · cases h3
  · exact p.elim
theorem de_append {o e : Expr} {f : M D} {fs : M (List D)} {ap pos : Pos} (ho : DE X W o f) (ha : DA X W [e] fs) (hbase : attributeBase o "append" X.env (eval o X.env) = eval o X.env := by rfl)
    (hfew : ((backTo pos (starEach [e] X.env)).all (fun x => !x.1) && (backToKw pos (keywordEach [] X.env)).all (fun x => x.1.isSome)
      && decide (([e] : List Expr).length + ([] : List Keyword).length + (if ([] : List Keyword).isEmpty then 0 else 1) < 30)) = true := by rfl)
    (hline : (ap.endLine == pos.line) = true := by rfl) (hs : starEach [e] X.env = (false, eval e X.env) :: starEach [] X.env := by rfl) (hplain : (backTo pos (starEach [] X.env)).any (·.1) = false := by rfl) :
    DE X W (.Call (.Attribute o "append" ap) [e] [] pos) (methM "list" f fs appM) :=
  de_meth rm_append PySem.F.plainAttrs_list PySem.F.slot_list_append PySem.F.type_list_append mt_append ho ha hbase hfew hline hs hplain
/-! sep.join(list of texts) -/
def strsOf : List D → Option (List Str)
  | [] => some []
  | .str x :: r => (strsOf r).map (x :: ·)
  | _ => none
def joinOk (a : Str) (ys : List Str) : Bool := decide ((ys.map (·.length)).sum + ys.length * a.length ≤ 16777216)
def seqOf (s : S) : D → Option (List D)
  | .tup ds => some ds
  | d => lstOf s d
def joinM (d : D) : List D → M D
  | [e] => fun s => match d with
    | .str a => match seqOf s e with
      | some ds => match strsOf ds with
        | some ys => if joinOk a ys = true then .ok (.str (Txt.join a ys)) s else .bad
        | none => .bad
      | none => .bad
    | _ => .bad
  | _ => fail
theorem strs_rep {K : PySem.W.Frag} {w : Wd} : ∀ {vs : List V} {ds : List D} {ys : List Str}, RepL K w vs ds → strsOf ds = some ys → vs = ys.map V.str
  | _, _, ys, .nil, h => by cases h; rfl
  | _, _, ys, .cons (d := d) (ds := ds) r t, h => by
    cases r with
    | str x =>
      unfold strsOf at h
      cases e : strsOf ds with
      | none => rw [e] at h; cases h
      | some zs => rw [e] at h; cases h; rw [strs_rep t e]; rfl
    | _ => cases h
theorem rm_join : RMt X (fun x xs H Q => ∃ a p, ∃ ys : List Str, x = .str a ∧ xs = [.ref p] ∧ (SqL X.K H p (ys.map V.str) ∨ SqT X.K H p (ys.map V.str)) ∧
    (ys.map (·.length)).sum + ys.length * a.length ≤ 16777216 ∧ Q (.str (Txt.join a ys)) H) joinM := by
  intro W w H σ s v vs d ds Q R r rs p
  unfold joinM at p
  split at p
  · next e =>
    obtain ⟨u, rfl, ru⟩ := one_of rs
    split at p
    · next a =>
      cases r
      split at p
      · next es he =>
        split at p
        · next ys hy =>
          split at p
          · next k =>
            have hk : (ys.map (·.length)).sum + ys.length * a.length ≤ 16777216 := of_decide_eq_true k
            unfold seqOf at he
            split at he
            · next ts =>
              cases he
              obtain ⟨q, us, rfl, h1, h2⟩ := R.tuple ru (ds := es) rfl
              rw [strs_rep h2 hy] at h1
              exact ⟨a, q, ys, rfl, rfl, .inr h1, hk, Post.here p R (Rep.str _)⟩
            · obtain ⟨q, us, rfl, h1, h2⟩ := R.list ru he
              rw [strs_rep h2 hy] at h1
              exact ⟨a, q, ys, rfl, rfl, .inl h1, hk, Post.here p R (Rep.str _)⟩
          · exact p.elim
        · exact p.elim
      · exact p.elim
    · exact p.elim
  · exact p.elim
def jnM (f g : M D) : M D := bnd f fun d s => match d with
  | .str a => bnd g (fun e => joinM (.str a) [e]) s
  | _ => .bad
theorem de_join {o e : Expr} {f g : M D} {ap pos : Pos} (ho : DE X W o f) (he : DE X W e g) (hs : starEach [e] X.env = [(false, eval e X.env)] := by rfl) (hbase : attributeBase o "join" X.env (eval o X.env) = eval o X.env := by rfl) (hline : (ap.endLine == pos.line) = true := by rfl) :
    DE X W (.Call (.Attribute o "join" ap) [e] [] pos) (jnM f g) := by
  obtain ⟨to, po, ro⟩ := ho
  obtain ⟨te, pe, re⟩ := he
  refine ⟨_, pe_join po pe hs hbase hline, fun w H σ s Q R z => ?_⟩
  refine ro.bnd R z fun d s1 w1 H1 v l1 R1 r1 p1 => ?_
  cases r1 with
  | str a =>
    have p1 : Post X.K W (pD X.K) w1 H1 σ (bnd g (fun e => joinM (.str a) [e]) s1) Q := p1
    refine ⟨⟨a, rfl⟩, ?_⟩
    refine re.bnd R1 p1 fun e s2 w2 H2 u l2 R2 r2 p2 => ?_
    exact rm_join W w2 H2 σ s2 _ [u] (.str a) [e] Q R2 (.str a) (.cons r2 .nil) p2
  | _ => exact p1.elim
/-! ### for the printed texts -/
def isM : D → D → M D := fun d e => match e with | .non => isNonM d | _ => fail
def isnotM : D → D → M D := fun d e => match e with | .non => notNonM d | _ => fail
theorem rop_is : ROp X (fun x y H Q => y = .non ∧ Q (.bl (decide (x = .non))) H) isM := rop_isN
theorem rop_isnot : ROp X (fun x y H Q => y = .non ∧ Q (.bl (!decide (x = .non))) H) isnotM := rop_notN
theorem de_gI' {x : Str} {i : Int} {pos : Pos} (hm : ∃ t, X.mg x = some (.int i t)) (hg : Gl X x := by rfl) (hd : (x == ("__debug__" : Str)) = false := by decide) : DE X W (.Name x pos) (ret (.int i)) := let ⟨_, h⟩ := hm; de_gI hg h hd
theorem de_gS' {x z : Str} {pos : Pos} (hm : ∃ t, X.mg x = some (.str z t)) (hg : Gl X x := by rfl) (hd : (x == ("__debug__" : Str)) = false := by decide) : DE X W (.Name x pos) (ret (.str z)) := let ⟨_, h⟩ := hm; de_gS hg h hd
theorem pg_n {i : Nat} {x : Str} {pos : Pos} (hN : X.N.Nodup) (hi : X.N[i]? = some x := by rfl) (hx : Loc X.env.scope x := by first | exact Or.inl rfl | exact Or.inr rfl) (hf : X.fn x = true ∨ X.env.scope.names.lookup x = some .local := by first | exact .inl rfl | exact .inr rfl) : PG X (.Name x pos) (gName i) := pg_name hN hi hx hf
/-- a def as the top leaves it -/
structure Top (K : PySem.W.Frag) (mg : Str → Option Value) (x : Str) (st : Stmt) (ps : List Str) : Prop where
  ex : ∃ (f : Addr) (fd : FuncData), Fun K x x st f fd ∧ mg x = some (.ref f) ∧ Binds K fd ps [] ∧ ∀ (s : Shared) (us : List Value), us.length = ps.length → BindsTo s fd ⟨us, []⟩ (ps.zip us)
theorem top_mk {K : PySem.W.Frag} {h : Heap} {mg : Str → Option Value} (X : K.In h) (G : h.Ns mainGlobals mg) {x : Str} {st : Stmt} {ps : List Str} {f : Addr} {oc : Value} {od an : Option Addr} {osl : Array (Option Value)} {kV doc pm cdv ct : Value} (a : PySem.W.nsIn K mainGlobals x = some (some (.ref f)))
    (l : K.lookup f = some ⟨oc, od, .func (PySem.W.fnOf x x (defArgs st) (defBody st) (defScope st) .none kV doc pm an cdv ct), osl⟩) (c : PySem.W.codeIn K cdv x = true) (k : PySem.W.keepIn K (.ref f) = true)
    (b : ∀ (kV doc pm : Value) (an : Option Addr) (cdv ct : Value) (us : List Value), us.length = ps.length → bindArgs (PySem.W.fnOf x x (defArgs st) (defBody st) (defScope st) .none kV doc pm an cdv ct) ⟨us, []⟩ = pure (ps.zip us)) : Top K mg x st ps :=
  have F := fun_mk (st := st) l c k
  ⟨f, _, F, PySem.W.mg_of X G a, F.binds b, fun s us hl => .of_eq (b _ _ _ _ _ _ us hl)⟩
theorem Top.fn {P : Program} {wd : World} {K : PySem.W.Frag} {mg : Str → Option Value} {base : Heap} {x : Str} {st : Stmt} {N ps : List Str} {k : Nat} {g : M Out} (T : Top K mg x st ps) (Sc : FnScope N ps (defScope st)) (hle : ps.length ≤ N.length)
    (body : ∀ (f : Addr) (cdv : Value) (A : Around) (outer : List Env) (s : Shared) (H : Hp) (E : XK), Room k (A.deeper (envOfC x (defScope st) s.heap.objs.size f cdv)) →
      DSs (cxOf CX0 P wd K mg base N x (defScope st) f cdv A outer s H E).nox W0 (defBody st) g) : FnP P wd K mg base x ps.length (k + 1) (runP N.length g) :=
  let ⟨f, fd, F, m, b, _⟩ := T.ex
  ⟨f, fd, ps, rfl, m, F.kp, b, fn_pure F Sc hle fun cdv A outer s H E hr => body f cdv A outer s H E hr⟩
theorem Top.law {P : Program} {wd : World} {K : PySem.W.Frag} {mg : Str → Option Value} {x y : Str} {st : Stmt} {N : List Str} {k : Nat} {g : M Out} (T : Top K mg x st [y]) (Sc : FnScope N [y] (defScope st)) (hle : 1 ≤ N.length)
    (body : ∀ (base : Heap), K.In base → base.Ns mainGlobals mg → ∀ (f : Addr) (cdv : Value) (A : Around) (outer : List Env) (s : Shared) (H : Hp) (E : XK), Room k (A.deeper (envOfC x (defScope st) s.heap.objs.size f cdv)) →
      DSs (cxOf CX0 P wd K mg base N x (defScope st) f cdv A outer s H E).nox W0 (defBody st) g) :
    ∃ (fa : Addr) (fd : FuncData), mg x = some (.ref fa) ∧ (∀ (s : Shared) (u : Value), BindsTo s fd ⟨[u], []⟩ [(y, u)]) ∧ ∀ base : Heap, K.In base → base.Ns mainGlobals mg → FnOk P wd K mg base CX0 (k + 1) fa fd [y] (SpP K 1 (runP N.length g)) :=
  let ⟨f, fd, F, m, _, b⟩ := T.ex
  ⟨f, fd, m, fun s u => b s [u] rfl, fun base X G => fn_pure F Sc hle fun cdv A outer s H E hr => body base X G f cdv A outer s H E hr⟩
theorem ints_rep {K : PySem.W.Frag} {w : Wd} : ∀ ns : List Int, RepL K w (ns.map V.int) (ns.map D.int)
  | [] => .nil
  | n :: r => .cons (.int n) (ints_rep r)
/-- the law's def: from the script to True -/
theorem law_end {l : PySem.W.OpenLaw} {q : Program} {loose : List Str} {XP : (Str → Option Value) → Heap → Prop} {YP : World → Heap → Prop} {d : DefRec} {K : Params → PySem.W.Frag} {x : Str} {k : Nat} {F : Pf} (hn : l.most = some 63) (hdf : d.params.defaults = []) (hd : d.name = "law") (hr : Room k callerA)
    (hY : ∀ (w : World) (h : Heap), YP w h → (K w.params).In h)
    (W : ∀ (w : World) (mg : Str → Option Value) (h : Heap), (K w.params).In h → h.Ns mainGlobals mg → (∃ (fa : Addr) (fd : FuncData), mg "law" = some (.ref fa) ∧ (∀ (s : Shared) (u : Value), BindsTo s fd ⟨[u], []⟩ [(x, u)]) ∧
      ∀ base : Heap, (K w.params).In base → base.Ns mainGlobals mg → FnOk l.prog w (K w.params) mg base CX0 k fa fd [x] (SpP (K w.params) 1 F)))
    (hF : ∀ ns : List Int, ns.length ≤ 63 → (∀ z ∈ ns, Builtin.Int.intBits z ≤ 1048576) → F [.lst (ns.map D.int)] [] = some (.bl true)) :
    PySem.W.WalkO q loose XP YP l.row.toRowW d [] (fun f vs => PySem.call f vs) := by
  refine L2.walk_ofB (n := 63) (k := k) (x := x) (CX := fun _ => CX0) (sp := fun w => SpP (K w.params) 1 F) hn (by decide) hdf hr hY (fun w mg fa h X G hmg => ?_) (fun w H a ns hl hb _ hS => ?_) fun _ _ _ _ _ z => z
  · obtain ⟨fa', fd, e, b, G'⟩ := W w mg h X G
    rw [hd, e] at hmg
    cases hmg
    exact ⟨fd, b, G'⟩
  · refine ⟨rfl, ⟨[], H⟩, [], ⟨[], []⟩, [.lst (ns.map D.int)], .bl true, ⟨fun _ _ h => h, rfl, fun i d h => by simp at h, rfl, .nil, fun _ h => by simp at h, fun n a c e => by simp at e⟩, .cons (.lst hS (ints_rep ns)) .nil, hF ns hl hb, fun w' H' v _ _ r => ?_⟩
    cases r
    rfl
end Fx

namespace Fx
open PySem PySem.Spec PyProof.Rows L2
variable {X : Cx} {W : WX}
/-! ### a < b of numbers, texts, alike data -/
def rLtData (K : PySem.W.Frag) : R2 := fun x y H Q => ∃ d e, Dp K H x d ∧ Dp K H y e ∧ PySem.W.alike d e = true ∧ d ≠ .none ∧ d.depth ≤ 64 ∧ Q (.bl (PySem.W.dataLt d e)) H
theorem op_ltData (hu : X.A.units + 64 < cLine) : OpR X (compareOp .Lt) (rLtData X.K) := by
  intro pins s σ H x y v u Q I rx ry h
  obtain ⟨d, e, hd, he, al, dn, sd, q⟩ := h
  obtain ⟨as, r1⟩ := Dp.reads I d x v hd rx
  obtain ⟨bs, r2⟩ := Dp.reads I e y u he ry
  exact PySem.W.lt_data r1 r2 al dn (Nat.lt_of_le_of_lt (Nat.add_le_add_left (Nat.le_trans (Nat.min_le_left _ _) sd) _) hu) ⟨.bl _, H, I, rfl, q⟩
def rLtA (K : PySem.W.Frag) : R2 := fun x y H Q => rI0 (fun i j => .bl (decide (i < j))) x y H Q ∨ (∃ i j, x = .str i ∧ y = .str j ∧ Q (.bl (decide (i.cps.toList < j.cps.toList))) H) ∨ rLtData K x y H Q
theorem op_ltA (hu : X.A.units + 64 < cLine) : OpR X (compareOp .Lt) (rLtA X.K) := opr_or op_lt (opr_or op_lt_str (op_ltData hu))
def ltAM : D → D → M D
  | .int i, .int j => ret (.bl (decide (i < j)))
  | .str a, .str b => ret (.bl (decide (a.cps.toList < b.cps.toList)))
  | .tup a, .tup b => fun s => match pyD s (.tup a), pyD s (.tup b) with
    | some p, some q => if (PySem.W.alike p q && decide (p.depth ≤ 64)) = true then .ok (.bl (PySem.W.dataLt p q)) s else .bad
    | _, _ => .bad
  | _, _ => fail
theorem rop_ltA : ROp X (rLtA X.K) ltAM := by
  intro W w H σ s x y d e Q R rx ry p
  unfold ltAM at p
  split at p
  · cases rx; cases ry; exact .inl ⟨_, _, rfl, rfl, Post.here p R (Rep.bl _)⟩
  · cases rx; cases ry; exact .inr (.inl ⟨_, _, rfl, rfl, Post.here p R (Rep.bl _)⟩)
  · next a b =>
    split at p
    · next p1 q1 h1 h2 =>
      split at p
      · next k =>
        rw [Bool.and_eq_true, decide_eq_true_eq] at k
        refine .inr (.inr ⟨p1, q1, R.py rx h1, R.py ry h2, k.1, ?_, k.2, Post.here p R (Rep.bl _)⟩)
        intro z
        subst z
        unfold pyD at h1
        dsimp only at h1
        unfold pyT at h1
        cases h3 : pyL a with
        | none => rw [h3] at h1; cases h1
        | some y => rw [h3] at h1; cases h1
      · exact p.elim
    · exact p.elim
  · exact p.elim
/-! ### a slice of a text, a list, a tuple (not the whole of it) -/
theorem slr_or {r1 r2 : V → Option Int → Option Int → Hp → VK → Prop} (h1 : SlR X r1) (h2 : SlR X r2) : SlR X (fun x l u H Q => r1 x l u H Q ∨ r2 x l u H Q) := by
  intro pins s σ H x v vl vu lo hi sl Q I rx hs pl pu h
  rcases h with h | h
  · exact h1 pins s σ H x v vl vu lo hi sl Q I rx hs pl pu h
  · exact h2 pins s σ H x v vl vu lo hi sl Q I rx hs pl pu h
def whole (n : Nat) (l u : Option Int) : Bool := decide (HT.sIx n 0 l = 0) && decide (HT.sIx n n u = n)
def slV (d : D) (l u : Option Int) : M D := fun s => match d with
  | .str x => if lenOk x.length = true then .ok (.str (cutS x l u)) s else .bad
  | .tup ds => if whole ds.length l u = true then .bad else .ok (.tup (cutD ds l u)) s
  | d => match lstOf s d with
    | some ds => .ok (.lst (cutD ds l u)) s
    | none => .bad
def slM (f : M D) (lo hi : M (Option Int)) : M D := bnd f fun d => bnd lo fun l => bnd hi fun u => slV d l u
theorem de_sl {e : Expr} {lo hi : Option Expr} {f : M D} {fl fh : M (Option Int)} {pos p2 : Pos} (h : DE X W e f) (hl : DO X W lo fl) (hh : DO X W hi fh) : DE X W (.Subscript e (.Slice lo hi none p2) pos) (slM f fl fh) := by
  obtain ⟨t, p, r⟩ := h
  obtain ⟨tl, pl, rl⟩ := hl
  obtain ⟨th, ph, rh⟩ := hh
  refine ⟨_, pe_slice (slr_or sl_str (slr_or sl_list sl_tup)) p pl ph, fun w H σ s Q R z => ?_⟩
  refine r.bnd R z fun d s1 w1 H1 v1 l1 R1 r1 p1 => ?_
  refine rl.bnd R1 p1 fun a s2 w2 H2 v2 l2 R2 r2 p2 => ?_
  refine rh.bnd R2 p2 fun b s3 w3 H3 v3 l3 R3 r3 p3 => ?_
  cases r2; cases r3
  replace r1 := Rep.up l3 (Rep.up l2 r1)
  unfold slV at p3
  split at p3
  · next x =>
    cases r1
    split at p3
    · next k => exact .inl ⟨x, rfl, of_decide_eq_true k, Post.here p3 R3 (Rep.str _)⟩
    · exact p3.elim
  · next ds =>
    split at p3
    · exact p3.elim
    · next k =>
      obtain ⟨a', vs, rfl, h1, h2⟩ := R3.tuple r1 (ds := ds) rfl
      refine .inr (.inr ⟨a', vs, rfl, h1, fun z => k ?_, fun q hq => ?_⟩)
      · unfold whole
        rw [← RepL.length h2, decide_eq_true z.1, decide_eq_true z.2]
        rfl
      · obtain ⟨l4, R4, r4⟩ := R3.newT hq (h2.cut a b)
        exact p3 _ _ _ l4 R4 r4
  · split at p3
    · next ds hd =>
      obtain ⟨a', vs, rfl, h1, h2⟩ := R3.list r1 hd
      refine .inr (.inl ⟨a', vs, rfl, h1, fun q hq => ?_⟩)
      obtain ⟨l4, R4, r4⟩ := R3.newL hq (h2.cut a b)
      exact p3 _ _ _ l4 R4 r4
    · exact p3.elim
end Fx

/-! Fx: sorted(xs, key=f), f a def of the text -/
namespace PySem.W
open PySem PySem.Calls PyProof.Rows
section
variable {prog : Program} {w : World} {A : Around} {E : Value → Shared → Prop} {s : Shared} {a kS : Addr} {b : Bool} {vs : List Value} {e1 : Nat} {P : PySem.Fin → Shared → Prop} {kz : List PyData}
/-- the heap with a hole at kS -/
def holed (h : Heap) (kS : Addr) : Heap := h.update kS fun o => { o with data := .freed }
theorem holed_at (h : Heap) (kS : Addr) : (holed h kS).get? kS = none := by
  unfold holed Heap.update Heap.get?
  dsimp only
  rw [Array.getElem?_modify]
  simp only [if_true]
  cases h.objs[kS]? <;> rfl
theorem holed_ne (h : Heap) {kS c : Addr} (hc : c ≠ kS) : (holed h kS).get? c = h.get? c := (Heap.SameBut.update h kS _).2 c hc
/-- the keys are made and the items sorted; J: what the caller keeps true between the calls -/
theorem keyI_rest {f : Value} (J : List Value → Shared → Prop) (j0 : J [] s) (nk : s.heap.get? kS = some (seqObj "list" #[] 0)) (na : s.heap.get? a = some (seqObj "list" #[] e1)) (hka : kS ≠ a)
    (hlen : kz.length = vs.length) (hZ : vs.length ≤ sizeLine) (hal : AllAlike kz) (hsk : Sortable kz) (hu : ∀ d, d ∈ kz → A.units + d.depth < cLine)
    (turn : ∀ (i : Nat) (v : Value) (ks : List Value) (s' : Shared) (kA : Array Value) (e : Nat), vs[i]? = some v → ks.length = i → J ks s' → s'.heap.get? kS = some (seqObj "list" kA e) → s'.heap.get? a = some (seqObj "list" #[] e1) →
      wpAny (model prog w) A (call f [v]) (fun u s'' => J (ks ++ [u]) s'' ∧ s''.heap.get? kS = some (seqObj "list" kA e) ∧ s''.heap.get? a = some (seqObj "list" #[] e1)) (fun _ _ => False) s')
    (upd : ∀ ks s' h' tk, J ks s' → Heap.SameBut kS s'.heap h' → (∃ o, h'.get? kS = some o) → J ks { s' with heap := h', toks := tk })
    (keys : ∀ ks s', J ks s' → ks.length = vs.length → EachIs (fun v k => ∃ as, Reads s'.heap v k as) ks kz)
    (h : ∀ ks s' h' tk out c, J ks s' → (∀ q o, q ≠ a → q ≠ kS → s'.heap.get? q = some o → h'.get? q = some o) → h'.get? a = some (seqObj "list" (List.toArray out) c) → KeyedOut b kz vs out → P (.done (.ret .none)) { s' with heap := h', toks := tk }) :
    wpAny (model prog w) A (ksk_rest a f b vs.toArray e1 (.ref kS)) P E s := by
  unfold ksk_rest
  refine wpAny_bind (wpAny_rule ?_)
  first
    | rw [List.forIn_toArray]
    | (rw [← Array.forIn_toList]; simp only [List.toList_toArray])
  refine wpAny_bind (ksk_fold (fun i s' => ∃ ks e, ks.length = i ∧ J ks s' ∧ s'.heap.get? kS = some (seqObj "list" ks.toArray e) ∧ s'.heap.get? a = some (seqObj "list" #[] e1)) vs 0 s ⟨[], 0, rfl, j0, nk, na⟩ ?_ ?_)
  · rintro j x s' hx ⟨ks, e, hl, hJ, nk', na'⟩
    rw [Nat.zero_add] at hl
    have hj : j < vs.length := (List.getElem?_eq_some_iff.mp hx).1
    refine wpAny_bind (wpAny_attempt (wpAny_mono (turn j x ks s' ks.toArray e hx hl hJ nk' na') (fun v s'' he => ?_) fun _ _ hF => hF.elim))
    obtain ⟨hJ2, nk2, na2⟩ := he
    dsimp only
    have s1 := Heap.SameBut.update s''.heap kS (Obj.mapSeq (·.push v))
    obtain ⟨c2, hc2⟩ : ∃ c2, (s''.heap.update kS (Obj.mapSeq (·.push v))).get? kS = some (seqObj "list" (ks.toArray.push v) c2) := ⟨_, get?_update_seq nk2 (·.push v)⟩
    refine wpAny_bind (listUpdate_at nk2 rfl ?_ (by rw [List.size_toArray]; omega) (by rw [Array.size_push, List.size_toArray]; omega))
    refine wpAny_pure ⟨rfl, ks ++ [v], c2, by rw [List.length_append, hl, Nat.zero_add]; rfl, upd _ _ _ _ hJ2 s1 ⟨_, hc2⟩, ?_, (s1.2 a hka.symm).trans na2⟩
    rw [show (ks ++ [v]).toArray = ks.toArray.push v by simp]
    exact hc2
  · rintro s' ⟨ks, e, hl, hJ, nk', na'⟩
    rw [Nat.zero_add] at hl
    try dsimp only
    refine wpAny_bind (listItems_at nk' rfl ?_)
    have hk := keys ks s' hJ hl
    refine keyH_end (κ := dataKind s'.heap kz) (h₁ := holed s'.heap kS) (s := s') (keys := ks.toArray) (fun q o hq e => ?_) (holed_at _ _) nk' na' hka (SortsAt.data (s := s') (by simpa using hk) hal hsk hu) (by rw [List.size_toArray]; exact hl) hZ fun h' tk c kp hD => ?_
    · by_cases hqk : q = kS
      · subst hqk
        rw [holed_at] at e
        cases e
      · rw [← e, holed_ne _ hqk]
    · refine h ks s' h' tk _ c hJ (fun q o h1 h2 e => kp q o h1 ((holed_ne _ h2).trans e)) hD ⟨s'.heap, ks, hal, ?_, hk⟩
      simp

theorem sortedI_key {l : Addr} {f : Value} {kw : List (Str × Value)} {Q : Value → Shared → Prop} (J : Addr → Addr → List Value → Shared → Prop) (hl : s.heap.IsList l vs.toArray) (hlen : kz.length = vs.length) (hZ : vs.length ≤ sizeLine) (hal : AllAlike kz) (hsk : Sortable kz)
    (hu : ∀ d, d ∈ kz → A.units + 2 + d.depth < cLine) (ha1 : argsOk "sorted" ⟨[.ref l], kw⟩) (ha2 : ∀ x, argsOk "list.sort" ⟨[.ref x], kw⟩) (ht : ∀ x, Builtin.«list.sort» ⟨[.ref x], kw⟩ = ksk_tree x f b)
    (j0 : ∀ a kS h' tk, s.heap.objs.size ≤ a → s.heap.objs.size ≤ kS → kS ≠ a → (∀ b o, s.heap.get? b = some o → h'.get? b = some o) → J a kS [] { s with heap := h', toks := tk })
    (turn : ∀ (a kS : Addr) (i : Nat) (v : Value) (ks : List Value) (s' : Shared) (kA : Array Value) (e e1 : Nat), vs[i]? = some v → ks.length = i → J a kS ks s' → s'.heap.get? kS = some (seqObj "list" kA e) → s'.heap.get? a = some (seqObj "list" #[] e1) →
      wpAny (model prog w) A.in1.in1 (call f [v]) (fun u s'' => J a kS (ks ++ [u]) s'' ∧ s''.heap.get? kS = some (seqObj "list" kA e) ∧ s''.heap.get? a = some (seqObj "list" #[] e1)) (fun _ _ => False) s')
    (upd : ∀ a kS ks s' h' tk, J a kS ks s' → Heap.SameBut kS s'.heap h' → (∃ o, h'.get? kS = some o) → J a kS ks { s' with heap := h', toks := tk })
    (keys : ∀ a kS ks s', J a kS ks s' → ks.length = vs.length → EachIs (fun v k => ∃ as, Reads s'.heap v k as) ks kz)
    (h : ∀ a kS ks s' h' tk out c, J a kS ks s' → (∀ q o, q ≠ a → q ≠ kS → s'.heap.get? q = some o → h'.get? q = some o) → h'.get? a = some (seqObj "list" (List.toArray out) c) → KeyedOut b kz vs out → Q (.ref a) { s' with heap := h', toks := tk }) :
    wpAny (model prog w) A (call (.builtin "sorted") [.ref l] kw) Q E s := by
  refine sorted_of_sort hl hZ ha1 ha2 fun E' => ?_
  rw [ht]
  have ho := copyHeap_at s.heap vs
  have ha : s.heap.objs.size + 1 < (copyHeap s.heap vs).objs.size := Heap.lt_size ho
  obtain ⟨e1, ho1⟩ : ∃ e1, ((copyHeap s.heap vs).update (s.heap.objs.size + 1) (Obj.mapSeq fun _ => (#[] : Array Value))).get? (s.heap.objs.size + 1) = some (seqObj "list" #[] e1) := ⟨_, get?_update_seq ho fun _ => #[]⟩
  have hkS : (((copyHeap s.heap vs).update (s.heap.objs.size + 1) (Obj.mapSeq fun _ => (#[] : Array Value))).push (seqObj "tuple" vs.toArray 0)).objs.size = (copyHeap s.heap vs).objs.size + 1 := by rw [size_push', Heap.size_update]
  have s1 := Heap.SameBut.update (copyHeap s.heap vs) (s.heap.objs.size + 1) (Obj.mapSeq fun _ => (#[] : Array Value))
  unfold ksk_tree
  refine wpAny_bind (listItems_at ho rfl ?_)
  refine wpAny_bind (listUpdate_at ho rfl ?_ (by rw [List.size_toArray]; exact hZ) (Nat.zero_le _))
  refine wpAny_bind (seqEpoch_at ho1 rfl ?_)
  refine wpAny_bind (wpAny_newTuple ?_ (by show vs.length ≤ _; exact hZ))
  refine wpAny_bind (wpAny_newList ?_ (Nat.zero_le _))
  refine wpAny_holding ?_
  have hne : (((copyHeap s.heap vs).update (s.heap.objs.size + 1) (Obj.mapSeq fun _ => (#[] : Array Value))).push (seqObj "tuple" vs.toArray 0)).objs.size ≠ s.heap.objs.size + 1 := by rw [hkS]; exact Nat.ne_of_gt (Nat.lt_succ_of_lt ha)
  refine keyI_rest (kz := kz) (s := { s with heap := (((copyHeap s.heap vs).update (s.heap.objs.size + 1) (Obj.mapSeq fun _ => (#[] : Array Value))).push (seqObj "tuple" vs.toArray 0)).push (seqObj "list" #[] 0) })
    (kS := (((copyHeap s.heap vs).update (s.heap.objs.size + 1) (Obj.mapSeq fun _ => (#[] : Array Value))).push (seqObj "tuple" vs.toArray 0)).objs.size) (J (s.heap.objs.size + 1) _)
    (j0 _ _ _ s.toks (Nat.le_succ _) (by rw [hkS]; omega) hne fun q o e => Heap.get?_push_of_some _ (Heap.get?_push_of_some _ ((s1.2 q (Nat.ne_of_lt (Nat.lt_succ_of_lt (Heap.lt_size e)))).trans (copyHeap_old e)))) (Heap.get?_push_size _ rfl) (Heap.get?_push_of_some _ (Heap.get?_push_of_some _ ho1)) hne hlen hZ hal hsk (fun d hd => hu d hd)
    (fun i v ks s' kA e => turn _ _ i v ks s' kA e e1) (upd _ _) (keys _ _) fun ks s' h' tk out c a1 a2 a3 a4 => ⟨rfl, h _ _ ks s' h' tk out c a1 a2 a3 a4⟩
end
end PySem.W
namespace Fx
open PySem PySem.Spec PyProof.Rows L2
/-- what is asked of the keys -/
def GoodK (ps : List PyData) : Prop := PySem.W.AllAlike ps ∧ PySem.W.Sortable ps ∧ ∀ p ∈ ps, p.depth ≤ 60
def sortP (ds : List D) (ps : List PyData) : List D := ((ds.zip ps).mergeSort (PySem.W.dataLe false Prod.snd)).map Prod.fst
def keysD (F : Pf) (vh : List Cell) (ds : List D) : Option (List D) := mapO (fun x => F [x] vh) ds
noncomputable def sortKM (F : Pf) (ds : List D) : M Cell := fun s => match keysD F s.vh ds with
  | some kds => match pyL kds with
    | some ps => open Classical in if GoodK ps ∧ ds.length ≤ 16777216 then .ok (.lst (sortP ds ps)) s else .bad
    | none => .bad
  | none => .bad
noncomputable def sortKN (F : Pf) (d : D) : M Cell := fun s => match itemsOf s d with
  | some ds => match d with
    | .lst _ | .cell _ => sortKM F ds s
    | _ => .bad
  | none => .bad
theorem mapO_length {f : D → Option D} : ∀ {xs ys : List D}, mapO f xs = some ys → ys.length = xs.length
  | [], ys, h => by cases h; rfl
  | x :: xs, ys, h => by
    unfold mapO at h
    cases h1 : f x with
    | none => rw [h1] at h; cases h
    | some y =>
      cases h2 : mapO f xs with
      | none => rw [h1, h2] at h; cases h
      | some zs => rw [h1, h2] at h; cases h; rw [List.length_cons, List.length_cons, mapO_length h2]
theorem mapO_at {f : D → Option D} : ∀ {xs ys : List D} {i : Nat} {x : D}, mapO f xs = some ys → xs[i]? = some x → ∃ y, ys[i]? = some y ∧ f x = some y
  | [], ys, i, x, h, e => by cases e
  | z :: xs, ys, i, x, h, e => by
    unfold mapO at h
    cases h1 : f z with
    | none => rw [h1] at h; cases h
    | some y =>
      cases h2 : mapO f xs with
      | none => rw [h1, h2] at h; cases h
      | some zs =>
        rw [h1, h2] at h; cases h
        cases i with
        | zero => cases e; exact ⟨y, rfl, h1⟩
        | succ i => exact mapO_at (i := i) h2 e
theorem pyL_length : ∀ {ds : List D} {ps : List PyData}, pyL ds = some ps → ps.length = ds.length
  | [], ps, h => by cases h; rfl
  | x :: xs, ps, h => by
    unfold pyL at h
    cases h1 : pyT x with
    | none => rw [h1] at h; cases h
    | some y =>
      cases h2 : pyL xs with
      | none => rw [h1, h2] at h; cases h
      | some zs => rw [h1, h2] at h; cases h; rw [List.length_cons, List.length_cons, pyL_length h2]
theorem RepL.snoc {K : PySem.W.Frag} {w : Wd} {v : V} {d : D} (r : Rep K w v d) : ∀ {vs : List V} {ds : List D}, RepL K w vs ds → RepL K w (vs ++ [v]) (ds ++ [d])
  | _, _, .nil => .cons r .nil
  | _, _, .cons h t => .cons h (RepL.snoc r t)
theorem RepL.at' {K : PySem.W.Frag} {w : Wd} : ∀ {vs : List V} {ds : List D} {i : Nat} {v : V}, RepL K w vs ds → vs[i]? = some v → ∃ d, ds[i]? = some d ∧ Rep K w v d
  | _, _, _, _, .nil, e => by cases e
  | _, _, 0, _, .cons h _, e => by cases e; exact ⟨_, rfl, h⟩
  | _, _, i + 1, _, .cons _ t, e => RepL.at' (i := i) t e
theorem Vals.at' : ∀ {xs : List V} {us : List Value} {i : Nat} {u : Value}, Vals xs us → us[i]? = some u → ∃ x, xs[i]? = some x ∧ RelV x u
  | _, _, _, _, .nil, e => by cases e
  | _, _, 0, _, .cons h _, e => by cases e; exact ⟨_, rfl, h⟩
  | _, _, i + 1, _, .cons _ t, e => Vals.at' (i := i) t e
theorem each_rep {K : PySem.W.Frag} {w : Wd} : ∀ {vs : List V} {ds : List D} {us : List Value} {ps : List PyData}, RepL K w vs ds → Vals vs us → ps.length = ds.length →
    PySem.W.EachIs (fun (u : Value) (b : D × PyData) => ∃ x, RelV x u ∧ Rep K w x b.1) us (ds.zip ps)
  | _, _, _, [], .nil, .nil, _ => .nil
  | _, _, _, p :: ps, .cons h t, .cons r rs, e => .cons ⟨_, r, h⟩ (each_rep t rs (by simpa using e))
theorem rep_each {K : PySem.W.Frag} {w : Wd} : ∀ {us : List Value} {bs : List (D × PyData)}, PySem.W.EachIs (fun (u : Value) (b : D × PyData) => ∃ x, RelV x u ∧ Rep K w x b.1) us bs → ∃ vs, Vals vs us ∧ RepL K w vs (bs.map Prod.fst)
  | _, _, .nil => ⟨[], .nil, .nil⟩
  | _, _, .cons ⟨x, r, h⟩ t => let ⟨vs, a, b⟩ := rep_each t; ⟨x :: vs, .cons r a, .cons h b⟩
variable {X : Cx} {W : WX}
def rSortK (K : PySem.W.Frag) (F : Pf) (f : Addr) : List V → List V → Hp → VK → Prop := fun vs zs H Q => ∃ (a : Addr) (w : Wd) (σ : L2.St) (st : S) (xs : List V) (ds kds : List D) (ps : List PyData), vs = [.ref a] ∧ zs = [.ref f] ∧ RS K w H σ st ∧ SqL K H a xs ∧ RepL K w xs ds ∧
  keysD F st.vh ds = some kds ∧ pyL kds = some ps ∧ GoodK ps ∧ ds.length ≤ 16777216 ∧ ∀ w' H' v, Le w H w' H' → RS K w' H' σ st → (pN K).p H w' H' v (.lst (sortP ds ps)) → Q v H'
theorem cr_sortK {f : Addr} {fd : FuncData} {pn : List Str} {k : Nat} {F : Pf} (hps : pn.length = 1) (hb : Binds X.K fd pn []) (G : FnOk X.prog X.w X.K X.mg X.base CX0 k f fd pn (SpP X.K 1 F)) (hr : Room (k + 2) X.A) :
    CallRK X (.builtin "sorted") [Str.ofString "key"] (rSortK X.K F f) := by
  intro pins s σ H vs zs us ws Q I r rz h
  obtain ⟨a, w, σ0, st, xs, ds, kds, ps, rfl, rfl, R, hs, hx, hk, hp, hg, hz, q⟩ := h
  obtain rfl := Vals.ref1 r
  obtain ⟨w1, rfl, e1⟩ := vals1 rz
  obtain rfl : w1 = Value.ref f := e1
  obtain ⟨its, rv, hl, hz2⟩ := I.list hs
  have l1 := RepL.length hx
  have l2 := rv.length
  have l3 := mapO_length hk
  have l4 := pyL_length hp
  have hu : X.A.units + 66 < cLine := by have := hr.un; omega
  refine PySem.W.sortedI_key (b := false) (kz := ps) (vs := its)
    (fun a' kS ks s' => s.heap.objs.size ≤ a' ∧ s.heap.objs.size ≤ kS ∧ kS ≠ a' ∧ ∃ w' H' kvs, Inv X pins σ H' s' ∧ Le w H w' H' ∧ RS X.K w' H' σ0 st ∧ Vals kvs ks ∧ RepL X.K w' kvs (kds.take ks.length) ∧ H' a' = none ∧ H' kS = none)
    hl.isList (by omega) (by omega) hg.1 hg.2.1 (fun d hd => by have := hg.2.2 d hd; omega) (PyProof.Rows.ksk_s1 _ _) (fun _ => PyProof.Rows.ksk_l1 _ _) (fun _ => PyProof.Rows.ksk_t1 _ _)
    (fun a' kS h' tk h1 h2 h3 h4 => ⟨h1, h2, h3, w, H, [], I.kept (t' := tk) h4, Le.refl _ _, R, .nil, by rw [List.length_nil, List.take_zero]; exact .nil, I.hok.fresh h1, I.hok.fresh h2⟩) ?turn ?upd ?keys ?fin
  case turn =>
    intro a' kS i v ks s' kA e e1 hv hi ⟨h1, h2, h3, w', H', kvs, I', l', R', rk, hk', n1, n2⟩ g1 g2
    obtain ⟨y, hy, ry⟩ := Vals.at' rv hv
    obtain ⟨d, hd, rd⟩ := RepL.at' hx hy
    obtain ⟨kd, hkd, hF⟩ := mapO_at hk hd
    have f1 := I.fpOk h1 n1
    have f2 := I.fpOk h2 n2
    have I2 : Inv X ((kS, seqObj "list" kA e) :: (a', seqObj "list" #[] e1) :: pins) σ H' s' := I'.pins_of fun p hp => by
      rcases List.mem_cons.mp hp with rfl | hp
      · exact ⟨g1, n2, f2.2.1, f2.2.2.1, fun v z => by cases z⟩
      · rcases List.mem_cons.mp hp with rfl | hp
        · exact ⟨g2, n1, f1.2.1, f1.2.2.1, fun v z => by cases z⟩
        · exact I'.pin p (List.mem_append_right _ hp)
    have r2 : Vals [y] [v] := .cons ry .nil
    have hr2 : Room k X.A.in1.in1 := hr.in1.in1
    have sp : SpP X.K 1 F [y] H' (fun u H2 => ∃ w2, Le w' H' w2 H2 ∧ RS X.K w2 H2 σ0 st ∧ Rep X.K w2 u kd) (fun _ _ _ => False) := ⟨rfl, w', σ0, st, [d], kd, R', .cons (Rep.up l' rd) .nil, hF, fun w2 H2 u l2 R2 r2 => ⟨w2, l2, R2, r2⟩⟩
    refine wpAny_call (codeAny_mono (G.run X.A.in1.in1 X.stack s' H' ⟨[v], []⟩ [v] [y] _ _ hr2 I2.env0.in1.in1 (hb s' [v] I2.kIn (by rw [hps]; rfl)) r2 sp) fun r s'' hq => ?_)
    cases r with
    | error e => exact hq.elim
    | ok fl =>
      cases fl with
      | next => exact False.elim hq
      | brk => exact False.elim hq
      | cont => exact False.elim hq
      | ret u =>
        obtain ⟨x, H2, I3, rx, w2, l2, R2, rk2⟩ := I2.after hq
        have p1 := I3.pin (kS, seqObj "list" kA e) (List.mem_append_right _ (.head _))
        have p2 := I3.pin (a', seqObj "list" #[] e1) (List.mem_append_right _ (.tail _ (.head _)))
        refine ⟨⟨h1, h2, h3, w2, H2, kvs ++ [x], I3.pins_of fun p hp => I3.pin p (List.mem_append_right _ (.tail _ (.tail _ hp))), l'.trans l2, R2, rk.append (.cons rx .nil), ?_, p2.2.1, p1.2.1⟩, p1.1, p2.1⟩
        rw [List.length_append, List.length_cons, List.length_nil, Nat.zero_add, List.take_add_one]
        rw [hi] at hk' ⊢
        rw [hkd]
        exact RepL.snoc rk2 (RepL.up l2 hk')
  case upd =>
    intro a' kS ks s' h' tk ⟨h1, h2, h3, w', H', kvs, I', l', R', rk, hk', n1, n2⟩ hs2 _
    have f2 := I.fpOk h2 n2
    exact ⟨h1, h2, h3, w', H', kvs, I'.turned (t' := tk) (fun b o hb e => (hs2.2 b hb).trans e) n2 f2.2.1 f2.2.2.2.1 f2.2.2.2.2.1 f2.2.2.2.2.2, l', R', rk, hk', n1, n2⟩
  case keys =>
    intro a' kS ks s' ⟨h1, h2, h3, w', H', kvs, I', l', R', rk, hk', n1, n2⟩ hlen
    rw [hlen, List.take_of_length_le (by omega)] at hk'
    obtain ⟨as, ra⟩ := Dp.readsAll I' ps kvs ks (dpL_of R'.sub hk' hp) rk
    have := PySem.W.readsAll_each (enc := id) (vs := ks) (bs := ps) (as := as) (h := s'.heap) (by rw [List.map_id]; exact ra)
    exact this
  case fin =>
    intro a' kS ks s' h' tk out c ⟨h1, h2, h3, w', H', kvs, I', l', R', rk, hk', n1, n2⟩ hkeep hD ko
    have e0 : (ds.zip ps).map Prod.snd = ps := List.map_snd_zip (by omega)
    have eo := PySem.W.keyedOut_each (R := fun (u : Value) (b : D × PyData) => ∃ x, RelV x u ∧ Rep X.K w' x b.1) (bs := ds.zip ps) (vs := its) (out := out) (rev := false) Prod.snd (by rw [e0]; exact ko) (each_rep (RepL.up l' hx) rv (by omega))
    obtain ⟨ys, ry, hy⟩ := rep_each eo
    have hly : ys.length ≤ sizeLine := by
      rw [RepL.length hy, List.length_map, List.length_mergeSort, List.length_zip]
      omega
    have f1 := I.fpOk h1 n1
    have f2 := I.fpOk h2 n2
    have na : ∀ b u, H' b = some u → b ≠ a' := fun b u e z => by rw [z, n1] at e; cases e
    have nk : ∀ b u, H' b = some u → b ≠ kS := fun b u e z => by rw [z, n2] at e; cases e
    have up : ∀ b u, H' b = some u → upd H' a' (.lst ys) b = some u := fun b u e => by rw [upd_ne (na b u e)]; exact e
    have kp : ∀ b o, b ∉ [a', kS] → s'.heap.get? b = some o → h'.get? b = some o := fun b o hb e => hkeep b o (fun z => hb (by simp [z])) (fun z => hb (by simp [z])) e
    have J : Inv X pins σ (upd H' a' (.lst ys)) { s' with heap := h', toks := tk } := by
      refine I'.step (g' := s'.gens) (d' := s'.drawn) (ch := [a', kS]) (fun b hb => ?_) (fun b o _ _ hc e _ => kp b o hc e) (fun b o _ _ hc e _ => ⟨o.slots, kp b o hc e⟩) (fun b o hc _ n => by rw [upd_ne (fun z => hc (by simp [z]))]; exact n)
        (fun b o hc e => ⟨o, kp b o hc e⟩) (fun b _ e => up b _ e) (fun b _ _ e => up b _ e) (fun b ps e => ⟨#[], by rw [up b _ e]; simp⟩) (fun m hm => ?_) (fun b u e => ?_) I'.bare
      · rcases List.mem_cons.mp hb with rfl | hb
        · exact ⟨f1.2.2.2.1, f1.2.1, f1.2.2.2.2.1, f1.2.2.2.2.2⟩
        · rw [List.mem_singleton.mp hb]
          exact ⟨f2.2.2.2.1, f2.2.1, f2.2.2.2.2.1, f2.2.2.2.2.2⟩
      · obtain ⟨o, es, ep, ho, r⟩ := hm
        exact ⟨o, es, ep, hkeep _ o (Ne.symm f1.2.1) (Ne.symm f2.2.1) ho, r⟩
      · by_cases hb : b = a'
        · subst hb
          rw [upd_same] at e
          cases e
          exact ⟨hly, out, c, ry, hD⟩
        · rw [upd_ne hb] at e
          refine (I'.hok b u e).stay (fun c v hc z => hkeep c v ?_ ?_ z) (fun c z => up c _ z) fun c xs z => up c _ z
          · rcases hc with hc | hc
            · rw [hc]; exact hb
            · exact na c _ hc
          · rcases hc with hc | hc
            · rw [hc]; exact nk b _ e
            · exact nk c _ hc
    exact ⟨.ref a', upd H' a' (.lst ys), J, rfl, q w' _ (.ref a') (l'.trans (Le.laid n1)) (R'.laid n1) ⟨a', rfl, (R'.fresh n1).1, (R'.fresh n1).2, ⟨ys, upd_same, hy⟩, I.hok.fresh h1⟩⟩
theorem dn_sortK {y : Str} {k : Nat} {F : Pf} {e : Expr} {fe : M D} {p p2 kp pos : Pos} (hm : X.mg "sorted" = none) (h : FnP X.prog X.w X.K X.mg X.base y 1 k F) (hr : Room (k + 2) X.A) (he' : DE X W e fe) (hg : Gl X "sorted" := by rfl) (hgy : Gl X y := by rfl) (hdy : (y == ("__debug__" : Str)) = false := by decide)
    (hs : starEach [e] X.env = (false, eval e X.env) :: starEach [] X.env := by rfl) (he : backTo pos (starEach [e] X.env) = (false, eval e X.env) :: backTo pos (starEach [] X.env) := by rfl) (hpl : (backTo pos (starEach [e] X.env)).any (·.1) = false := by rfl) :
    DN X W (.Call (.Name "sorted" p) [e] [⟨some "key", .Name y p2, kp⟩] pos) (bnd fe (sortKN F)) := by
  obtain ⟨f, fd, ps, hps, hmy, hk, hb, G⟩ := h.ex
  obtain ⟨t, q, r⟩ := he'
  refine ⟨_, pe_callBK (cr_sortK hps hb G hr) hg hm rfl (pa_cons q pa_nil hs) (pk_cons (pe_glob hgy hmy (v := .ref f) rfl hdy) pk_nil) (by decide) (by decide) he hpl, fun w H σ s Q R z => ?_⟩
  show t σ H fun v H1 => rSortK X.K F f [v] [.ref f] H1 Q
  refine r.bnd R z fun d s1 w1 H1 v l1 R1 r1 p1 => ?_
  unfold sortKN at p1
  split at p1
  · next ds hd =>
    have main : ∀ (hl : lstOf s1 d = some ds), Post X.K W (pN X.K) w1 H1 σ (sortKM F ds s1) Q → rSortK X.K F f [v] [.ref f] H1 Q := fun hl p1 => by
      obtain ⟨a, xs, rfl, h1, h2⟩ := R1.list r1 hl
      unfold sortKM at p1
      split at p1
      · next kds hk =>
        split at p1
        · next ps hp =>
          split at p1
          · next k =>
            exact ⟨a, w1, σ, s1, xs, ds, kds, ps, rfl, rfl, R1, h1, h2, hk, hp, k.1, k.2, p1⟩
          · exact p1.elim
        · exact p1.elim
      · exact p1.elim
    cases d with
    | lst xs => exact main hd p1
    | cell n => exact main hd p1
    | _ => exact p1.elim
  · exact p1.elim
end Fx

/-! Fx: more methods of lists -/
namespace Fx
open PySem PySem.Spec PyProof.Rows L2
variable {X : Cx} {W : WX}
/-- insert(i, x), i not below 0 -/
def insM (d : D) : List D → M D
  | [.int i, e] => wrM d fun ds s => if ds.length < sizeLine ∧ 0 ≤ i ∧ i < 2 ^ 62 then .ok (ds.take i.toNat ++ [e] ++ ds.drop i.toNat, .non) s else .bad
  | _ => fail
theorem RepL.dropN {K : PySem.W.Frag} {w : Wd} : ∀ {vs : List V} {ds : List D} (n : Nat), RepL K w vs ds → RepL K w (vs.drop n) (ds.drop n)
  | _, _, 0, h => by rw [List.drop_zero, List.drop_zero]; exact h
  | _, _, n + 1, .nil => by rw [List.drop_nil, List.drop_nil]; exact .nil
  | _, _, n + 1, .cons _ t => by rw [List.drop_succ_cons, List.drop_succ_cons]; exact RepL.dropN n t
theorem rm_insert : RMt X (fun x vs H Q => ∃ (l : Addr) (xs : List V) (i : Int) (y : V), x = .ref l ∧ vs = [.int i, y] ∧ H l = some (.lst xs) ∧ xs.length < sizeLine ∧ 0 ≤ i ∧ i < 2 ^ 63 ∧
    Q .non (upd H l (.lst (xs.take i.toNat ++ [y] ++ xs.drop i.toNat)))) insM := by
  intro W w H σ s v vs d ds Q R r rs p
  unfold insM at p
  split at p
  · next i e =>
    obtain ⟨u, u2, rfl, ru, ru2⟩ := two_of rs
    cases ru
    obtain ⟨a, us, ds, es, y, s', rfl, h1, h2, h3, h4⟩ := R.wr r p
    split at h3
    · next k =>
      cases h3
      exact ⟨a, us, i, u2, rfl, rfl, h1, by rw [RepL.length h2]; exact k.1, k.2.1, Int.lt_trans k.2.2 (by decide), h4 rfl _ _ (RepL.append (RepL.append (RepL.take _ h2) (.cons ru2 .nil)) (RepL.dropN _ h2)) Rep.non⟩
    · cases h3
  · exact p.elim
theorem de_insert {o e e2 : Expr} {f : M D} {fs : M (List D)} {ap pos : Pos} (ho : DE X W o f) (ha : DA X W [e, e2] fs) (hbase : attributeBase o "insert" X.env (eval o X.env) = eval o X.env := by rfl)
    (hfew : ((backTo pos (starEach [e, e2] X.env)).all (fun x => !x.1) && (backToKw pos (keywordEach [] X.env)).all (fun x => x.1.isSome)
      && decide (([e, e2] : List Expr).length + ([] : List Keyword).length + (if ([] : List Keyword).isEmpty then 0 else 1) < 30)) = true := by rfl)
    (hline : (ap.endLine == pos.line) = true := by rfl) (hs : starEach [e, e2] X.env = (false, eval e X.env) :: starEach [e2] X.env := by rfl) (hplain : (backTo pos (starEach [e2] X.env)).any (·.1) = false := by rfl) :
    DE X W (.Call (.Attribute o "insert" ap) [e, e2] [] pos) (methM "list" f fs insM) :=
  de_meth rm_insert PySem.F.plainAttrs_list PySem.F.slot_list_insert PySem.F.type_list_insert mt_insert ho ha hbase hfew hline hs hplain
/-- pop() -/
def popM (d : D) : M D := wrM d fun ds s => match ds[ds.length - 1]? with
  | some e => .ok (ds.dropLast, e) s
  | none => .bad
theorem RepL.dropLast {K : PySem.W.Frag} {w : Wd} {vs : List V} {ds : List D} (h : RepL K w vs ds) : RepL K w vs.dropLast ds.dropLast := by
  rw [List.dropLast_eq_take, List.dropLast_eq_take, RepL.length h]
  exact RepL.take _ h
theorem RepL.at2 {K : PySem.W.Frag} {w : Wd} : ∀ {vs : List V} {ds : List D} {i : Nat} {d : D}, RepL K w vs ds → ds[i]? = some d → ∃ v, vs[i]? = some v ∧ Rep K w v d
  | _, _, _, _, .nil, e => by cases e
  | _, _, 0, _, .cons h _, e => by cases e; exact ⟨_, rfl, h⟩
  | _, _, i + 1, _, .cons _ t, e => RepL.at2 (i := i) t e
def RMt0 (X : Cx) (r : V → List V → Hp → VK → Prop) (g : D → M D) : Prop := ∀ (W : WX) w H σ s v d Q, RS X.K w H σ s → Rep X.K w v d → Post X.K W (pD X.K) w H σ (g d s) Q → r v [] H Q
theorem de_meth00 {o : Expr} {f : M D} {g : D → M D} {name : Str} {ap pos : Pos} {T id : String} {r : V → List V → Hp → VK → Prop} (hr : RMt0 X r g) (pa : PlainAttrs T) (slot : Slot T name id) (hty : typeOf (.builtin id) = pure (.type "method_descriptor")) (hm : MtR X id r)
    (ho : DE X W o f) (hbase : attributeBase o name X.env (eval o X.env) = eval o X.env := by rfl) (hline : (ap.endLine == pos.line) = true := by rfl) :
    DE X W (.Call (.Attribute o name ap) [] [] pos) (meth0M T f g) := by
  obtain ⟨to, po, ro⟩ := ho
  refine ⟨_, pe_bm0 pa slot hty hm po hbase hline, fun w H σ s Q R z => ?_⟩
  refine ro.bnd R z fun d s1 w1 H1 v l1 R1 r1 p1 => ?_
  split at p1
  · next k => exact ⟨tyV_of R1 r1 k, hr W w1 H1 σ s1 v d Q R1 r1 p1⟩
  · exact p1.elim
theorem rm_pop : RMt0 X rPop popM := by
  intro W w H σ s v d Q R r p
  obtain ⟨a, us, ds, es, y, s', rfl, h1, h2, h3, h4⟩ := R.wr r p
  split at h3
  · next e he =>
    cases h3
    obtain ⟨u, hu, ru⟩ := RepL.at2 h2 he
    exact ⟨a, us, u, rfl, rfl, h1, by rw [RepL.length h2]; exact hu, h4 rfl _ _ (RepL.dropLast h2) ru⟩
  · cases h3
theorem de_pop {o : Expr} {f : M D} {ap pos : Pos} (ho : DE X W o f) (hbase : attributeBase o "pop" X.env (eval o X.env) = eval o X.env := by rfl) (hline : (ap.endLine == pos.line) = true := by rfl) :
    DE X W (.Call (.Attribute o "pop" ap) [] [] pos) (meth0M "list" f popM) := de_meth00 rm_pop PySem.F.plainAttrs_list PySem.F.slot_list_pop PySem.F.type_list_pop mt_pop ho hbase hline
def clrM (d : D) : M D := wrM d fun _ s => .ok ([], .non) s
theorem rm_clear : RMt0 X rClear clrM := by
  intro W w H σ s v d Q R r p
  obtain ⟨a, us, ds, es, y, s', rfl, h1, h2, h3, h4⟩ := R.wr r p
  cases h3
  exact ⟨a, us, rfl, rfl, h1, h4 rfl _ _ .nil Rep.non⟩
theorem de_clear {o : Expr} {f : M D} {ap pos : Pos} (ho : DE X W o f) (hbase : attributeBase o "clear" X.env (eval o X.env) = eval o X.env := by rfl) (hline : (ap.endLine == pos.line) = true := by rfl) :
    DE X W (.Call (.Attribute o "clear" ap) [] [] pos) (meth0M "list" f clrM) := de_meth00 rm_clear PySem.F.plainAttrs_list PySem.F.slot_list_clear PySem.F.type_list_clear mt_clear ho hbase hline
/-- isinstance(x, (A, B)) -/
def isa2M (A B : String) (d : D) : M D := fun s => match tyName s d with
  | some a => .ok (.bl (isaT A a || isaT B a)) s
  | none => .bad
end Fx

/-! Fx: defs that write cells of the caller, or hand back cells of their own -/
namespace Fx
open PySem PySem.Spec PyProof.Rows L2
variable {X : Cx} {W : WX}
abbrev Sf := List D → List Cell → Option (D × List Cell)
noncomputable def runS (n : Nat) (g : M Out) : Sf := fun ds vh => match g (initS n ds vh) with
  | .ok (.rt d) s => some (d, s.vh)
  | .ok .nx s => some (.non, s.vh)
  | _ => none
def SpS (K : PySem.W.Frag) (n : Nat) (F : Sf) : Sp := fun vs H Q _ => vs.length = n ∧ ∃ w σ s ds d vh, RS K w H σ s ∧ RepL K w vs ds ∧ F ds s.vh = some (d, vh) ∧ ∀ w' H' v, Le w H w' H' → RS K w' H' σ ⟨s.loc, vh⟩ → Rep K w' v d → Q v H'
theorem start_ok {K : PySem.W.Frag} {w : Wd} {H : Hp} {σ : L2.St} {z : S} {vs : List V} {ds : List D} {N : List Str} {ps : List Str} (R : RS K w H σ z) (rv : RepL K w vs ds) : RS K w H (start N vs) (initS N.length ds z.vh) := by
  have hdl := RepL.length rv
  refine R.other (l := ds.map some ++ List.replicate (N.length - ds.length) none) ?_ fun i d hi => ?_
  · show (vs.map some ++ List.replicate (N.length - vs.length) none).length = _
    simp only [List.length_append, List.length_map, List.length_replicate]
    rw [hdl]
  · by_cases hlt : i < ds.length
    · rw [List.getElem?_append_left (by rw [List.length_map]; exact hlt), List.getElem?_map] at hi
      cases h2 : ds[i]? with
      | none => rw [h2] at hi; cases hi
      | some d2 =>
        rw [h2] at hi; cases hi
        obtain ⟨v, h3, h4⟩ := RepL.get rv h2
        refine ⟨v, ?_, h4⟩
        show (vs.map some ++ _)[i]? = _
        rw [List.getElem?_append_left (by rw [List.length_map, hdl]; exact hlt), List.getElem?_map, h3]; rfl
    · rw [List.getElem?_append_right (by rw [List.length_map]; omega)] at hi
      have := List.mem_of_getElem? hi
      rw [List.mem_replicate] at this
      cases this.2
theorem fn_st {P : Program} {wd : World} {K : PySem.W.Frag} {mg : Str → Option Value} {base : Heap} {x qual : Str} {st : Stmt} {f : Addr} {fd : FuncData} {N ps : List Str} {k : Nat} {g : M Out} (F : Fun K x qual st f fd) (Sc : FnScope N ps (defScope st)) (hle : ps.length ≤ N.length)
    (body : ∀ (cdv : Value) (A : Around) (outer : List Env) (s : Shared) (H : Hp) (E : XK), Room k (A.deeper (envOfC qual (defScope st) s.heap.objs.size f cdv)) →
      DSs (cxOf CX0 P wd K mg base N qual (defScope st) f cdv A outer s H E).nox W0 (defBody st) g) : FnOk P wd K mg base CX0 (k + 1) f fd ps (SpS K ps.length (runS N.length g)) := by
  refine F.ok Sc (fun vs H Q E h => h.1) fun cdv A outer s H vs Q E hr h => ?_
  obtain ⟨t, p, r⟩ := body cdv A outer s H E hr
  obtain ⟨hl, w, σ, z, ds, d, vh, R, rv, e, q⟩ := h
  refine ⟨t, p, r w H _ (initS N.length ds z.vh) _ (start_ok (ps := ps) R rv) ?_⟩
  show PostS K W0 w H (g (initS N.length ds z.vh)) _
  unfold runS at e
  have fin_ok : ∀ {d0 : D} {s1 : S}, some (d0, s1.vh) = some (d, vh) → ∀ w' H' σ' v, Le w H w' H' → RS K w' H' σ' s1 → Rep K w' v d0 → Q v H' := fun {d0 s1} e w' H' σ' v l R' rv => by
    cases e
    refine q _ _ _ l (R'.other (l := z.loc) R.len fun i d hi => ?_) rv
    obtain ⟨v, h1, h2⟩ := R.loc i d hi
    exact ⟨v, h1, Rep.up l h2⟩
  cases hg : g (initS N.length ds z.vh) with
  | bad => rw [hg] at e; cases e
  | exc x s1 => rw [hg] at e; cases e
  | ok o s1 =>
    rw [hg] at e
    cases o with
    | brk => cases e
    | cnt => cases e
    | rt d0 => exact fun w' H' σ' v l R' rv => fin_ok e w' H' σ' v l R' rv
    | nx => exact fun w' H' σ' l R' => fin_ok e w' H' σ' .non l R' .non
structure FnS (P : Program) (wd : World) (K : PySem.W.Frag) (mg : Str → Option Value) (base : Heap) (x : Str) (n k : Nat) (F : Sf) : Prop where
  ex : ∃ (f : Addr) (fd : FuncData) (ps : List Str), ps.length = n ∧ mg x = some (.ref f) ∧ PySem.W.keepIn K (.ref f) = true ∧ Binds K fd ps [] ∧ FnOk P wd K mg base CX0 k f fd ps (SpS K n F)
theorem FnS.mono {P : Program} {wd : World} {K : PySem.W.Frag} {mg : Str → Option Value} {base : Heap} {x : Str} {n j k : Nat} {F : Sf} (h : FnS P wd K mg base x n j F) (l : j ≤ k) : FnS P wd K mg base x n k F :=
  let ⟨f, fd, ps, a, b, c, d, e⟩ := h.ex; ⟨f, fd, ps, a, b, c, d, e.mono l⟩
def callS (n : Nat) (F : Sf) (ds : List D) : M D := fun s => if ds.length = n then match F ds s.vh with
  | some (d, vh) => .ok d ⟨s.loc, vh⟩
  | none => .bad else .bad
theorem de_callS {x : Str} {n k : Nat} {F : Sf} {e : Expr} {es : List Expr} {fs : M (List D)} {p pos : Pos} (h : FnS X.prog X.w X.K X.mg X.base x n k F) (hr : Room k X.A) (ha : DA X W (e :: es) fs) (hg : Gl X x := by rfl) (hdb : (x == ("__debug__" : Str)) = false := by decide)
    (he : starEach (e :: es) X.env = (false, eval e X.env) :: starEach es X.env := by rfl) (hpl : (backTo pos (starEach es X.env)).any (·.1) = false := by rfl) : DE X W (.Call (.Name x p) (e :: es) [] pos) (bnd fs (callS n F)) := by
  obtain ⟨f, fd, ps, hps, hm, hk, hb, G⟩ := h.ex
  obtain ⟨t, q, r⟩ := ha
  refine ⟨_, pe_call G hr hg hm hk hb .nil pass0 q hdb he hpl, fun w H σ s Q R z => ?_⟩
  refine r.bnd R z fun ds s1 w1 H1 vs l1 R1 r1 p1 => ?_
  have p1 : Post X.K W (pD X.K) w1 H1 σ (if ds.length = n then match F ds s1.vh with
    | some (d, vh) => .ok d ⟨s1.loc, vh⟩
    | none => .bad else .bad) Q := p1
  by_cases hl : ds.length = n
  · rw [if_pos hl] at p1
    cases hF : F ds s1.vh with
    | none => rw [hF] at p1; exact p1.elim
    | some dv =>
      obtain ⟨d, vh⟩ := dv
      rw [hF] at p1
      refine ⟨?_, w1, σ, s1, ds, d, vh, R1, ?_, hF, fun w' H' v l R' r' => p1 w' H' v l R' r'⟩
      · rw [List.append_nil, RepL.length r1]; exact hl
      · rw [List.append_nil]; exact r1
  · rw [if_neg hl] at p1; exact p1.elim
end Fx
namespace Fx
open PySem PySem.Spec PyProof.Rows L2
theorem Top.fnS {P : Program} {wd : World} {K : PySem.W.Frag} {mg : Str → Option Value} {base : Heap} {x : Str} {st : Stmt} {N ps : List Str} {k : Nat} {g : M Out} (T : Top K mg x st ps) (Sc : FnScope N ps (defScope st)) (hle : ps.length ≤ N.length)
    (body : ∀ (f : Addr) (cdv : Value) (A : Around) (outer : List Env) (s : Shared) (H : Hp) (E : XK), Room k (A.deeper (envOfC x (defScope st) s.heap.objs.size f cdv)) →
      DSs (cxOf CX0 P wd K mg base N x (defScope st) f cdv A outer s H E).nox W0 (defBody st) g) : FnS P wd K mg base x ps.length (k + 1) (runS N.length g) :=
  let ⟨f, fd, F, m, b, _⟩ := T.ex
  ⟨f, fd, ps, rfl, m, F.kp, b, fn_st F Sc hle fun cdv A outer s H E hr => body f cdv A outer s H E hr⟩
/-- a def that is never called (the bottom of a recursion) -/
theorem Top.nil {P : Program} {wd : World} {K : PySem.W.Frag} {mg : Str → Option Value} {base : Heap} {x : Str} {st : Stmt} {ps : List Str} {k : Nat} (T : Top K mg x st ps) : FnP P wd K mg base x ps.length k (fun _ _ => none) :=
  let ⟨f, fd, F, m, b, _⟩ := T.ex
  ⟨f, fd, ps, rfl, m, F.kp, b, fun _ _ _ _ h => h.1, fun _ _ _ _ _ _ _ _ _ _ _ _ _ h => by obtain ⟨_, _, _, _, _, _, _, _, e, _⟩ := h; cases e⟩
theorem Top.nilS {P : Program} {wd : World} {K : PySem.W.Frag} {mg : Str → Option Value} {base : Heap} {x : Str} {st : Stmt} {ps : List Str} {k : Nat} (T : Top K mg x st ps) : FnS P wd K mg base x ps.length k (fun _ _ => none) :=
  let ⟨f, fd, F, m, b, _⟩ := T.ex
  ⟨f, fd, ps, rfl, m, F.kp, b, fun _ _ _ _ h => h.1, fun _ _ _ _ _ _ _ _ _ _ _ _ _ h => by obtain ⟨_, _, _, _, _, _, _, _, _, e, _⟩ := h; cases e⟩
end Fx

/-! Fx: isinstance(x, (A, B)), zip of two lists or of two tuples -/
namespace Fx
open PySem PySem.Spec PyProof.Rows L2
variable {X : Cx} {W : WX}
theorem kit_two {K : PySem.W.Frag} {a A B : String} (h1 : PySem.W.kitOne K (.type a) (.type A) = some (isaT A a)) (h2 : PySem.W.kitOne K (.type a) (.type B) = some (isaT B a)) : PySem.W.kitAny K (.type a) [.type A, .type B] = some (isaT A a || isaT B a) := by
  unfold PySem.W.kitAny
  rw [h1]
  cases isaT A a with
  | true => rfl
  | false =>
    dsimp only
    unfold PySem.W.kitAny
    rw [h2]
    cases isaT B a <;> rfl
theorem de_isa2 (A B : String) {e : Expr} {f : M D} {p pa pb tpos pos : Pos} {kk : Nat} (hi : X.mg "isinstance" = none) (hA : X.mg (Str.ofString A) = none) (hB : X.mg (Str.ofString B) = none) (h : DE X W e f) (hvA : bootBuiltins (Str.ofString A) = some (.type A)) (hvB : bootBuiltins (Str.ofString B) = some (.type B)) (hTA : A ∈ sixT := by decide) (hTB : B ∈ sixT := by decide)
    (hg : Gl X "isinstance" := by rfl) (hgA : Gl X (Str.ofString A) := by rfl) (hgB : Gl X (Str.ofString B) := by rfl)
    (hnA : Str.ofString A ≠ "__name__" := by decide) (hdA : (Str.ofString A == ("__debug__" : Str)) = false := by decide) (hnB : Str.ofString B ≠ "__name__" := by decide) (hdB : (Str.ofString B == ("__debug__" : Str)) = false := by decide)
    (hst : starEach [e, .Tuple [.Name (Str.ofString A) pa, .Name (Str.ofString B) pb] kk tpos] X.env = (false, eval e X.env) :: starEach [.Tuple [.Name (Str.ofString A) pa, .Name (Str.ofString B) pb] kk tpos] X.env := by rfl)
    (hst2 : starEach [.Tuple [.Name (Str.ofString A) pa, .Name (Str.ofString B) pb] kk tpos] X.env = (false, eval (.Tuple [.Name (Str.ofString A) pa, .Name (Str.ofString B) pb] kk tpos) X.env) :: starEach [] X.env := by rfl)
    (hst3 : starEach [.Name (Str.ofString A) pa, .Name (Str.ofString B) pb] X.env = (false, eval (.Name (Str.ofString A) pa) X.env) :: starEach [.Name (Str.ofString B) pb] X.env := by rfl) (hst4 : starEach [.Name (Str.ofString B) pb] X.env = (false, eval (.Name (Str.ofString B) pb) X.env) :: starEach [] X.env := by rfl)
    (hpl : (backTo pos (starEach [.Tuple [.Name (Str.ofString A) pa, .Name (Str.ofString B) pb] kk tpos] X.env)).any (·.1) = false := by rfl) :
    DE X W (.Call (.Name "isinstance" p) [e, .Tuple [.Name (Str.ofString A) pa, .Name (Str.ofString B) pb] kk tpos] [] pos) (bnd f (isa2M A B)) := by
  obtain ⟨t, q, k⟩ := h
  refine ⟨_, pe_callB call_isiT hg hi (by decide +kernel) (pa_cons q (pa_cons (pe_tup (pa_cons (pe_bltn (v := .ty A) hgA hA hvA rfl hnA hdA) (pa_cons (pe_bltn (v := .ty B) hgB hB hvB rfl hnB hdB) pa_nil hst4) hst3)) pa_nil hst2) hst) (by decide) (by decide) hst hpl, fun w H σ s Q R z => ?_⟩
  refine k.bnd R z fun d s1 w1 H1 v l1 R1 r1 p1 => ?_
  have p1 : Post X.K W (pD X.K) w1 H1 σ (match tyName s1 d with
    | some a => .ok (.bl (isaT A a || isaT B a)) s1
    | none => .bad) Q := p1
  cases ht : tyName s1 d with
  | none => rw [ht] at p1; exact p1.elim
  | some a =>
    rw [ht] at p1
    refine ⟨by show 2 ≤ sizeLine; decide, fun tp htp => ?_⟩
    have R2 : RS X.K w1 (upd H1 tp (.tup [.ty A, .ty B])) σ s1 := R1.laid htp
    refine ⟨v, tp, [.ty A, .ty B], .type a, [.type A, .type B], isaT A a || isaT B a, rfl, upd_same, .cons (.ty A) (.cons (.ty B) .nil), tyx_of R2 r1 ht, kit_two (kit_ty (kit_all A hTA a (tyName_in ht))) (kit_ty (kit_all B hTB a (tyName_in ht))), ?_⟩
    exact p1 w1 _ _ (Le.laid htp) R2 (Rep.bl _)
/-! zip -/
noncomputable def zipA : List D → M Wk
  | [a, b] => fun s => match lstOf s a, lstOf s b with
    | some xs, some ys => .ok ⟨List.zipWith (fun x y => D.tup [x, y]) xs ys, fun s' => lstOf s' a = some xs ∧ lstOf s' b = some ys⟩ s
    | _, _ => match tupOf a, tupOf b with
      | some xs, some ys => .ok ⟨List.zipWith (fun x y => D.tup [x, y]) xs ys, fun _ => True⟩ s
      | _, _ => .bad
  | _ => fun _ => .bad
theorem pI_zipT {K : PySem.W.Frag} {w0 : Wd} {a b : Addr} {d e : D} {xs ys : List D} (ra : Rep K w0 (.ref a) d) (rb : Rep K w0 (.ref b) e) (k1 : tupOf d = some xs) (k2 : tupOf e = some ys) : wkI K w0 (RZ.ItzT K a b) ⟨List.zipWith (fun x y => D.tup [x, y]) xs ys, fun _ => True⟩ := by
  intro w H σ s l R hok i
  obtain ⟨a', vs, e1, h1, h2⟩ := R.tuple (ra.upW l) k1
  cases e1
  obtain ⟨b', us, e2, h3, h4⟩ := R.tuple (rb.upW l) k2
  cases e2
  have hlen : (List.zipWith (fun x y => D.tup [x, y]) xs ys).length = min xs.length ys.length := List.length_zipWith
  refine ⟨fun hi => ?_, fun hi => ⟨vs, us, h1, h3, ?_⟩, fun x H' hy d' hd => ?_⟩
  · have hi : i < (List.zipWith (fun x y => D.tup [x, y]) xs ys).length := hi
    rw [hlen] at hi
    obtain ⟨v, hv, _⟩ := RepL.get h2 (List.getElem?_eq_getElem (show i < xs.length by omega))
    obtain ⟨u, hu, _⟩ := RepL.get h4 (List.getElem?_eq_getElem (show i < ys.length by omega))
    exact ⟨vs, us, v, u, h1, h3, hv, hu⟩
  · have hi : (List.zipWith (fun x y => D.tup [x, y]) xs ys).length ≤ i := hi
    rw [hlen] at hi
    rw [RepL.length h2, RepL.length h4]
    omega
  · obtain ⟨T, x1, y1, rfl, nT, rfl, f1, f2⟩ := hy
    have hd : (List.zipWith (fun x y => D.tup [x, y]) xs ys)[i]? = some d' := hd
    obtain ⟨v1, hv1⟩ : ∃ v, xs[i]? = some v := by
      have := (List.getElem?_eq_some_iff.mp hd).1
      rw [hlen] at this
      exact ⟨_, List.getElem?_eq_getElem (show i < xs.length by omega)⟩
    obtain ⟨v2, hv2⟩ : ∃ v, ys[i]? = some v := by
      have := (List.getElem?_eq_some_iff.mp hd).1
      rw [hlen] at this
      exact ⟨_, List.getElem?_eq_getElem (show i < ys.length by omega)⟩
    rw [List.getElem?_zipWith, hv1, hv2] at hd
    cases hd
    obtain ⟨u1, hu1, r1⟩ := RepL.get h2 hv1
    obtain ⟨u2, hu2, r2⟩ := RepL.get h4 hv2
    have e1 := f1 vs h1
    have e2 := f2 us h3
    rw [hu1] at e1; cases e1
    rw [hu2] at e2; cases e2
    obtain ⟨l2, R2, r⟩ := R.newT nT (.cons r1 (.cons r2 .nil))
    exact ⟨_, l2, R2, r⟩
theorem di_zipA {es : List Expr} {kk : Nat} {tpos : Pos} {a b : Expr} {f : M (List D)} {p pos : Pos} (hm : X.mg "zip" = none) (h : DA X W [a, b] f) (hg : Gl X "zip" := by rfl)
    (hs : starEach [a, b] X.env = (false, eval a X.env) :: starEach [b] X.env := by rfl) (hpl : (backTo pos (starEach [b] X.env)).any (·.1) = false := by rfl) :
    DI X W (.Tuple es kk tpos) (.Call (.Name "zip" p) [a, b] [] pos) (bnd f zipA) := by
  obtain ⟨t, q, r⟩ := h
  refine ⟨_, RZ.pi_zipA hg hm q hs hpl, fun w H σ s R0 R z => ?_⟩
  refine r.bnd R z fun ds s1 w1 H1 vs l1 R1 r1 p1 => ?_
  cases r1 with
  | nil => exact p1.elim
  | cons h t =>
    cases t with
    | nil => exact p1.elim
    | cons h2 t2 =>
      cases t2 with
      | cons _ _ => exact p1.elim
      | nil =>
        unfold zipA at p1
        dsimp only at p1
        split at p1
        · next xs ys hx hy =>
          obtain ⟨a', vs, e1, q1, q2⟩ := R1.list h hx
          subst e1
          obtain ⟨b', us, e2, q3, q4⟩ := R1.list h2 hy
          subst e2
          exact ⟨a', b', vs, us, rfl, .inl ⟨q1, q3, p1 w1 H1 _ (Le.refl _ _) R1 (pI_zip h h2)⟩⟩
        · split at p1
          · next xs ys hx hy =>
            obtain ⟨a', vs, e1, q1, q2⟩ := R1.tuple h hx
            subst e1
            obtain ⟨b', us, e2, q3, q4⟩ := R1.tuple h2 hy
            subst e2
            exact ⟨a', b', vs, us, rfl, .inr ⟨q1, q3, p1 w1 H1 _ (Le.refl _ _) R1 (pI_zipT h h2 hx hy)⟩⟩
          · exact p1.elim
end Fx

/-! the equations by which a printed text is reckoned -/
namespace Fx
open PySem PySem.Spec PyProof.Rows L2
/-- an equation that simp is to use as a step of its own -/
theorem nr {α : Sort _} {a b : α} (h : a = b) : a = b := h
theorem runP_of {n : Nat} {g : M Out} {ds : List D} {vh : List Cell} {d : D} (h : ∃ l, g (initS n ds vh) = .ok (.rt d) ⟨l, vh⟩) (hn : nc vh.length d = true) : runP n g ds vh = some d := by
  obtain ⟨l, h⟩ := h
  unfold runP
  rw [h]
  show fin vh ⟨l, vh⟩ d = some d
  unfold fin
  rw [if_pos (by exact List.take_length)]
  unfold thaw
  rw [if_pos hn]
/-- a list that was made cell by cell is handed back -/
theorem runP_cell {n : Nat} {g : M Out} {ds : List D} {vh more : List Cell} {es : List D} {k : Nat} (h : ∃ l, g (initS n ds vh) = .ok (.rt (.cell (vh.length + k))) ⟨l, vh ++ more⟩) (hk : more[k]? = some (.lst es)) (hn : ncL vh.length es = true) : runP n g ds vh = some (.lst es) := by
  obtain ⟨l, h⟩ := h
  have hm : ∀ es : List D, ncL vh.length es = true → mapO (thaw (vh ++ more) vh.length 7) es = some es := fun es => by
    induction es with
    | nil => intro _; rfl
    | cons x xs ih =>
      intro h
      have h : (nc vh.length x && ncL vh.length xs) = true := h
      rw [Bool.and_eq_true] at h
      unfold mapO
      rw [ih h.2]
      have : thaw (vh ++ more) vh.length 7 x = some x := by unfold thaw; rw [if_pos h.1]
      rw [this]
  unfold runP
  rw [h]
  show fin vh ⟨l, vh ++ more⟩ _ = _
  unfold fin
  rw [if_pos (by show (vh ++ more).take vh.length = vh; exact List.take_left)]
  unfold thaw
  rw [if_neg (by simp [nc])]
  show (match (vh ++ more)[vh.length + k]? with | some (.lst ds) => (mapO (thaw (vh ++ more) vh.length 7) ds).map D.lst | _ => none) = _
  rw [List.getElem?_append_right (by omega), Nat.add_sub_cancel_left, hk]
  show (mapO (thaw (vh ++ more) vh.length 7) es).map D.lst = _
  rw [hm es hn]; rfl
def Res.then' {α β : Type} (r : Res α) (k : α → M β) : Res β := match r with
  | .ok a s => k a s
  | .exc e s => .exc e s
  | .bad => .bad
def Res.andThen (r : Res Out) (q : M Out) : Res Out := match r with
  | .ok .nx s' => q s'
  | r => r
section
variable {α β : Type}
theorem x_bnd {m : M α} {k : α → M β} {s : S} : bnd m k s = (m s).then' k := nr rfl
theorem x_ok {a : α} {s : S} {k : α → M β} : (Res.ok a s).then' k = k a s := nr rfl
theorem x_ret {a : α} {s : S} : ret a s = .ok a s := nr rfl
theorem x_fail {s : S} : (fail : M α) s = .bad := nr rfl
theorem x_ite {c : Prop} [Decidable c] {a b : Res α} {k : α → M β} : (if c then a else b).then' k = if c then a.then' k else b.then' k := by split <;> rfl
theorem x_iteM {c : Prop} [Decidable c] {a b : M α} {s : S} : (if c then a else b) s = if c then a s else b s := by split <;> rfl
theorem x_bad {k : α → M β} : (Res.bad : Res α).then' k = .bad := nr rfl
end
def look (o : Option (Option D)) (s : S) : Res D := match o with
  | some (some d) => .ok d s
  | _ => .bad
theorem x_get {i : Nat} {s : S} : getL i s = look s.loc[i]? s := nr rfl
theorem x_look {d : D} {s : S} : look (some (some d)) s = .ok d s := nr rfl
theorem x_set {i : Nat} {s : S} {d : D} : setL i d s = .ok .nx ⟨s.loc.set i (some d), s.vh⟩ := nr rfl
theorem x_seq {p q : M Out} {s : S} : seqM p q s = (p s).andThen q := by unfold seqM Res.andThen; rfl
theorem x_nx {s : S} {q : M Out} : (Res.ok Out.nx s).andThen q = q s := nr rfl
theorem x_rt {d : D} {s : S} {q : M Out} : (Res.ok (Out.rt d) s).andThen q = .ok (.rt d) s := nr rfl
theorem x_brk {s : S} {q : M Out} : (Res.ok Out.brk s).andThen q = .ok .brk s := nr rfl
theorem x_cnt {s : S} {q : M Out} : (Res.ok Out.cnt s).andThen q = .ok .cnt s := nr rfl
theorem x_bad2 {q : M Out} : (Res.bad : Res Out).andThen q = .bad := nr rfl
theorem x_ite2 {c : Prop} [Decidable c] {a b : Res Out} {q : M Out} : (if c then a else b).andThen q = if c then a.andThen q else b.andThen q := by split <;> rfl
theorem x_asg {p : M D} {t : D → M Out} {s : S} : asgM p t s = (p s).then' t := nr rfl
theorem x_retM {p : M D} {s : S} : retM p s = (p s).then' fun d => ret (.rt d) := nr rfl
theorem x_drop {p : M D} {s : S} : dropM p s = (p s).then' fun _ => ret .nx := nr rfl
theorem x_if {c : M Bool} {p q : M Out} {s : S} : ifM c p q s = (c s).then' fun b => if b = true then p else q := nr rfl
theorem x_itM {c : M Bool} {p q : M D} {s : S} : iteM c p q s = (c s).then' fun b => if b = true then p else q := nr rfl
theorem x_asB {b : Bool} {s : S} : asB (.bl b) s = .ok b s := nr rfl
theorem x_bin {op : D → D → M D} {a b : M D} {s : S} : bin op a b s = (a s).then' fun d => bnd b fun e => op d e := nr rfl
theorem x_tst {a : M D} {s : S} : tst a s = (a s).then' asB := nr rfl
theorem x_and {p q : M D} {s : S} : andV p q s = (p s).then' fun d => bnd (asB d) fun c => if c = true then q else ret (.bl false) := nr rfl
theorem x_or {p q : M D} {s : S} : orV p q s = (p s).then' fun d => bnd (asB d) fun c => if c = true then ret (.bl true) else q := nr rfl
theorem x_not {p : M D} {s : S} : notV p s = (p s).then' fun d => bnd (asB d) fun c => ret (.bl (!c)) := nr rfl
theorem x_andT {p q : M Bool} {s : S} : andT p q s = (p s).then' fun c => if c = true then q else ret false := nr rfl
theorem x_orT {p q : M Bool} {s : S} : orT p q s = (p s).then' fun c => if c = true then ret true else q := nr rfl
theorem x_notT {p : M Bool} {s : S} : notT p s = (p s).then' fun c => ret (!c) := nr rfl
theorem x_cons {p : M D} {q : M (List D)} {s : S} : consM p q s = (p s).then' fun d => bnd q fun ds => ret (d :: ds) := nr rfl
def callR (o : Option D) (s : S) : Res D := match o with
  | some d => .ok d s
  | none => .bad
theorem x_call {n : Nat} {F : Pf} {ds : List D} {s : S} : callP n F ds s = if ds.length = n then callR (F ds s.vh) s else .bad := nr rfl
theorem x_callR {d : D} {s : S} : callR (some d) s = .ok d s := nr rfl
theorem x_isa {T : String} {d : D} {s : S} : isaM T d s = match tyName s d with | some a => .ok (.bl (isaT T a)) s | none => .bad := nr rfl
theorem x_sub {i j : Int} {s : S} : subM (.int i) (.int j) s = .ok (.int (i - j)) s := nr rfl
theorem x_add {i j : Int} {s : S} : addM (.int i) (.int j) s = .ok (.int (i + j)) s := nr rfl
theorem x_addS {i j : Str} {s : S} : addM (.str i) (.str j) s = if lenOk (i.length + j.length) = true then .ok (.str (i ++ j)) s else .bad := by
  show (if lenOk (i.length + j.length) = true then ret (D.str (i ++ j)) else fail) s = _
  split <;> rfl
theorem x_mod {i j : Int} {s : S} (h : 0 < j) : modM (.int i) (.int j) s = .ok (.int (i % j)) s := by
  show (if decide (0 < j) = true then ret _ else fail) s = _
  rw [if_pos (decide_eq_true h)]; rfl
theorem x_div {i j : Int} {s : S} (h : 0 < j) (h2 : j.natAbs.log2 < 9000) : divM (.int i) (.int j) s = .ok (.int (i / j)) s := by
  show (if (decide (0 < j) && decide (j.natAbs.log2 < 9000)) = true then ret _ else fail) s = _
  rw [if_pos (by rw [decide_eq_true h, decide_eq_true h2]; rfl)]; rfl
theorem x_mul {i j : Int} {s : S} (h : i.natAbs.log2 + j.natAbs.log2 < 100000000) : mulM (.int i) (.int j) s = .ok (.int (i * j)) s := by
  show (if decide (i.natAbs.log2 + j.natAbs.log2 < 100000000) = true then ret _ else fail) s = _
  rw [if_pos (decide_eq_true h)]; rfl
theorem x_pow {i j : Int} {s : S} (h : 0 ≤ j) (h2 : j ≤ 1000000) (h3 : i.natAbs < 2 ^ 64) : powM (.int i) (.int j) s = .ok (.int (i ^ j.toNat)) s := by
  show (if (decide (0 ≤ j) && (decide (j ≤ 1000000) && decide (i.natAbs < 2 ^ 64))) = true then ret _ else fail) s = _
  rw [if_pos (by rw [decide_eq_true h, decide_eq_true h2, decide_eq_true h3]; rfl)]; rfl
theorem x_shr {i j : Int} {s : S} (h : 0 ≤ j) : shrM (.int i) (.int j) s = .ok (.int (i / 2 ^ j.toNat)) s := by
  show (if decide (0 ≤ j) = true then ret _ else fail) s = _
  rw [if_pos (decide_eq_true h)]; rfl
theorem x_shl {i j : Int} {s : S} (h : 0 ≤ j) (h2 : j ≤ 1000000) (h3 : i.natAbs < 2 ^ 64) : shlM (.int i) (.int j) s = .ok (.int (i * 2 ^ j.toNat)) s := by
  show (if (decide (0 ≤ j) && (decide (j ≤ 1000000) && decide (i.natAbs < 2 ^ 64))) = true then ret _ else fail) s = _
  rw [if_pos (by rw [decide_eq_true h, decide_eq_true h2, decide_eq_true h3]; rfl)]; rfl
theorem x_xor {i j : Int} {s : S} : xorM (.int i) (.int j) s = .ok (.int (Builtin.bitXor i j)) s := nr rfl
theorem x_band {i j : Int} {s : S} : andM (.int i) (.int j) s = .ok (.int (Builtin.bitAnd i j)) s := nr rfl
theorem x_lt {i j : Int} {s : S} : ltAM (.int i) (.int j) s = .ok (.bl (decide (i < j))) s := nr rfl
theorem x_ltS {i j : Str} {s : S} : ltAM (.str i) (.str j) s = .ok (.bl (decide (i.cps.toList < j.cps.toList))) s := nr rfl
theorem x_le {i j : Int} {s : S} : leM (.int i) (.int j) s = .ok (.bl (decide (i ≤ j))) s := nr rfl
theorem x_gt {i j : Int} {s : S} : gtM (.int i) (.int j) s = .ok (.bl (decide (j < i))) s := nr rfl
theorem x_ge {i j : Int} {s : S} : geM (.int i) (.int j) s = .ok (.bl (decide (j ≤ i))) s := nr rfl
theorem x_eqI {i j : Int} {s : S} : eqM (.int i) (.int j) s = .ok (.bl (decide (i = j))) s := by
  show (if (SeqAt.shaped (PyData.int i) && SeqAt.shaped (PyData.int j)) = true then Res.ok (D.bl (PyData.eqv (.int i) (.int j))) s else .bad) = _
  rw [if_pos (by rfl)]
  simp [PyData.eqv, Bool.beq_eq_decide_eq]
theorem x_neI {i j : Int} {s : S} : neM (.int i) (.int j) s = .ok (.bl (!decide (i = j))) s := by
  show (if (SeqAt.shaped (PyData.int i) && SeqAt.shaped (PyData.int j)) = true then Res.ok (D.bl (!PyData.eqv (.int i) (.int j))) s else .bad) = _
  rw [if_pos (by rfl)]
  simp [PyData.eqv, Bool.beq_eq_decide_eq]
theorem x_true {α : Sort _} {a b : α} : (if true = true then a else b) = a := nr rfl
theorem x_false {α : Sort _} {a b : α} : (if false = true then a else b) = b := nr rfl
theorem x_aug {f : Int → Int → Int} {i : Nat} {p : M D} {s : S} : augI f i p s = (getL i s).then' fun a => bnd p fun b => augF f i a b := nr rfl
theorem x_augF {f : Int → Int → Int} {i : Nat} {x y : Int} {s : S} : augF f i (.int x) (.int y) s = .ok .nx ⟨s.loc.set i (some (.int (f x y))), s.vh⟩ := nr rfl
theorem x_forM {f : M Wk} {t : D → M Out} {b : M Out} {s : S} : forM f t b s = (f s).then' fun it => loopM it.ok t b it.items := nr rfl
theorem x_ran1 {n : Int} {s : S} (h : okB n = true) : ran1I [.int n] s = .ok ⟨ranD 0 n.toNat, fun _ => True⟩ s := by
  show (if okB n = true then _ else _) = _
  rw [if_pos h]
theorem x_ran2 {lo n : Int} {s : S} (h : okB lo = true) (h2 : okB n = true) : ran2I [.int lo, .int n] s = .ok ⟨ranD lo (n - lo).toNat, fun _ => True⟩ s := by
  show (if (okB lo && okB n) = true then _ else _) = _
  rw [if_pos (by rw [h, h2]; rfl)]
theorem okB_of {i : Int} (h : -(2 ^ 62) ≤ i) (h2 : i < 2 ^ 62) : okB i = true := by
  unfold okB
  rw [decide_eq_true h, decide_eq_true h2]; rfl
theorem x_seqL {ds : List D} {s : S} : seqI (.lst ds) s = .ok ⟨ds, fun s' => itemsOf s' (.lst ds) = some ds⟩ s := nr rfl
theorem x_seqT {ds : List D} {s : S} : seqI (.tup ds) s = .ok ⟨ds, fun s' => itemsOf s' (.tup ds) = some ds⟩ s := nr rfl
theorem x_seqS {x : Str} {s : S} : seqI (.str x) s = .ok ⟨signs x, fun s' => itemsOf s' (.str x) = some (signs x)⟩ s := nr rfl
theorem x_frz {m : M Cell} {s : S} : frzM m s = (m s).then' fun c => match c with | .lst ds => ret (.lst ds) | .dct _ => fail := nr rfl
theorem x_own {m : M Cell} {s : S} : ownM m s = (m s).then' fun c s => .ok (.cell s.vh.length) ⟨s.loc, s.vh ++ [c]⟩ := nr rfl
theorem lenOk_of {n : Nat} (h : n ≤ 16777216) : lenOk n = true := decide_eq_true (Nat.le_trans h (by decide))
theorem x_lst {q : M (List D)} {s : S} : lstN q s = (q s).then' fun ds => if lenOk ds.length = true then ret (.lst ds) else fail := nr rfl
theorem x_tup {q : M (List D)} {s : S} : tupM q s = (q s).then' fun ds => if lenOk ds.length = true then ret (.tup ds) else fail := nr rfl
theorem x_lenL {ds : List D} {s : S} : lenM [.lst ds] s = .ok (.int ds.length) s := nr rfl
theorem x_lenT {ds : List D} {s : S} : lenM [.tup ds] s = .ok (.int ds.length) s := nr rfl
theorem x_lenS {x : Str} {s : S} (h : lenOk x.length = true) : lenM [.str x] s = .ok (.int x.length) s := by
  show (if lenOk x.length = true then _ else _) = _
  rw [if_pos h]
def Res.opt {α : Type} (o : Option α) (s : S) : Res α := match o with
  | some y => .ok y s
  | none => .bad
theorem x_opt {α : Type} {y : α} {s : S} : Res.opt (some y) s = .ok y s := nr rfl
theorem x_ixL {ds : List D} {i : Int} {s : S} : ixM (.lst ds) (.int i) s = Res.opt (atI ds i) s := by cases h : atI ds i <;> simp [ixM, lstOf, Res.opt, h]
theorem x_ixT {ds : List D} {i : Int} {s : S} : ixM (.tup ds) (.int i) s = Res.opt (atI ds i) s := by cases h : atI ds i <;> simp [ixM, Res.opt, h]
theorem x_slL {f : M D} {lo hi : M (Option Int)} {s : S} : slL f lo hi s = (f s).then' fun d => bnd lo fun l => bnd hi fun u => fun s => match lstOf s d with | some ds => .ok (.lst (cutD ds l u)) s | none => .bad := nr rfl
theorem x_slM {f : M D} {lo hi : M (Option Int)} {s : S} : slM f lo hi s = (f s).then' fun d => bnd lo fun l => bnd hi fun u => slV d l u := nr rfl
theorem x_slVL {ds : List D} {l u : Option Int} {s : S} : slV (.lst ds) l u s = .ok (.lst (cutD ds l u)) s := nr rfl
theorem x_slVS {x : Str} {l u : Option Int} {s : S} : slV (.str x) l u s = if lenOk x.length = true then .ok (.str (cutS x l u)) s else .bad := nr rfl
theorem x_min2 {i j : Int} {s : S} : min2M [.int i, .int j] s = .ok (.int (if j < i then j else i)) s := nr rfl
theorem x_max2 {i j : Int} {s : S} : max2M [.int i, .int j] s = .ok (.int (if j > i then j else i)) s := nr rfl
theorem x_abs {i : Int} {s : S} : absM [.int i] s = .ok (.int (if i < 0 then -i else i)) s := nr rfl
theorem x_neg {i : Int} {s : S} : negM (.int i) s = .ok (.int (-i)) s := nr rfl
theorem x_part {f : M D} {s : S} : partM f s = (f s).then' fun d => match d with | .int i => ret (some i) | _ => fail := nr rfl
/-! comprehensions, loops -/
/-- every turn gives v d and leaves the cells -/
theorem lc_map {ok : S → Prop} {i : Nat} {c : M Bool} {e : M D} {l0 l : List (Option D)} {vh : List Cell} {q : D → Bool} {v : D → D} (hok : ∀ l, ok ⟨l, vh⟩) : ∀ (ds acc : List D), (acc.length + ds.length ≤ 16777216) →
    (∀ d ∈ ds, ∃ l1, c ⟨l0.set i (some d), vh⟩ = .ok (q d) ⟨l1, vh⟩ ∧ (q d = true → ∃ l2, e ⟨l1, vh⟩ = .ok (v d) ⟨l2, vh⟩)) →
    lcLoop ok i c e l0 l ds acc ⟨l0, vh⟩ = .ok (.lst (acc ++ (ds.filter q).map v)) ⟨l, vh⟩
  | [], acc, _, _ => by
    unfold lcLoop
    rw [if_pos (hok l0)]
    simp
  | d :: ds, acc, hl, h => by
    obtain ⟨l1, h1, h2⟩ := h d (List.mem_cons_self)
    have hlen : acc.length < sizeLine := Nat.lt_of_lt_of_le (show acc.length < 16777216 by simp at hl; omega) (by decide)
    unfold lcLoop
    rw [if_pos ⟨hok l0, hlen⟩]
    cases hq : q d with
    | false =>
      rw [hq] at h1
      have e1 : c { (⟨l0, vh⟩ : S) with loc := l0.set i (some d) } = .ok false ⟨l1, vh⟩ := h1
      rw [e1]
      have := lc_map (l := l) hok ds acc (by simp at hl; omega) (fun d' hd => h d' (List.mem_cons_of_mem _ hd))
      rw [List.filter_cons, if_neg (by rw [hq]; decide)]
      exact this
    | true =>
      rw [hq] at h1
      obtain ⟨l2, h3⟩ := h2 hq
      have e1 : c { (⟨l0, vh⟩ : S) with loc := l0.set i (some d) } = .ok true ⟨l1, vh⟩ := h1
      rw [e1]
      dsimp only
      rw [h3]
      have := lc_map (l := l) hok ds (acc ++ [v d]) (by simp at hl ⊢; omega) (fun d' hd => h d' (List.mem_cons_of_mem _ hd))
      rw [List.filter_cons, if_pos hq, List.map_cons]
      simpa using this
theorem lcM_map {f : M Wk} {i : Nat} {c : M Bool} {e : M D} {l : List (Option D)} {vh : List Cell} {items : List D} {ok : S → Prop} {q : D → Bool} {v : D → D} (hf : f ⟨l, vh⟩ = .ok ⟨items, ok⟩ ⟨l, vh⟩) (hok : ∀ l, ok ⟨l, vh⟩) (hl : items.length ≤ 16777216)
    (h : ∀ d ∈ items, ∃ l1, c ⟨(l.set i none).set i (some d), vh⟩ = .ok (q d) ⟨l1, vh⟩ ∧ (q d = true → ∃ l2, e ⟨l1, vh⟩ = .ok (v d) ⟨l2, vh⟩)) : lcM f i c e ⟨l, vh⟩ = .ok (.lst ((items.filter q).map v)) ⟨l, vh⟩ := by
  unfold lcM
  rw [bnd_ok hf]
  have := lc_map (l := l) hok items [] (by simpa using hl) h
  simpa using this
/-- without a test -/
theorem lcM_all {f : M Wk} {i : Nat} {e : M D} {l : List (Option D)} {vh : List Cell} {items : List D} {ok : S → Prop} {v : D → D} (hf : f ⟨l, vh⟩ = .ok ⟨items, ok⟩ ⟨l, vh⟩) (hok : ∀ l, ok ⟨l, vh⟩) (hl : items.length ≤ 16777216)
    (h : ∀ d ∈ items, ∃ l2, e ⟨(l.set i none).set i (some d), vh⟩ = .ok (v d) ⟨l2, vh⟩) : lcM f i yesM e ⟨l, vh⟩ = .ok (.lst (items.map v)) ⟨l, vh⟩ := by
  have := lcM_map (c := yesM) (q := fun _ => true) (v := v) hf hok hl fun d hd => ⟨_, rfl, fun _ => h d hd⟩
  rw [this, List.filter_eq_self.mpr (fun _ _ => rfl)]
/-- a for loop by what holds between its turns; it may leave by a return where Pv says so -/
theorem loopM_all {ok : S → Prop} {t : D → M Out} {b : M Out} (Pv : Nat → S → Prop) (items : List D) (hok : ∀ i s, Pv i s → ok s)
    (hs : ∀ (i : Nat) d s, items[i]? = some d → Pv i s → ∃ s1, t d s = .ok .nx s1 ∧ ∃ s2, (b s1 = .ok .nx s2 ∨ b s1 = .ok .cnt s2) ∧ Pv (i + 1) s2) : ∀ (k : Nat) s, k ≤ items.length → Pv k s → ∃ s2, loopM ok t b (items.drop k) s = .ok .nx s2 ∧ Pv items.length s2 := by
  intro k s hk hp
  generalize hm : items.length - k = m
  induction m generalizing k s with
  | zero =>
    have e : k = items.length := by omega
    subst e
    refine ⟨s, ?_, hp⟩
    rw [List.drop_length]
    unfold loopM
    rw [if_pos (hok _ _ hp)]
  | succ m ih =>
    have hlt : k < items.length := by omega
    obtain ⟨s1, h1, s2, h2, h3⟩ := hs k items[k] s (List.getElem?_eq_getElem hlt) hp
    obtain ⟨s3, h4, h5⟩ := ih (k + 1) s2 (by omega) h3 (by omega)
    refine ⟨s3, ?_, h5⟩
    rw [List.drop_eq_getElem_cons hlt]
    unfold loopM
    rw [if_pos (hok _ _ hp), h1]
    dsimp only
    rcases h2 with h2 | h2 <;> rw [h2] <;> exact h4
/-- a while by a measure -/
theorem whileM_all {c : M Bool} {b : M Out} (Pv : S → Prop) (μ : S → Nat) (hs : ∀ s, Pv s → (∃ s1, c s = .ok true s1 ∧ ∃ s2, (b s1 = .ok .nx s2 ∨ b s1 = .ok .cnt s2) ∧ Pv s2 ∧ μ s2 < μ s) ∨ ∃ s1, c s = .ok false s1 ∧ Pv s1 ∧ c s1 = .ok false s1) :
    ∀ (n : Nat) s, Pv s → μ s < n → ∃ s2 s3, whileM c b n s = .ok .nx s2 ∧ Pv s2 ∧ c s3 = .ok false s2 := by
  intro n
  induction n with
  | zero => intro s _ h; omega
  | succ n ih =>
    intro s hp hm
    rcases hs s hp with ⟨s1, h1, s2, h2, h3, h4⟩ | ⟨s1, h1, h2, h3⟩
    · obtain ⟨s3, s4, h5, h6, h7⟩ := ih s2 h3 (by omega)
      refine ⟨s3, s4, ?_, h6, h7⟩
      unfold whileM
      rw [h1]
      dsimp only
      rcases h2 with h2 | h2 <;> rw [h2] <;> exact h5
    · refine ⟨s1, s, ?_, h2, h1⟩
      unfold whileM
      rw [h1]
end Fx
namespace Fx
open PySem PySem.Spec PyProof.Rows L2
theorem atI_ofNat {α : Type} {xs : List α} {i : Nat} (h : i < xs.length) : atI xs (i : Int) = xs[i]? := by
  unfold atI ixN
  rw [if_pos (by omega), if_pos (by omega)]
  simp
theorem log2_of {x : Int} {k : Nat} (h0 : 0 < k) (h : x.natAbs < 2 ^ k) : x.natAbs.log2 < k := PySem.Flt.log2_lt_of h0 h
theorem cut_all {xs : List D} {k : Int} {n : Nat} (hk : k = (n : Int)) : cutD xs none (some k) = xs.take n := by
  subst hk
  unfold cutD
  rw [HT.sIx_none, show HT.sIx xs.length xs.length (some (n : Int)) = min n xs.length from HT.sIx_nat xs.length xs.length n]
  rw [List.drop_zero, Nat.sub_zero]
  by_cases h : n ≤ xs.length
  · rw [Nat.min_eq_left h]
  · rw [Nat.min_eq_right (by omega), List.take_of_length_le (by omega), List.take_of_length_le (by omega)]
/-- an int turned by f -/
def onI (f : Int → Int) : D → D
  | .int i => .int (f i)
  | d => d
theorem onI_int (f : Int → Int) (n : Int) : onI f (.int n) = .int (f n) := rfl
theorem onI_map (f : Int → Int) (ns : List Int) : (ns.map D.int).map (onI f) = (ns.map f).map D.int := by
  rw [List.map_map, List.map_map]; rfl
theorem mem_ints {ns : List Int} {d : D} (h : d ∈ ns.map D.int) : ∃ n, n ∈ ns ∧ d = .int n := by
  obtain ⟨n, a, b⟩ := List.mem_map.mp h
  exact ⟨n, a, b.symm⟩
theorem x_catL {xs ys : List D} {s : S} (h : lenOk (xs.length + ys.length) = true) : addM (.lst xs) (.lst ys) s = .ok (.lst (xs ++ ys)) s := by
  show (if lenOk (xs.length + ys.length) = true then _ else _) = _
  rw [if_pos h]
theorem at_ints {ns : List Int} {i : Nat} (h : i < ns.length) : atI (ns.map D.int) (i : Int) = some (.int ns[i]) := by
  rw [atI_ofNat (by rw [List.length_map]; exact h), List.getElem?_map, List.getElem?_eq_getElem h]; rfl
theorem ranD_at {lo : Int} {n i : Nat} {d : D} (h : (ranD lo n)[i]? = some d) : i < n ∧ d = .int (lo + (i : Int)) := by
  have hi : i < n := by
    have := (List.getElem?_eq_some_iff.mp h).1
    rw [ranD_len] at this; exact this
  rw [ranD_get hi] at h
  cases h
  exact ⟨hi, rfl⟩
/-- the whole loop -/
theorem loopM_run {ok : S → Prop} {t : D → M Out} {b : M Out} (Pv : Nat → S → Prop) (items : List D) (s : S) (hok : ∀ i s, Pv i s → ok s)
    (hs : ∀ (i : Nat) d s, items[i]? = some d → Pv i s → ∃ s1, t d s = .ok .nx s1 ∧ ∃ s2, (b s1 = .ok .nx s2 ∨ b s1 = .ok .cnt s2) ∧ Pv (i + 1) s2) (h0 : Pv 0 s) : ∃ s2, loopM ok t b items s = .ok .nx s2 ∧ Pv items.length s2 :=
  loopM_all Pv items hok hs 0 s (Nat.zero_le _) h0
end Fx

/-! texts by their codes, plain values -/
namespace Fx
open PySem PySem.Spec PyProof.Rows L2 TL
/-- the text of these codes -/
def tx (cs : List Nat) : Str := ⟨cs.toArray⟩
theorem tx_len (cs : List Nat) : (tx cs).length = cs.length := by
  show cs.toArray.size = cs.length
  exact List.size_toArray
theorem tx_tl (cs : List Nat) : (tx cs).cps.toList = cs := by
  show cs.toArray.toList = cs
  simp
theorem tx_of (x : Str) : tx x.cps.toList = x := by
  cases x
  simp [tx]
theorem tx_app (a b : List Nat) : tx a ++ tx b = tx (a ++ b) := by
  have h : tl (tx a ++ tx b) = tl (tx a) ++ tl (tx b) := tl_append _ _
  rw [show tl (tx a) = a from tx_tl a, show tl (tx b) = b from tx_tl b] at h
  rw [← tx_of (tx a ++ tx b)]
  show tx (tl (tx a ++ tx b)) = _
  rw [h]
theorem tx_inj {a b : List Nat} (h : tx a = tx b) : a = b := by
  have := congrArg (fun x : Str => x.cps.toList) h
  simpa [tx_tl] using this
theorem tx_one (c : Nat) : (⟨#[c]⟩ : Str) = tx [c] := rfl
theorem tx_nil : Str.ofString "" = tx [] := by decide +kernel
theorem joinL_nil : ∀ ps : List (List Nat), joinL [] ps = ps.flatten
  | [] => rfl
  | [p] => by simp [joinL]
  | p :: q :: r => by
    show p ++ ([] ++ joinL [] (q :: r)) = _
    rw [joinL_nil (q :: r)]
    simp
theorem flat_one (cs : List Nat) : (cs.map fun c => [c]).flatten = cs := by
  induction cs with
  | nil => rfl
  | cons c r ih => simp [ih]
theorem join_tx (ps : List (List Nat)) : Txt.join (tx []) (ps.map tx) = tx ps.flatten := by
  rw [join_eq, ← tx_of (Str.join _ _)]
  show tx (tl (Str.join (tx []) (ps.map tx))) = _
  rw [tl_join, show tl (tx []) = [] from tx_tl [], joinL_nil, List.map_map]
  congr 1
  congr 1
  rw [show (tl ∘ tx) = id from funext fun cs => tx_tl cs, List.map_id]
theorem strsOf_map : ∀ ps : List (List Nat), strsOf (ps.map fun p => D.str (tx p)) = some (ps.map tx)
  | [] => rfl
  | p :: r => by
    show (strsOf (r.map fun p => D.str (tx p))).map (tx p :: ·) = _
    rw [strsOf_map r]; rfl
/-- joined without a sign between -/
theorem x_join {f g : M D} {s : S} : jnM f g s = (f s).then' fun d s => match d with | .str a => bnd g (fun e => joinM (.str a) [e]) s | _ => .bad := nr rfl
theorem join_ok (ps : List (List Nat)) (s : S) (h : (ps.map List.length).sum ≤ 16777216) : joinM (.str (tx [])) [.lst (ps.map fun p => D.str (tx p))] s = .ok (.str (tx ps.flatten)) s := by
  show (match strsOf (ps.map fun p => D.str (tx p)) with | some ys => if joinOk (tx []) ys = true then Res.ok (D.str (Txt.join (tx []) ys)) s else .bad | none => .bad) = _
  rw [strsOf_map]
  show (if joinOk (tx []) (ps.map tx) = true then Res.ok (D.str (Txt.join (tx []) (ps.map tx))) s else .bad) = _
  rw [if_pos, join_tx]
  unfold joinOk
  refine decide_eq_true ?_
  rw [tx_len, List.length_nil, Nat.mul_zero, Nat.add_zero, List.map_map, show ((fun x : Str => x.length) ∘ tx) = List.length from funext fun cs => tx_len cs]
  exact h
theorem sum_ones (cs : List Nat) : ((cs.map fun c => [c]).map List.length).sum = cs.length := by
  induction cs with
  | nil => rfl
  | cons c r ih => simp at ih ⊢; omega
theorem join_signs (cs : List Nat) (s : S) (h : cs.length ≤ 16777216) : joinM (.str (tx [])) [.lst (cs.map fun c => D.str (tx [c]))] s = .ok (.str (tx cs)) s := by
  have := join_ok (cs.map fun c => [c]) s (by rw [sum_ones]; exact h)
  rw [flat_one, List.map_map] at this
  exact this
theorem x_ixS {cs : List Nat} {i : Int} {s : S} (h : cs.length ≤ 16777216) : ixM (.str (tx cs)) (.int i) s = Res.opt ((atI cs i).map fun c => D.str (tx [c])) s := by
  show (if lenOk (tx cs).length = true then (match atI (tx cs).cps.toList i with | some c => Res.ok (D.str ⟨#[c]⟩) s | none => .bad) else .bad) = _
  rw [tx_len, if_pos (lenOk_of h), tx_tl]
  cases atI cs i <;> rfl
theorem cutS_take (cs : List Nat) (n : Nat) : cutS (tx cs) none (some (n : Int)) = tx (cs.take n) := by
  unfold cutS
  rw [tx_tl, tx_len, HT.sIx_none, show HT.sIx cs.length cs.length (some (n : Int)) = min n cs.length from HT.sIx_nat _ _ n, List.drop_zero, Nat.sub_zero]
  show tx (cs.take (min n cs.length)) = _
  congr 1
  by_cases h : n ≤ cs.length
  · rw [Nat.min_eq_left h]
  · rw [Nat.min_eq_right (by omega), List.take_of_length_le (by omega), List.take_of_length_le (by omega)]
theorem cutS_drop (cs : List Nat) (n : Nat) : cutS (tx cs) (some (n : Int)) none = tx (cs.drop n) := by
  unfold cutS
  rw [tx_tl, tx_len, HT.sIx_none, show HT.sIx cs.length 0 (some (n : Int)) = min n cs.length from HT.sIx_nat _ _ n]
  show tx ((cs.drop (min n cs.length)).take (cs.length - min n cs.length)) = _
  congr 1
  by_cases h : n ≤ cs.length
  · rw [Nat.min_eq_left h, List.take_of_length_le (by rw [List.length_drop]; exact Nat.le_refl _)]
  · rw [Nat.min_eq_right (by omega), List.drop_of_length_le (Nat.le_refl _), List.drop_of_length_le (by omega)]
    simp
theorem x_slS {f : M D} {lo hi : M (Option Int)} {s : S} : slS f lo hi s = (f s).then' fun d => bnd lo fun l => bnd hi fun u => match d with | .str x => if lenOk x.length = true then ret (.str (cutS x l u)) else fail | _ => fail := nr rfl
theorem tx_eq {a b : List Nat} : decide (tx a = tx b) = decide (a = b) := by
  by_cases h : a = b
  · subst h; simp
  · rw [decide_eq_false h]
    exact decide_eq_false fun e => h (tx_inj e)
theorem x_eqS {a b : List Nat} {s : S} : eqM (.str (tx a)) (.str (tx b)) s = .ok (.bl (decide (a = b))) s := by
  show Res.ok (D.bl (decide (tx a = tx b))) s = _
  rw [tx_eq]
theorem x_neS {a b : List Nat} {s : S} : neM (.str (tx a)) (.str (tx b)) s = .ok (.bl (!decide (a = b))) s := by
  show Res.ok (D.bl (!decide (tx a = tx b))) s = _
  rw [tx_eq]
theorem x_eqB {a b : Bool} {s : S} : eqM (.bl a) (.bl b) s = .ok (.bl (decide (a = b))) s := by
  show (if (SeqAt.shaped (PyData.bool a) && SeqAt.shaped (PyData.bool b)) = true then Res.ok (D.bl (PyData.eqv (.bool a) (.bool b))) s else .bad) = _
  rw [if_pos (by rfl)]
  cases a <;> cases b <;> simp [PyData.eqv]
theorem x_neB {a b : Bool} {s : S} : neM (.bl a) (.bl b) s = .ok (.bl (!decide (a = b))) s := by
  show (if (SeqAt.shaped (PyData.bool a) && SeqAt.shaped (PyData.bool b)) = true then Res.ok (D.bl (!PyData.eqv (.bool a) (.bool b))) s else .bad) = _
  rw [if_pos (by rfl)]
  cases a <;> cases b <;> simp [PyData.eqv]
/-! plain values -/
inductive Pl where
  | non | int (i : Int) | str (cs : List Nat)
def Pl.d : Pl → D
  | .non => .non
  | .int i => .int i
  | .str cs => .str (tx cs)
/-- the order of plain values -/
def Pl.lt : Pl → Pl → Bool
  | .non, .non => false
  | .non, _ => true
  | _, .non => false
  | .int i, .int j => decide (i < j)
  | .int _, .str _ => true
  | .str _, .int _ => false
  | .str a, .str b => decide (a < b)
theorem Pl.nc (b : Nat) (p : Pl) : Fx.nc b p.d = true := by cases p <;> rfl
theorem Pl.ncL (b : Nat) (ps : List Pl) : Fx.ncL b (ps.map Pl.d) = true := by
  induction ps with
  | nil => rfl
  | cons p r ih =>
    show (Fx.nc b p.d && Fx.ncL b (r.map Pl.d)) = true
    rw [Pl.nc, ih]; rfl
theorem mem_pls {ps : List Pl} {d : D} (h : d ∈ ps.map Pl.d) : ∃ p, p ∈ ps ∧ d = p.d := by
  obtain ⟨n, a, b⟩ := List.mem_map.mp h
  exact ⟨n, a, b.symm⟩
theorem isa_int_NoneType : isaT "int" "NoneType" = false := by decide
theorem isa_int_bool : isaT "int" "bool" = true := by decide
theorem isa_int_int : isaT "int" "int" = true := by decide
theorem isa_int_str : isaT "int" "str" = false := by decide
theorem isa_int_tuple : isaT "int" "tuple" = false := by decide
theorem isa_int_list : isaT "int" "list" = false := by decide
theorem isa_int_dict : isaT "int" "dict" = false := by decide
theorem isa_bool_NoneType : isaT "bool" "NoneType" = false := by decide
theorem isa_bool_bool : isaT "bool" "bool" = true := by decide
theorem isa_bool_int : isaT "bool" "int" = false := by decide
theorem isa_bool_str : isaT "bool" "str" = false := by decide
theorem isa_bool_tuple : isaT "bool" "tuple" = false := by decide
theorem isa_bool_list : isaT "bool" "list" = false := by decide
theorem isa_bool_dict : isaT "bool" "dict" = false := by decide
theorem isa_str_NoneType : isaT "str" "NoneType" = false := by decide
theorem isa_str_bool : isaT "str" "bool" = false := by decide
theorem isa_str_int : isaT "str" "int" = false := by decide
theorem isa_str_str : isaT "str" "str" = true := by decide
theorem isa_str_tuple : isaT "str" "tuple" = false := by decide
theorem isa_str_list : isaT "str" "list" = false := by decide
theorem isa_str_dict : isaT "str" "dict" = false := by decide
theorem isa_tuple_NoneType : isaT "tuple" "NoneType" = false := by decide
theorem isa_tuple_bool : isaT "tuple" "bool" = false := by decide
theorem isa_tuple_int : isaT "tuple" "int" = false := by decide
theorem isa_tuple_str : isaT "tuple" "str" = false := by decide
theorem isa_tuple_tuple : isaT "tuple" "tuple" = true := by decide
theorem isa_tuple_list : isaT "tuple" "list" = false := by decide
theorem isa_tuple_dict : isaT "tuple" "dict" = false := by decide
theorem isa_list_NoneType : isaT "list" "NoneType" = false := by decide
theorem isa_list_bool : isaT "list" "bool" = false := by decide
theorem isa_list_int : isaT "list" "int" = false := by decide
theorem isa_list_str : isaT "list" "str" = false := by decide
theorem isa_list_tuple : isaT "list" "tuple" = false := by decide
theorem isa_list_list : isaT "list" "list" = true := by decide
theorem isa_list_dict : isaT "list" "dict" = false := by decide
theorem isa_dict_NoneType : isaT "dict" "NoneType" = false := by decide
theorem isa_dict_bool : isaT "dict" "bool" = false := by decide
theorem isa_dict_int : isaT "dict" "int" = false := by decide
theorem isa_dict_str : isaT "dict" "str" = false := by decide
theorem isa_dict_tuple : isaT "dict" "tuple" = false := by decide
theorem isa_dict_list : isaT "dict" "list" = false := by decide
theorem isa_dict_dict : isaT "dict" "dict" = true := by decide
theorem x_is1 {s : S} : isM .non .non s = .ok (.bl true) s := nr rfl
theorem x_is2 {i : Int} {s : S} : isM (.int i) .non s = .ok (.bl false) s := nr rfl
theorem x_is3 {i : Str} {s : S} : isM (.str i) .non s = .ok (.bl false) s := nr rfl
theorem x_is4 {i : List D} {s : S} : isM (.lst i) .non s = .ok (.bl false) s := nr rfl
theorem x_is5 {i : List D} {s : S} : isM (.tup i) .non s = .ok (.bl false) s := nr rfl
theorem x_isn1 {s : S} : isnotM .non .non s = .ok (.bl false) s := nr rfl
theorem x_isn2 {i : Int} {s : S} : isnotM (.int i) .non s = .ok (.bl true) s := nr rfl
theorem x_isn3 {i : Str} {s : S} : isnotM (.str i) .non s = .ok (.bl true) s := nr rfl
theorem x_isn4 {i : List D} {s : S} : isnotM (.lst i) .non s = .ok (.bl true) s := nr rfl
theorem x_isn5 {i : List D} {s : S} : isnotM (.tup i) .non s = .ok (.bl true) s := nr rfl
/-! append to the list that is the last cell -/
theorem x_meth {T : String} {f : M D} {fs : M (List D)} {g : D → List D → M D} {s : S} : methM T f fs g s = (f s).then' fun d s => if isTy T s d = true then bnd fs (fun ds => g d ds) s else .bad := nr rfl
theorem last_cell {vh : List Cell} {c : Cell} : (vh ++ [c])[vh.length]? = some c := by simp
theorem isTy_last {l : List (Option D)} {vh : List Cell} {ds : List D} : isTy "list" ⟨l, vh ++ [.lst ds]⟩ (.cell vh.length) = true := by
  unfold isTy lstOf
  simp [last_cell]
theorem x_appL {l : List (Option D)} {vh : List Cell} {ds : List D} {e : D} (h : ds.length < 16777216) : appM (.cell vh.length) [e] ⟨l, vh ++ [.lst ds]⟩ = .ok .non ⟨l, vh ++ [.lst (ds ++ [e])]⟩ := by
  have hz : ds.length < sizeLine := Nat.lt_of_lt_of_le h (by decide)
  unfold appM wrM
  simp [last_cell, hz]
/-- the codes of a written text -/
def cd (s : String) : List Nat := (Str.ofString s).cps.toList
theorem lit (s : String) : Str.ofString s = tx (cd s) := (tx_of _).symm
theorem cd_nil : cd "" = [] := by decide +kernel
theorem atI_mod {α : Type} {xs : List α} {n m : Int} (d : α) (h0 : 0 < m) (hm : m = (xs.length : Int)) : atI xs (n % m) = some (xs.getD (n % m).toNat d) := by
  have h1 := Int.emod_nonneg n (by omega : m ≠ 0)
  have h2 := Int.emod_lt_of_pos n h0
  have e : n % m = (((n % m).toNat : Nat) : Int) := (Int.toNat_of_nonneg h1).symm
  have h3 : (n % m).toNat < xs.length := by omega
  rw [e, atI_ofNat h3, Int.toNat_natCast, List.getD_eq_getElem?_getD, List.getElem?_eq_getElem h3]
  rfl
/-- ranks -/
def Pl.rank : Pl → D
  | .non => .tup [.int 0, .int 0, .str (tx [])]
  | .int i => .tup [.int 1, .int i, .str (tx [])]
  | .str cs => .tup [.int 2, .int 0, .str (tx cs)]
theorem lex3 (a b c d : Int) (x y : Str) : PySem.W.dataLt (.tuple [.int a, .int b, .str x]) (.tuple [.int c, .int d, .str y]) = if a = c then (if b = d then decide (x.cps.toList < y.cps.toList) else decide (b < d)) else decide (a < c) := by
  rw [PySem.W.dataLt_tuple]
  have eI : ∀ a c : Int, PyData.eqv (.int a) (.int c) = decide (a = c) := fun a c => by simp [PyData.eqv, Bool.beq_eq_decide_eq]
  have eS : PyData.eqv (.str x) (.str y) = decide (x = y) := by rw [PyData.eqv]; rfl
  by_cases h1 : a = c
  · rw [if_pos h1, PySem.W.dataLt_all_yes (by rfl) (by rw [eI]; exact decide_eq_true h1)]
    by_cases h2 : b = d
    · rw [if_pos h2, PySem.W.dataLt_all_yes (by rfl) (by rw [eI]; exact decide_eq_true h2)]
      by_cases h3 : x = y
      · rw [PySem.W.dataLt_all_yes (by rfl) (by rw [eS]; exact decide_eq_true h3)]
        subst h3
        have : ¬ (x.cps.toList < x.cps.toList) := List.lt_irrefl _
        rw [decide_eq_false this]
        rfl
      · rw [PySem.W.dataLt_all_no (by rfl) (by rw [eS]; exact decide_eq_false h3), PySem.W.dataLt_str]
    · rw [if_neg h2, PySem.W.dataLt_all_no (by rfl) (by rw [eI]; exact decide_eq_false h2), PySem.W.dataLt_int]
  · rw [if_neg h1, PySem.W.dataLt_all_no (by rfl) (by rw [eI]; exact decide_eq_false h1), PySem.W.dataLt_int]
theorem lt3 (a b c d : Int) (x y : Str) (s : S) : ltAM (.tup [.int a, .int b, .str x]) (.tup [.int c, .int d, .str y]) s = .ok (.bl (if a = c then (if b = d then decide (x.cps.toList < y.cps.toList) else decide (b < d)) else decide (a < c))) s := by
  rw [← lex3]
  show (if (PySem.W.alike (PyData.tuple [.int a, .int b, .str x]) (PyData.tuple [.int c, .int d, .str y]) && decide ((PyData.tuple [.int a, .int b, .str x]).depth ≤ 64)) = true then Res.ok (D.bl (PySem.W.dataLt (PyData.tuple [.int a, .int b, .str x]) (PyData.tuple [.int c, .int d, .str y]))) s else .bad) = _
  rw [if_pos (by rfl)]
theorem rank_lt (a b : Pl) (s : S) : ltAM a.rank b.rank s = .ok (.bl (a.lt b)) s := by
  cases a <;> cases b <;> (unfold Pl.rank; rw [lt3]) <;> simp [Pl.lt, tx_tl] <;> omega
/-! numbers of few bits -/
theorem lg_mono {a b : Nat} (h : a ≤ b) : a.log2 ≤ b.log2 := by
  by_cases ha : a = 0
  · subst ha; simp
  · exact (Nat.le_log2 (by omega)).mpr (Nat.le_trans (Nat.log2_self_le ha) h)
def Sm (c : Int) : Prop := c.natAbs.log2 ≤ 2000000
theorem Sm.div {c k : Int} (h : Sm c) (hk : 0 < k) : Sm (c / k) := by
  unfold Sm at h ⊢
  refine Nat.le_trans (lg_mono ?_) h
  have e1 : k * (c / k) + c % k = c := Int.mul_ediv_add_emod c k
  have e2 := Int.emod_nonneg c (by omega : k ≠ 0)
  have e3 := Int.emod_lt_of_pos c hk
  rcases Int.lt_or_le (c / k) 0 with h1 | h1
  · have h2 : c / k ≥ c := by
      have : (k - 1) * (c / k) ≤ 0 := Int.mul_nonpos_of_nonneg_of_nonpos (by omega) (by omega)
      have e4 : (k - 1) * (c / k) = k * (c / k) - c / k := by rw [Int.sub_mul, Int.one_mul]
      have h3 : c < 0 := by
        rcases Int.lt_or_le c 0 with z | z
        · exact z
        · have := Int.ediv_nonneg z (Int.le_of_lt hk); omega
      -- c = k q + r, r < k, q ≤ -1
      have h5 : k * (c / k) + k > c := by omega
      have h6 : (k - 1) * (c / k + 1) ≤ 0 := Int.mul_nonpos_of_nonneg_of_nonpos (by omega) (by omega)
      have e7 : (k - 1) * (c / k + 1) = k * (c / k) + k - (c / k) - 1 := by rw [Int.sub_mul, Int.one_mul, Int.mul_add, Int.mul_one]; omega
      omega
    omega
  · have h2 : c / k ≤ c := by
      have : 0 ≤ (k - 1) * (c / k) := Int.mul_nonneg (by omega) h1
      have e4 : (k - 1) * (c / k) = k * (c / k) - c / k := by rw [Int.sub_mul, Int.one_mul]
      omega
    omega
theorem Sm.of_bits {c : Int} (h : Builtin.Int.intBits c ≤ 1048576) : Sm c := by
  unfold Sm
  unfold Builtin.Int.intBits at h
  split at h <;> first | (have : c.natAbs.log2 ≤ 1048576 := by omega); omega | (next k => (have e : c = 0 := by simpa using k); subst e; decide)
theorem Sm.mul {c : Int} (h : Sm c) (k : Int) (hk : k.natAbs.log2 < 10000000) : c.natAbs.log2 + k.natAbs.log2 < 100000000 := by
  unfold Sm at h; omega
theorem x_lenTx {cs : List Nat} {s : S} (h : cs.length ≤ 16777216) : lenM [.str (tx cs)] s = .ok (.int cs.length) s := by rw [x_lenS (by rw [tx_len]; exact lenOk_of h), tx_len]
theorem x_addTx {a b : List Nat} {s : S} (h : a.length + b.length ≤ 16777216) : addM (.str (tx a)) (.str (tx b)) s = .ok (.str (tx (a ++ b))) s := by rw [x_addS, tx_len, tx_len, if_pos (lenOk_of h), tx_app]
theorem x_slVTx {cs : List Nat} {l u : Option Int} {s : S} (h : cs.length ≤ 16777216) : slV (.str (tx cs)) l u s = .ok (.str (cutS (tx cs) l u)) s := by rw [x_slVS, tx_len, if_pos (lenOk_of h)]
theorem cutS_drop1 (cs : List Nat) (n : Nat) : cutS (tx cs) (some ((n : Int) + 1)) none = tx (cs.drop (n + 1)) := cutS_drop cs (n + 1)
end Fx

/-! Fx: more for reckoning -/
namespace Fx
open PySem PySem.Spec PyProof.Rows L2
/-- a def that made cells of its own and hands back a datum without them -/
theorem runP_more {n : Nat} {g : M Out} {ds : List D} {vh : List Cell} {d : D} (h : ∃ l more, g (initS n ds vh) = .ok (.rt d) ⟨l, vh ++ more⟩) (hn : nc vh.length d = true) : runP n g ds vh = some d := by
  obtain ⟨l, more, h⟩ := h
  unfold runP
  rw [h]
  show fin vh ⟨l, vh ++ more⟩ d = some d
  unfold fin
  rw [if_pos (by show (vh ++ more).take vh.length = vh; exact List.take_left)]
  unfold thaw
  rw [if_pos hn]
theorem cut_drop {xs : List D} {k : Int} {n : Nat} (hk : k = (n : Int)) : Fx.cutD xs (some k) none = xs.drop n := by
  subst hk
  unfold Fx.cutD
  rw [HT.sIx_none, show HT.sIx xs.length 0 (some (n : Int)) = min n xs.length from HT.sIx_nat _ _ n]
  by_cases h : n ≤ xs.length
  · rw [Nat.min_eq_left h, List.take_of_length_le (by rw [List.length_drop]; exact Nat.le_refl _)]
  · rw [Nat.min_eq_right (by omega), List.drop_of_length_le (Nat.le_refl _), List.drop_of_length_le (by omega)]
    simp
theorem x_lk0 : lenOk 0 = true := lenOk_of (by decide)
theorem x_lk1 : lenOk 1 = true := lenOk_of (by decide)
theorem x_lk2 : lenOk 2 = true := lenOk_of (by decide)
theorem x_lk3 : lenOk 3 = true := lenOk_of (by decide)
theorem x_lk4 : lenOk 4 = true := lenOk_of (by decide)
theorem x_lk5 : lenOk 5 = true := lenOk_of (by decide)
theorem x_lk6 : lenOk 6 = true := lenOk_of (by decide)
theorem x_lk7 : lenOk 7 = true := lenOk_of (by decide)
theorem x_lk8 : lenOk 8 = true := lenOk_of (by decide)
theorem x_lisL {ds : List D} {s : S} : listN [.lst ds] s = .ok (.lst ds) s := nr rfl
theorem x_lisT {ds : List D} {s : S} : listN [.tup ds] s = .ok (.lst ds) s := nr rfl
theorem x_srtL {F : Pf} {ds : List D} {s : S} : sortKN F (.lst ds) s = sortKM F ds s := nr rfl
end Fx

/-! Fx: the order of plain values, plainly -/
namespace Fx
open PySem PySem.Spec PyProof.Rows L2
instance : DecidableEq Pl
  | .non, .non => .isTrue rfl
  | .int i, .int j => if h : i = j then .isTrue (by rw [h]) else .isFalse fun z => h (by cases z; rfl)
  | .str i, .str j => if h : i = j then .isTrue (by rw [h]) else .isFalse fun z => h (by cases z; rfl)
  | .non, .int _ | .non, .str _ | .int _, .non | .int _, .str _ | .str _, .non | .str _, .int _ => .isFalse fun z => by cases z
theorem Pl.irr (p : Pl) : p.lt p = false := by
  cases p with
  | non => rfl
  | int i => simp [Pl.lt]
  | str cs => exact decide_eq_false (List.lt_irrefl cs)
theorem Pl.tr {a b c : Pl} (h : a.lt b = true) (h2 : b.lt c = true) : a.lt c = true := by
  cases a <;> cases b <;> cases c <;> first
    | rfl
    | (simp [Pl.lt] at h; done)
    | (simp [Pl.lt] at h2; done)
    | (simp [Pl.lt] at h h2 ⊢; omega)
    | (simp only [Pl.lt, decide_eq_true_eq] at h h2 ⊢; exact List.lt_trans h h2)
theorem Pl.tri (a b : Pl) : a.lt b = true ∨ a = b ∨ b.lt a = true := by
  cases a with
  | non => cases b <;> first | exact .inr (.inl rfl) | exact .inl rfl
  | int i =>
    cases b with
    | non => exact .inr (.inr rfl)
    | int j =>
      rcases Int.lt_trichotomy i j with h | h | h
      · exact .inl (decide_eq_true h)
      · exact .inr (.inl (by rw [h]))
      · exact .inr (.inr (decide_eq_true h))
    | str c => exact .inl rfl
  | str x =>
    cases b with
    | non => exact .inr (.inr rfl)
    | int j => exact .inr (.inr rfl)
    | str y =>
      by_cases h : x < y
      · exact .inl (decide_eq_true h)
      · by_cases h2 : y < x
        · exact .inr (.inr (decide_eq_true h2))
        · exact .inr (.inl (by rw [List.le_antisymm (List.not_lt.mp h2) (List.not_lt.mp h)]))
theorem Pl.asy {a b : Pl} (h : a.lt b = true) : b.lt a = false := by
  cases q : b.lt a with
  | false => rfl
  | true =>
    have := Pl.tr h q
    rw [Pl.irr] at this
    cases this
/-- not after -/
def Pl.le (a b : Pl) : Bool := !b.lt a
theorem Pl.le_trans {a b c : Pl} (h : a.le b = true) (h2 : b.le c = true) : a.le c = true := by
  unfold Pl.le at *
  cases q : c.lt a with
  | false => rfl
  | true =>
    rcases Pl.tri b c with h3 | h3 | h3
    · rw [Pl.tr h3 q] at h; cases h
    · rw [h3, q] at h; cases h
    · rw [h3] at h2; cases h2
theorem Pl.le_total (a b : Pl) : (a.le b || b.le a) = true := by
  unfold Pl.le
  cases q : b.lt a with
  | false => rfl
  | true => rw [Pl.asy q]; rfl
theorem Pl.le_iff {a b : Pl} : a.le b = true ↔ a = b ∨ a.lt b = true := by
  unfold Pl.le
  constructor
  · intro h
    rcases Pl.tri a b with h3 | h3 | h3
    · exact .inr h3
    · exact .inl h3
    · rw [h3] at h; cases h
  · rintro (h | h)
    · rw [h, Pl.irr]; rfl
    · rw [Pl.asy h]; rfl
/-! what == sees of them -/
def Pl.py : Pl → PyData
  | .non => .none
  | .int i => .int i
  | .str cs => .str (tx cs)
def Pl.ok : Pl → Prop
  | .str cs => ∀ c ∈ cs, c < 1114112
  | _ => True
theorem strOk_tx {cs : List Nat} (h : ∀ c ∈ cs, c < 1114112) : PySem.PyData.strOk (tx cs) = true := by
  show (cs.toArray.all fun c => decide (c < 0x110000)) = true
  rw [List.all_toArray, List.all_eq_true]
  exact fun c hc => decide_eq_true (h c hc)
theorem Pl.pyT (p : Pl) : Fx.pyT p.d = some p.py := by cases p <;> rfl
theorem Pl.pyL : ∀ ps : List Pl, Fx.pyL (ps.map Pl.d) = some (ps.map Pl.py)
  | [] => rfl
  | p :: ps => by rw [List.map_cons, Fx.pyL, Pl.pyT, Pl.pyL ps]; rfl
theorem Pl.can {p : Pl} (h : p.ok) : p.py.canLay0 = true := by
  cases p with
  | str cs => exact strOk_tx h
  | _ => rfl
theorem Pl.canL : ∀ {ps : List Pl}, (∀ p ∈ ps, p.ok) → PyData.canLayAll0 (ps.map Pl.py) = true
  | [], _ => rfl
  | p :: ps, h => by
    rw [List.map_cons, PyData.canLayAll0, Pl.can (h p List.mem_cons_self), Pl.canL fun q hq => h q (List.mem_cons_of_mem _ hq)]
    rfl
theorem Pl.dep (p : Pl) : p.py.depth = 0 := by cases p <;> rfl
theorem Pl.depL : ∀ ps : List Pl, PyData.depthAll (ps.map Pl.py) = 0
  | [] => rfl
  | p :: ps => by rw [List.map_cons, PyData.depthAll, Pl.dep, Pl.depL ps]; rfl
theorem Pl.shaped {p : Pl} (h : p.ok) : SeqAt.shaped p.py = true := by
  unfold SeqAt.shaped
  rw [Pl.can h, Pl.dep]; rfl
theorem Pl.shapedL {ps : List Pl} (h : ∀ p ∈ ps, p.ok) : SeqAt.shaped (.list (ps.map Pl.py)) = true := by
  unfold SeqAt.shaped PyData.canLay0 PyData.depth
  rw [Pl.canL h, Pl.depL]; rfl
theorem Pl.shapedT {ps : List Pl} (h : ∀ p ∈ ps, p.ok) : SeqAt.shaped (.tuple (ps.map Pl.py)) = true := by
  unfold SeqAt.shaped PyData.canLay0 PyData.depth
  rw [Pl.canL h, Pl.depL]; rfl
theorem Pl.eqv (a b : Pl) : PyData.eqv a.py b.py = decide (a = b) := by
  cases a <;> cases b <;> first
    | (simp [Pl.py, PyData.eqv]; done)
    | (simp only [Pl.py, PyData.eqv]
       refine Eq.symm ?_
       rename_i x y
       by_cases h : x = y
       · subst h; simp
       · rw [decide_eq_false (fun z => h (by cases z; rfl))]
         refine Eq.symm (Bool.eq_false_iff.mpr fun z => h ?_)
         first | exact tx_inj (eq_of_beq z) | exact eq_of_beq z)
theorem Pl.eqvL : ∀ as bs : List Pl, PyData.eqvAll (as.map Pl.py) (bs.map Pl.py) = decide (as = bs)
  | [], [] => rfl
  | [], b :: bs => by simp [PyData.eqvAll]
  | a :: as, [] => by simp [PyData.eqvAll]
  | a :: as, b :: bs => by
    rw [List.map_cons, List.map_cons, PyData.eqvAll, Pl.eqv, Pl.eqvL as bs]
    by_cases h : a = b
    · by_cases h2 : as = bs
      · simp [h, h2]
      · simp [h, h2]
    · simp [h]
theorem x_eqPl {a b : Pl} {s : S} (ha : a.ok) (hb : b.ok) : eqM a.d b.d s = .ok (.bl (decide (a = b))) s := by
  have main : eqD a.d b.d s = .ok (.bl (decide (a = b))) s := by
    unfold eqD
    have e : ∀ p : Pl, pyD s p.d = some p.py := fun p => by cases p <;> rfl
    rw [e, e]
    dsimp only
    rw [Pl.shaped ha, Pl.shaped hb, Pl.eqv]
    rfl
  cases a <;> cases b <;> first | exact main | (rename_i x y; exact (x_eqS).trans (by simp))
theorem pyD_pls {s : S} {ps : List Pl} : pyD s (.lst (ps.map Pl.d)) = some (.list (ps.map Pl.py)) := by
  show Fx.pyT _ = _
  unfold Fx.pyT
  rw [Pl.pyL]; rfl
theorem x_eqPls {as bs : List Pl} {s : S} (ha : ∀ p ∈ as, p.ok) (hb : ∀ p ∈ bs, p.ok) : eqM (.lst (as.map Pl.d)) (.lst (bs.map Pl.d)) s = .ok (.bl (decide (as = bs))) s := by
  show eqD _ _ s = _
  unfold eqD
  rw [pyD_pls, pyD_pls]
  dsimp only
  rw [Pl.shapedL ha, Pl.shapedL hb, PyData.eqv, Pl.eqvL]
  rfl
theorem x_nePls {as bs : List Pl} {s : S} (ha : ∀ p ∈ as, p.ok) (hb : ∀ p ∈ bs, p.ok) : neM (.lst (as.map Pl.d)) (.lst (bs.map Pl.d)) s = .ok (.bl (!decide (as = bs))) s := by
  show neD _ _ s = _
  unfold neD
  rw [pyD_pls, pyD_pls]
  dsimp only
  rw [Pl.shapedL ha, Pl.shapedL hb, PyData.eqv, Pl.eqvL]
  rfl
/-! ### sorted by a key that ranks as they do -/
theorem mapO_all {f : D → Option D} {α : Type} {g h : α → D} : ∀ {as : List α}, (∀ a ∈ as, f (g a) = some (h a)) → mapO f (as.map g) = some (as.map h)
  | [], _ => rfl
  | a :: as, e => by
    rw [List.map_cons, mapO, e a List.mem_cons_self, mapO_all fun b hb => e b (List.mem_cons_of_mem _ hb)]
    rfl
theorem pyL_all {α : Type} {g : α → D} {h : α → PyData} : ∀ {as : List α}, (∀ a ∈ as, pyT (g a) = some (h a)) → pyL (as.map g) = some (as.map h)
  | [], _ => rfl
  | a :: as, e => by
    rw [List.map_cons, Fx.pyL, e a List.mem_cons_self, pyL_all fun b hb => e b (List.mem_cons_of_mem _ hb)]
    rfl
def sortPl (ps : List Pl) : List Pl := ps.mergeSort Pl.le
theorem sortPl_perm (ps : List Pl) : (sortPl ps).Perm ps := List.mergeSort_perm ps _
theorem sortPl_sorted (ps : List Pl) : (sortPl ps).Pairwise fun a b => a.le b = true := List.pairwise_mergeSort (le := Pl.le) (fun _ _ _ => Pl.le_trans) Pl.le_total ps
theorem sort_pls {F : Pf} {kd : Pl → D} {key : Pl → PyData} {ps : List Pl} {s : S} (hF : ∀ p ∈ ps, F [p.d] s.vh = some (kd p)) (hk : ∀ p ∈ ps, pyT (kd p) = some (key p)) (hl : ps.length ≤ 16777216)
    (h1 : ∀ a b, PySem.W.alike (key a) (key b) = true) (h2 : ∀ a, ∃ x r, key a = .tuple (x :: r)) (h3 : ∀ a, (key a).depth ≤ 60) (h4 : ∀ a b, PySem.W.dataLt (key a) (key b) = a.lt b) :
    sortKM F (ps.map Pl.d) s = .ok (.lst ((sortPl ps).map Pl.d)) s := by
  have e1 : keysD F s.vh (ps.map Pl.d) = some (ps.map kd) := mapO_all hF
  have e2 : pyL (ps.map kd) = some (ps.map key) := pyL_all hk
  have g : GoodK (ps.map key) := by
    refine ⟨fun d hd d' hd' => ?_, .inl fun d hd => ?_, fun d hd => ?_⟩
    · obtain ⟨a, _, rfl⟩ := List.mem_map.mp hd
      obtain ⟨b, _, rfl⟩ := List.mem_map.mp hd'
      exact h1 a b
    · obtain ⟨a, _, rfl⟩ := List.mem_map.mp hd
      exact h2 a
    · obtain ⟨a, _, rfl⟩ := List.mem_map.mp hd
      exact h3 a
  unfold sortKM
  rw [e1]
  dsimp only
  rw [e2]
  dsimp only
  rw [if_pos ⟨g, by rw [List.length_map]; exact hl⟩]
  have e3 : (ps.map Pl.d).zip (ps.map key) = ps.map fun p => (p.d, key p) := by
    rw [List.zip_map', ]
  have e4 : sortP (ps.map Pl.d) (ps.map key) = (sortPl ps).map Pl.d := by
    unfold sortP sortPl
    rw [e3, ← List.map_mergeSort (r := Pl.le) (s := PySem.W.dataLe false Prod.snd) (f := fun p : Pl => (p.d, key p)) (fun a _ b _ => by
      rw [PySem.W.dataLe_eq]
      show (!b.lt a) = (!PySem.W.dataLt (key b) (key a))
      rw [h4]), List.map_map]
    rfl
  rw [e4]
/-! ### the rank (0, 0, ''), (1, n, ''), (2, 0, text) -/
def Pl.key : Pl → PyData
  | .non => .tuple [.int 0, .int 0, .str (Str.ofString "")]
  | .int i => .tuple [.int 1, .int i, .str (Str.ofString "")]
  | .str cs => .tuple [.int 2, .int 0, .str (tx cs)]
theorem Pl.rank_py (p : Pl) : Fx.pyT p.rank = some p.key := by cases p <;> rfl
theorem Pl.key_lt (a b : Pl) : PySem.W.dataLt a.key b.key = a.lt b := by
  cases a <;> cases b <;> simp [Pl.key, Pl.lt, lex3, tx_tl, List.lt_irrefl] <;> omega
theorem sort_rank {F : Pf} {ps : List Pl} {s : S} (hF : ∀ p ∈ ps, F [p.d] s.vh = some p.rank) (hl : ps.length ≤ 16777216) : sortKM F (ps.map Pl.d) s = .ok (.lst ((sortPl ps).map Pl.d)) s := by
  refine sort_pls (key := Pl.key) hF (fun p _ => Pl.rank_py p) hl (fun a b => ?_) (fun a => ?_) (fun a => ?_) Pl.key_lt
  · cases a <;> cases b <;> rfl
  · cases a <;> exact ⟨_, _, rfl⟩
  · cases a <;> simp [Pl.key, PyData.depth, PyData.depthAll]
/-! ### rising keys -/
def Rise (ks : List Pl) : Prop := ks.Pairwise fun a b => a.lt b = true
def cntLt (ks : List Pl) (p : Pl) : Nat := (ks.filter fun q => q.lt p).length
theorem cnt_of {p : Pl} : ∀ {ks : List Pl} {n : Nat}, n ≤ ks.length → (∀ i (h : i < ks.length), i < n → ks[i].lt p = true) → (∀ i (h : i < ks.length), n ≤ i → ks[i].lt p = false) → cntLt ks p = n
  | [], n, hn, _, _ => by simp at hn; subst hn; rfl
  | k :: ks, 0, _, _, h2 => by
    unfold cntLt
    rw [List.filter_cons_of_neg (by have := h2 0 (by simp) (Nat.le_refl _); rw [List.getElem_cons_zero] at this; rw [this]; decide)]
    exact cnt_of (ks := ks) (n := 0) (Nat.zero_le _) (fun i h h' => by omega) (fun i h _ => h2 (i + 1) (by simpa using h) (Nat.zero_le _))
  | k :: ks, n + 1, hn, h1, h2 => by
    unfold cntLt
    rw [List.filter_cons_of_pos (by have := h1 0 (by simp) (by omega); rw [List.getElem_cons_zero] at this; exact this), List.length_cons]
    have := cnt_of (ks := ks) (n := n) (by simpa using hn) (fun i h h' => h1 (i + 1) (by simpa using h) (by omega)) (fun i h h' => h2 (i + 1) (by simpa using h) (by omega))
    unfold cntLt at this
    omega
theorem Rise.at {ks : List Pl} (h : Rise ks) {i j : Nat} (hi : i < ks.length) (hj : j < ks.length) (hij : i < j) : ks[i].lt ks[j] = true := List.pairwise_iff_getElem.mp h i j hi hj hij
theorem Rise.down {ks : List Pl} (h : Rise ks) {p : Pl} {i j : Nat} (hi : i < ks.length) (hj : j < ks.length) (hij : i ≤ j) (hp : ks[j].lt p = true) : ks[i].lt p = true := by
  rcases Nat.lt_or_eq_of_le hij with h1 | h1
  · exact Pl.tr (h.at hi hj h1) hp
  · subst h1; exact hp
end Fx

/-! Fx: plain values put in order one by one, plainly -/
namespace Fx
open PySem PySem.Spec PyProof.Rows L2
/-- v at its place, where it is not there -/
def insPl (v : Pl) : List Pl → List Pl
  | [] => [v]
  | k :: ks => if k.lt v = true then k :: insPl v ks else if v.lt k = true then v :: k :: ks else k :: ks
theorem ins_mem (v x : Pl) : ∀ ks : List Pl, x ∈ insPl v ks ↔ x = v ∨ x ∈ ks
  | [] => by simp [insPl]
  | k :: ks => by
    unfold insPl
    by_cases h1 : k.lt v = true
    · rw [if_pos h1, List.mem_cons, ins_mem v x ks, List.mem_cons]
      constructor
      · rintro (h | h | h)
        · exact .inr (.inl h)
        · exact .inl h
        · exact .inr (.inr h)
      · rintro (h | h | h)
        · exact .inr (.inl h)
        · exact .inl h
        · exact .inr (.inr h)
    · rw [if_neg h1]
      by_cases h2 : v.lt k = true
      · rw [if_pos h2, List.mem_cons]
      · rw [if_neg h2]
        rcases Pl.tri k v with h | h | h
        · exact absurd h h1
        · subst h
          simp
        · exact absurd h h2
theorem ins_rise {v : Pl} : ∀ {ks : List Pl}, Rise ks → Rise (insPl v ks)
  | [], _ => List.pairwise_singleton _ _
  | k :: ks, h => by
    have hh := List.pairwise_cons.mp h
    unfold insPl
    by_cases h1 : k.lt v = true
    · rw [if_pos h1]
      refine List.pairwise_cons.mpr ⟨fun x hx => ?_, ins_rise hh.2⟩
      rcases (ins_mem v x ks).mp hx with rfl | hx
      · exact h1
      · exact hh.1 x hx
    · rw [if_neg h1]
      by_cases h2 : v.lt k = true
      · rw [if_pos h2]
        refine List.pairwise_cons.mpr ⟨fun x hx => ?_, h⟩
        rcases List.mem_cons.mp hx with rfl | hx
        · exact h2
        · exact Pl.tr h2 (hh.1 x hx)
      · rw [if_neg h2]; exact h
theorem cnt_le (ks : List Pl) (v : Pl) : cntLt ks v ≤ ks.length := List.length_filter_le _ _
theorem cnt_cons_lt {k v : Pl} {ks : List Pl} (h : k.lt v = true) : cntLt (k :: ks) v = cntLt ks v + 1 := by
  unfold cntLt
  have e : (k :: ks).filter (fun q => Pl.lt q v) = k :: ks.filter (fun q => Pl.lt q v) := by rw [List.filter_cons, if_pos h]
  rw [e, List.length_cons]
theorem cnt_cons_no {k v : Pl} {ks : List Pl} (hr : Rise (k :: ks)) (h : ¬ k.lt v = true) : cntLt (k :: ks) v = 0 := by
  refine cnt_of (Nat.zero_le _) (fun i _ h => by omega) fun i hi _ => ?_
  cases q : (k :: ks)[i].lt v with
  | false => rfl
  | true => exact absurd (hr.down (i := 0) (by simp) hi (Nat.zero_le _) q) h
/-- as the program does it: at its place in the row, where that is the end or another, greater one stands there -/
theorem ins_eq {v : Pl} : ∀ {ks : List Pl}, Rise ks →
    (cntLt ks v = ks.length → insPl v ks = ks.take (cntLt ks v) ++ [v] ++ ks.drop (cntLt ks v)) ∧
    (∀ h : cntLt ks v < ks.length, (ks[cntLt ks v].d = ks[cntLt ks v].d → v.lt ks[cntLt ks v] = true → insPl v ks = ks.take (cntLt ks v) ++ [v] ++ ks.drop (cntLt ks v)) ∧ (v.lt ks[cntLt ks v] = false → insPl v ks = ks))
  | [], _ => ⟨fun _ => rfl, fun h => by exact absurd h (Nat.not_lt_zero _)⟩
  | k :: ks, hr => by
    have hh := (List.pairwise_cons.mp hr).2
    have ih := ins_eq (v := v) hh
    by_cases h1 : k.lt v = true
    · have hc := cnt_cons_lt (ks := ks) h1
      have e0 : insPl v (k :: ks) = k :: insPl v ks := by rw [insPl, if_pos h1]
      refine ⟨fun h => ?_, fun h => ⟨fun _ h2 => ?_, fun h2 => ?_⟩⟩
      · rw [hc, List.length_cons] at h
        rw [e0, ih.1 (by omega), hc]
        rfl
      · simp only [hc, List.getElem_cons_succ] at h2
        rw [hc, List.length_cons] at h
        rw [e0, (ih.2 (by omega)).1 rfl h2, hc]
        rfl
      · simp only [hc, List.getElem_cons_succ] at h2
        rw [hc, List.length_cons] at h
        rw [e0, (ih.2 (by omega)).2 h2]
    · have hc := cnt_cons_no hr h1
      refine ⟨fun h => ?_, fun h => ⟨fun _ h2 => ?_, fun h2 => ?_⟩⟩
      · rw [hc, List.length_cons] at h; omega
      · simp only [hc, List.getElem_cons_zero] at h2
        rw [insPl, if_neg h1, if_pos h2, hc]
        rfl
      · simp only [hc, List.getElem_cons_zero] at h2
        rw [insPl, if_neg h1, if_neg (by rw [h2]; decide)]
def ordPl (vs : List Pl) : List Pl := vs.foldl (fun acc v => insPl v acc) []
theorem ord_fold : ∀ (vs acc : List Pl), Rise acc → Rise (vs.foldl (fun acc v => insPl v acc) acc) ∧ ∀ x, x ∈ vs.foldl (fun acc v => insPl v acc) acc ↔ x ∈ acc ∨ x ∈ vs
  | [], acc, h => ⟨h, fun x => by simp⟩
  | v :: vs, acc, h => by
    obtain ⟨h1, h2⟩ := ord_fold vs (insPl v acc) (ins_rise h)
    refine ⟨h1, fun x => ?_⟩
    rw [List.foldl_cons, h2 x, ins_mem, List.mem_cons]
    constructor
    · rintro ((h | h) | h)
      · exact .inr (.inl h)
      · exact .inl h
      · exact .inr (.inr h)
    · rintro (h | h | h)
      · exact .inl (.inr h)
      · exact .inl (.inl h)
      · exact .inr h
theorem ord_rise (vs : List Pl) : Rise (ordPl vs) := (ord_fold vs [] List.Pairwise.nil).1
theorem ord_mem (vs : List Pl) (x : Pl) : x ∈ ordPl vs ↔ x ∈ vs := by
  have := (ord_fold vs [] List.Pairwise.nil).2 x
  unfold ordPl
  simpa using this
theorem ord_snoc (vs : List Pl) (v : Pl) : ordPl (vs ++ [v]) = insPl v (ordPl vs) := by
  unfold ordPl
  rw [List.foldl_append]
  rfl
/-- rising rows with the same members are the same -/
theorem Rise.ext : ∀ {as bs : List Pl}, Rise as → Rise bs → (∀ x, x ∈ as ↔ x ∈ bs) → as = bs
  | [], [], _, _, _ => rfl
  | [], b :: bs, _, _, h => by have := (h b).mpr List.mem_cons_self; cases this
  | a :: as, [], _, _, h => by have := (h a).mp List.mem_cons_self; cases this
  | a :: as, b :: bs, ha, hb, h => by
    have a1 := List.pairwise_cons.mp ha
    have b1 := List.pairwise_cons.mp hb
    have e : a = b := by
      rcases List.mem_cons.mp ((h a).mp List.mem_cons_self) with h1 | h1
      · exact h1
      · rcases List.mem_cons.mp ((h b).mpr List.mem_cons_self) with h2 | h2
        · exact h2.symm
        · have q1 := b1.1 a h1
          have q2 := Pl.tr q1 (a1.1 b h2)
          rw [Pl.irr] at q2; cases q2
    subst e
    congr 1
    refine Rise.ext a1.2 b1.2 fun x => ⟨fun hx => ?_, fun hx => ?_⟩
    · rcases List.mem_cons.mp ((h x).mp (List.mem_cons_of_mem _ hx)) with rfl | h1
      · have := a1.1 x hx
        rw [Pl.irr] at this; cases this
      · exact h1
    · rcases List.mem_cons.mp ((h x).mpr (List.mem_cons_of_mem _ hx)) with rfl | h1
      · have := b1.1 x hx
        rw [Pl.irr] at this; cases this
      · exact h1
end Fx

/-! ### the text, by gen.py -/
namespace Wktwigtable_k51_three_states
open PySem PySem.Spec PyProof.Rows L2 Fx
def topS (i : Nat) : Stmt := PySem.Challenge.pw_twigtable_k51_three_states.main.body.getD i (.Pass ⟨0, 0, 0, 0⟩)
structure Txt (mg : Str → Option Value) : Prop where
  b_bool : mg "bool" = none
  b_int : mg "int" = none
  b_isinstance : mg "isinstance" = none
  b_len : mg "len" = none
  b_list : mg "list" = none
  b_range : mg "range" = none
  b_sorted : mg "sorted" = none
  b_str : mg "str" = none
  b_tuple : mg "tuple" = none
  b_zip : mg "zip" = none
abbrev s_before : Stmt := topS 1
theorem sc_before : FnScope ["one", "other"] ["one", "other"] (defScope s_before) := ⟨rfl, rfl, rfl, by decide +kernel, rfl, by decide +kernel, by decide +kernel⟩
noncomputable def g_before : M Out :=
    (seqM (ifM (orT (tst (bin isM (getL 0) (ret .non))) (tst (bin isM (getL 1) (ret .non)))) (retM (andV (bin isM (getL 0) (ret .non)) (bin isnotM (getL 1) (ret .non)))) (ret .nx))
    (seqM (ifM (tst (bnd (getL 0) (isaM "str"))) (retM (andV (bnd (getL 1) (isaM "str")) (bin ltAM (getL 0) (getL 1)))) (ret .nx))
    (retM (orV (bnd (getL 1) (isaM "str")) (bin ltAM (getL 0) (getL 1))))))
noncomputable def F_before : Pf := runP 2 g_before
theorem ok_before {P : Program} {wd : World} {K : PySem.W.Frag} {mg : Str → Option Value} {base : Heap} (T : Txt mg) (F : Top K mg "before" s_before ["one", "other"])  :
    FnP P wd K mg base "before" 2 1 F_before :=
  F.fn sc_before (by decide) fun f cdv A outer s H E hr =>
    ((dss_cons (ds_if (dt_w (dw_or (dt_cmp op_isN rop_is (de_v 0) de_non) (dw_or1 (dt_cmp op_isN rop_is (de_v 1) de_non)))) (dss_one (ds_ret (de_and (de_cmp op_isN rop_is (de_v 0) de_non) (de_one (de_cmp op_notN rop_isnot (de_v 1) de_non))))) dss_nil)
    (dss_cons (ds_if (dt_val (de_isa "str" T.b_isinstance T.b_str (de_v 0) (by decide +kernel))) (dss_one (ds_ret (de_and (de_isa "str" T.b_isinstance T.b_str (de_v 1) (by decide +kernel)) (de_one (de_cmp (op_ltA (units_of hr)) rop_ltA (de_v 0) (de_v 1)))))) dss_nil)
    (dss_one (ds_ret (de_or (de_isa "str" T.b_isinstance T.b_str (de_v 1) (by decide +kernel)) (de_one (de_cmp (op_ltA (units_of hr)) rop_ltA (de_v 0) (de_v 1)))))))) : DSs _ W0 (defBody s_before) g_before)
abbrev s_place_of : Stmt := topS 2
theorem sc_place_of : FnScope ["keys", "key", "low", "high", "middle"] ["keys", "key"] (defScope s_place_of) := ⟨rfl, rfl, rfl, by decide +kernel, rfl, by decide +kernel, by decide +kernel⟩
noncomputable def b_place_of_1 : M Out :=
    (seqM (asgM (bin divM (bin addM (getL 2) (getL 3)) (ret (.int 2))) (setL 4))
    (ifM (tst (bnd (consM (bin ixM (getL 0) (getL 4)) (consM (getL 1) (ret []))) (callP 2 F_before))) (asgM (bin addM (getL 4) (ret (.int 1))) (setL 2)) (asgM (getL 4) (setL 3))))
noncomputable def g_place_of : M Out :=
    (seqM (asgM (ret (.int 0)) (setL 2))
    (seqM (asgM (bnd (consM (getL 0) (ret [])) lenM) (setL 3))
    (seqM (whileM (tst (bin ltAM (getL 2) (getL 3))) b_place_of_1 1000000)
    (retM (getL 2)))))
noncomputable def F_place_of : Pf := runP 5 g_place_of
theorem ok_place_of {P : Program} {wd : World} {K : PySem.W.Frag} {mg : Str → Option Value} {base : Heap} (T : Txt mg) (F : Top K mg "place_of" s_place_of ["keys", "key"]) (c_before : FnP P wd K mg base "before" 2 1 F_before) :
    FnP P wd K mg base "place_of" 2 2 F_place_of :=
  F.fn sc_place_of (by decide) fun f cdv A outer s H E hr =>
    ((dss_cons (ds_set 2 de_int sc_place_of.nd)
    (dss_cons (ds_set 3 (de_len T.b_len (da_cons (de_v 0) da_nil)) sc_place_of.nd)
    (dss_cons (ds_while 1000000 PassesOwn.never (dt_cmp (op_ltA (units_of hr)) rop_ltA (de_v 2) (de_v 3)) (dss_cons (ds_set 4 (de_div (de_add (de_v 2) (de_v 3)) de_int) sc_place_of.nd)
    (dss_one (ds_if (dt_val (de_callP c_before (hr.mono (by decide)) (da_cons (de_ix (de_v 0) (de_v 4)) (da_cons (de_v 1) da_nil)))) (dss_one (ds_set 2 (de_add (de_v 4) de_int) sc_place_of.nd)) (dss_one (ds_set 3 (de_v 4) sc_place_of.nd))))))
    (dss_one (ds_ret (de_v 2)))))) : DSs _ W0 (defBody s_place_of) g_place_of)
abbrev s_in_order : Stmt := topS 3
theorem sc_in_order : FnScope ["values", "found", "value", "at"] ["values"] (defScope s_in_order) := ⟨rfl, rfl, rfl, by decide +kernel, rfl, by decide +kernel, by decide +kernel⟩
noncomputable def b_in_order_1 : M Out :=
    (seqM (asgM (bnd (consM (getL 1) (consM (getL 2) (ret []))) (callP 2 F_place_of)) (setL 3))
    (ifM (orT (tst (bin eqM (getL 3) (bnd (consM (getL 1) (ret [])) lenM))) (tst (bnd (consM (getL 2) (consM (bin ixM (getL 1) (getL 3)) (ret []))) (callP 2 F_before)))) (dropM (methM "list" (getL 1) (consM (getL 3) (consM (getL 2) (ret []))) insM)) (ret .nx)))
noncomputable def g_in_order : M Out :=
    (seqM (asgM (ownM (lstN (ret []))) (setL 1))
    (seqM (forM (bnd (getL 0) seqI) (setL 2) b_in_order_1)
    (retM (getL 1))))
noncomputable def F_in_order : Pf := runP 4 g_in_order
theorem ok_in_order {P : Program} {wd : World} {K : PySem.W.Frag} {mg : Str → Option Value} {base : Heap} (T : Txt mg) (F : Top K mg "in_order" s_in_order ["values"]) (c_place_of : FnP P wd K mg base "place_of" 2 2 F_place_of) (c_before : FnP P wd K mg base "before" 2 1 F_before) :
    FnP P wd K mg base "in_order" 1 3 F_in_order :=
  F.fn sc_in_order (by decide) fun f cdv A outer s H E hr =>
    ((dss_cons (ds_set 1 (de_own (dn_lst da_nil)) sc_in_order.nd)
    (dss_cons (ds_for PassesOwn.never rfl (di_seq (de_v 0)) (dg_name sc_in_order.nd) (dss_cons (ds_set 3 (de_callP c_place_of (hr.mono (by decide)) (da_cons (de_v 1) (da_cons (de_v 2) da_nil))) sc_in_order.nd)
    (dss_one (ds_if (dt_w (dw_or (dt_cmp (op_eqA (units_of hr)) rop_eq (de_v 3) (de_len T.b_len (da_cons (de_v 1) da_nil))) (dw_or1 (dt_val (de_callP c_before (hr.mono (by decide)) (da_cons (de_v 2) (da_cons (de_ix (de_v 1) (de_v 3)) da_nil))))))) (dss_one (ds_expr (de_insert (de_v 1) (da_cons (de_v 3) (da_cons (de_v 2) da_nil))))) dss_nil))))
    (dss_one (ds_ret (de_v 1))))) : DSs _ W0 (defBody s_in_order) g_in_order)
abbrev s_base_of : Stmt := topS 4
theorem sc_base_of : FnScope ["value"] ["value"] (defScope s_base_of) := ⟨rfl, rfl, rfl, by decide +kernel, rfl, by decide +kernel, by decide +kernel⟩
noncomputable def g_base_of : M Out :=
    (seqM (ifM (tst (bnd (getL 0) (isaM "tuple"))) (retM (bin ixM (getL 0) (ret (.int 0)))) (ret .nx))
    (retM (getL 0)))
noncomputable def F_base_of : Pf := runP 1 g_base_of
theorem ok_base_of {P : Program} {wd : World} {K : PySem.W.Frag} {mg : Str → Option Value} {base : Heap} (T : Txt mg) (F : Top K mg "base_of" s_base_of ["value"])  :
    FnP P wd K mg base "base_of" 1 1 F_base_of :=
  F.fn sc_base_of (by decide) fun f cdv A outer s H E hr =>
    ((dss_cons (ds_if (dt_val (de_isa "tuple" T.b_isinstance T.b_tuple (de_v 0) (by decide +kernel))) (dss_one (ds_ret (de_ix (de_v 0) de_int))) dss_nil)
    (dss_one (ds_ret (de_v 0)))) : DSs _ W0 (defBody s_base_of) g_base_of)
abbrev s_sides_of : Stmt := topS 5
theorem sc_sides_of : FnScope ["value"] ["value"] (defScope s_sides_of) := ⟨rfl, rfl, rfl, by decide +kernel, rfl, by decide +kernel, by decide +kernel⟩
noncomputable def g_sides_of : M Out :=
    (seqM (ifM (tst (bnd (getL 0) (isaM "tuple"))) (retM (frzM (bnd (consM (bin ixM (getL 0) (ret (.int 1))) (ret [])) listN))) (ret .nx))
    (retM (frzM (lstN (consM (getL 0) (ret []))))))
noncomputable def F_sides_of : Pf := runP 1 g_sides_of
theorem ok_sides_of {P : Program} {wd : World} {K : PySem.W.Frag} {mg : Str → Option Value} {base : Heap} (T : Txt mg) (F : Top K mg "sides_of" s_sides_of ["value"])  :
    FnP P wd K mg base "sides_of" 1 1 F_sides_of :=
  F.fn sc_sides_of (by decide) fun f cdv A outer s H E hr =>
    ((dss_cons (ds_if (dt_val (de_isa "tuple" T.b_isinstance T.b_tuple (de_v 0) (by decide +kernel))) (dss_one (ds_ret (de_frz (dn_callT call_list_of rc_list T.b_list (da_cons (de_ix (de_v 0) de_int) da_nil) (by decide +kernel))))) dss_nil)
    (dss_one (ds_ret (de_frz (dn_lst (da_cons (de_v 0) da_nil)))))) : DSs _ W0 (defBody s_sides_of) g_sides_of)
abbrev s_clash_of : Stmt := topS 6
theorem sc_clash_of : FnScope ["before_it", "values"] ["before_it", "values"] (defScope s_clash_of) := ⟨rfl, rfl, rfl, by decide +kernel, rfl, by decide +kernel, by decide +kernel⟩
noncomputable def g_clash_of : M Out :=
    (retM (tupM (consM (getL 0) (consM (bnd (consM (bnd (consM (getL 1) (ret [])) (callP 1 F_in_order)) (ret [])) tupleM) (ret [])))))
noncomputable def F_clash_of : Pf := runP 2 g_clash_of
theorem ok_clash_of {P : Program} {wd : World} {K : PySem.W.Frag} {mg : Str → Option Value} {base : Heap} (T : Txt mg) (F : Top K mg "clash_of" s_clash_of ["before_it", "values"]) (c_in_order : FnP P wd K mg base "in_order" 1 3 F_in_order) :
    FnP P wd K mg base "clash_of" 2 4 F_clash_of :=
  F.fn sc_clash_of (by decide) fun f cdv A outer s H E hr =>
    ((dss_one (ds_ret (de_tup (da_cons (de_v 0) (da_cons (de_callT call_tuple_of rc_tuple T.b_tuple (da_cons (de_callP c_in_order (hr.mono (by decide)) (da_cons (de_v 1) da_nil)) da_nil) (by decide +kernel)) da_nil))))) : DSs _ W0 (defBody s_clash_of) g_clash_of)
abbrev s_join_cell : Stmt := topS 8
theorem sc_join_cell : FnScope ["base", "one", "other"] ["base", "one", "other"] (defScope s_join_cell) := ⟨rfl, rfl, rfl, by decide +kernel, rfl, by decide +kernel, by decide +kernel⟩
noncomputable def g_join_cell : M Out :=
    (seqM (ifM (orT (tst (bin eqM (getL 1) (getL 2))) (tst (bin eqM (getL 2) (getL 0)))) (retM (getL 1)) (ret .nx))
    (seqM (ifM (tst (bin eqM (getL 1) (getL 0))) (retM (getL 2)) (ret .nx))
    (retM (bnd (consM (bnd (consM (getL 0) (ret [])) (callP 1 F_base_of)) (consM (bin addM (bnd (consM (getL 1) (ret [])) (callP 1 F_sides_of)) (bnd (consM (getL 2) (ret [])) (callP 1 F_sides_of))) (ret []))) (callP 2 F_clash_of)))))
noncomputable def F_join_cell : Pf := runP 3 g_join_cell
theorem ok_join_cell {P : Program} {wd : World} {K : PySem.W.Frag} {mg : Str → Option Value} {base : Heap} (T : Txt mg) (F : Top K mg "join_cell" s_join_cell ["base", "one", "other"]) (c_clash_of : FnP P wd K mg base "clash_of" 2 4 F_clash_of) (c_sides_of : FnP P wd K mg base "sides_of" 1 1 F_sides_of) (c_base_of : FnP P wd K mg base "base_of" 1 1 F_base_of) :
    FnP P wd K mg base "join_cell" 3 5 F_join_cell :=
  F.fn sc_join_cell (by decide) fun f cdv A outer s H E hr =>
    ((dss_cons (ds_if (dt_w (dw_or (dt_cmp (op_eqA (units_of hr)) rop_eq (de_v 1) (de_v 2)) (dw_or1 (dt_cmp (op_eqA (units_of hr)) rop_eq (de_v 2) (de_v 0))))) (dss_one (ds_ret (de_v 1))) dss_nil)
    (dss_cons (ds_if (dt_cmp (op_eqA (units_of hr)) rop_eq (de_v 1) (de_v 0)) (dss_one (ds_ret (de_v 2))) dss_nil)
    (dss_one (ds_ret (de_callP c_clash_of (hr.mono (by decide)) (da_cons (de_callP c_base_of (hr.mono (by decide)) (da_cons (de_v 0) da_nil)) (da_cons (de_add (de_callP c_sides_of (hr.mono (by decide)) (da_cons (de_v 1) da_nil)) (de_callP c_sides_of (hr.mono (by decide)) (da_cons (de_v 2) da_nil))) da_nil))))))) : DSs _ W0 (defBody s_join_cell) g_join_cell)
abbrev s_l_number : Stmt := topS 10
theorem sc_l_number : FnScope ["_law_script", "_law_k", "_law_number_here"] ["_law_script", "_law_k"] (defScope s_l_number) := ⟨rfl, rfl, rfl, by decide +kernel, rfl, by decide +kernel, by decide +kernel⟩
noncomputable def g_l_number : M Out :=
    (seqM (ifM (tst (bin ltAM (getL 1) (bnd (consM (getL 0) (ret [])) lenM))) (retM (bin modM (bin ixM (getL 0) (getL 1)) (ret (.int 2147483647)))) (ret .nx))
    (seqM (asgM (bin addM (bin mulM (getL 1) (ret (.int 7919))) (ret (.int 5))) (setL 2))
    (seqM (ifM (tst (bin gtM (bnd (consM (getL 0) (ret [])) lenM) (ret (.int 0)))) (asgM (bin modM (bin addM (bin mulM (bin ixM (getL 0) (bin modM (bin mulM (getL 1) (ret (.int 7))) (bnd (consM (getL 0) (ret [])) lenM))) (ret (.int 48271))) (bin mulM (getL 1) (ret (.int 7919)))) (ret (.int 2147483647))) (setL 2)) (ret .nx))
    (retM (bin modM (bin mulM (getL 2) (getL 2)) (ret (.int 2147483629)))))))
noncomputable def F_l_number : Pf := runP 3 g_l_number
theorem ok_l_number {P : Program} {wd : World} {K : PySem.W.Frag} {mg : Str → Option Value} {base : Heap} (T : Txt mg) (F : Top K mg "_law_number" s_l_number ["_law_script", "_law_k"])  :
    FnP P wd K mg base "_law_number" 2 1 F_l_number :=
  F.fn sc_l_number (by decide) fun f cdv A outer s H E hr =>
    ((dss_cons (ds_if (dt_cmp (op_ltA (units_of hr)) rop_ltA (de_v 1) (de_len T.b_len (da_cons (de_v 0) da_nil))) (dss_one (ds_ret (de_mod (de_ix (de_v 0) (de_v 1)) de_int))) dss_nil)
    (dss_cons (ds_set 2 (de_add (de_mul (de_v 1) de_int) de_int) sc_l_number.nd)
    (dss_cons (ds_if (dt_cmp op_gt rop_gt (de_len T.b_len (da_cons (de_v 0) da_nil)) de_int) (dss_one (ds_set 2 (de_mod (de_add (de_mul (de_ix (de_v 0) (de_mod (de_mul (de_v 1) de_int) (de_len T.b_len (da_cons (de_v 0) da_nil)))) de_int) (de_mul (de_v 1) de_int)) de_int) sc_l_number.nd)) dss_nil)
    (dss_one (ds_ret (de_mod (de_mul (de_v 2) (de_v 2)) de_int)))))) : DSs _ W0 (defBody s_l_number) g_l_number)
abbrev s_l_text : Stmt := topS 11
theorem sc_l_text : FnScope ["_law_number_here", "_law_size", "_law_signs", "_law_text_here", "_law_k", "_law_place"] ["_law_number_here", "_law_size"] (defScope s_l_text) := ⟨rfl, rfl, rfl, by decide +kernel, rfl, by decide +kernel, by decide +kernel⟩
noncomputable def b_l_text_1 : M Out :=
    (seqM (asgM (bin addM (bin divM (getL 0) (bin addM (getL 4) (ret (.int 1)))) (bin mulM (getL 4) (bin modM (getL 0) (ret (.int 89))))) (setL 5))
    (asgM (bin addM (getL 3) (bin ixM (getL 2) (bin modM (getL 5) (ret (.int 94))))) (setL 3)))
noncomputable def g_l_text : M Out :=
    (seqM (asgM (ret (.str " !\"#$&'()*+,-./0123456789:;<=>?@ABCDEFGHIJKLMNOPQRSTUVWXYZ[\\]^_`")) (setL 2))
    (seqM (asgM (bin addM (getL 2) (ret (.str "abcdefghijklmnopqrstuvwxyz{|}~"))) (setL 2))
    (seqM (asgM (ret (.str "")) (setL 3))
    (seqM (forM (bnd (consM (getL 1) (ret [])) ran1I) (setL 4) b_l_text_1)
    (retM (getL 3))))))
noncomputable def F_l_text : Pf := runP 6 g_l_text
theorem ok_l_text {P : Program} {wd : World} {K : PySem.W.Frag} {mg : Str → Option Value} {base : Heap} (T : Txt mg) (F : Top K mg "_law_text" s_l_text ["_law_number_here", "_law_size"])  :
    FnP P wd K mg base "_law_text" 2 1 F_l_text :=
  F.fn sc_l_text (by decide) fun f cdv A outer s H E hr =>
    ((dss_cons (ds_set 2 de_str sc_l_text.nd)
    (dss_cons (ds_set 2 (de_add (de_v 2) de_str) sc_l_text.nd)
    (dss_cons (ds_set 3 de_str sc_l_text.nd)
    (dss_cons (ds_for PassesOwn.never rfl (di_range1 T.b_range (da_cons (de_v 1) da_nil)) (dg_name sc_l_text.nd) (dss_cons (ds_set 5 (de_add (de_div (de_v 0) (de_add (de_v 4) de_int)) (de_mul (de_v 4) (de_mod (de_v 0) de_int))) sc_l_text.nd)
    (dss_one (ds_set 3 (de_add (de_v 3) (de_ix (de_v 2) (de_mod (de_v 5) de_int))) sc_l_text.nd))))
    (dss_one (ds_ret (de_v 3))))))) : DSs _ W0 (defBody s_l_text) g_l_text)
abbrev s_l_plain : Stmt := topS 12
theorem sc_l_plain : FnScope ["_law_number_here"] ["_law_number_here"] (defScope s_l_plain) := ⟨rfl, rfl, rfl, by decide +kernel, rfl, by decide +kernel, by decide +kernel⟩
noncomputable def g_l_plain : M Out :=
    (seqM (ifM (tst (bin eqM (bin modM (getL 0) (ret (.int 6))) (ret (.int 0)))) (retM (ret .non)) (ret .nx))
    (seqM (ifM (tst (bin ltAM (bin modM (getL 0) (ret (.int 6))) (ret (.int 3)))) (retM (bin subM (bin modM (bin divM (getL 0) (ret (.int 6))) (ret (.int 7))) (ret (.int 3)))) (ret .nx))
    (seqM (ifM (tst (bin eqM (bin modM (getL 0) (ret (.int 6))) (ret (.int 3)))) (retM (bin subM (bin modM (bin powM (bin addM (bin mulM (getL 0) (ret (.int 48271))) (ret (.int 7))) (ret (.int 4))) (bin subM (bin mulM (ret (.int 2)) (bin powM (ret (.int 10)) (ret (.int 30)))) (ret (.int 1)))) (bin subM (bin powM (ret (.int 10)) (ret (.int 30))) (ret (.int 1))))) (ret .nx))
    (retM (bnd (consM (bin divM (getL 0) (ret (.int 6))) (consM (bin modM (bin divM (getL 0) (ret (.int 24))) (ret (.int 41))) (ret []))) (callP 2 F_l_text))))))
noncomputable def F_l_plain : Pf := runP 1 g_l_plain
theorem ok_l_plain {P : Program} {wd : World} {K : PySem.W.Frag} {mg : Str → Option Value} {base : Heap} (T : Txt mg) (F : Top K mg "_law_plain" s_l_plain ["_law_number_here"]) (c_l_text : FnP P wd K mg base "_law_text" 2 1 F_l_text) :
    FnP P wd K mg base "_law_plain" 1 2 F_l_plain :=
  F.fn sc_l_plain (by decide) fun f cdv A outer s H E hr =>
    ((dss_cons (ds_if (dt_cmp (op_eqA (units_of hr)) rop_eq (de_mod (de_v 0) de_int) de_int) (dss_one (ds_ret de_non)) dss_nil)
    (dss_cons (ds_if (dt_cmp (op_ltA (units_of hr)) rop_ltA (de_mod (de_v 0) de_int) de_int) (dss_one (ds_ret (de_sub (de_mod (de_div (de_v 0) de_int) de_int) de_int))) dss_nil)
    (dss_cons (ds_if (dt_cmp (op_eqA (units_of hr)) rop_eq (de_mod (de_v 0) de_int) de_int) (dss_one (ds_ret (de_sub (de_mod (de_pow (de_add (de_mul (de_v 0) de_int) de_int) de_int) (de_sub (de_mul de_int (de_pow de_int de_int)) de_int)) (de_sub (de_pow de_int de_int) de_int)))) dss_nil)
    (dss_one (ds_ret (de_callP c_l_text (hr.mono (by decide)) (da_cons (de_div (de_v 0) de_int) (da_cons (de_mod (de_div (de_v 0) de_int) de_int) da_nil)))))))) : DSs _ W0 (defBody s_l_plain) g_l_plain)
abbrev s_l_rank : Stmt := topS 13
theorem sc_l_rank : FnScope ["_law_value"] ["_law_value"] (defScope s_l_rank) := ⟨rfl, rfl, rfl, by decide +kernel, rfl, by decide +kernel, by decide +kernel⟩
noncomputable def g_l_rank : M Out :=
    (seqM (ifM (tst (bin isM (getL 0) (ret .non))) (retM (tupM (consM (ret (.int 0)) (consM (ret (.int 0)) (consM (ret (.str "")) (ret [])))))) (ret .nx))
    (seqM (ifM (tst (bnd (getL 0) (isaM "int"))) (retM (tupM (consM (ret (.int 1)) (consM (getL 0) (consM (ret (.str "")) (ret [])))))) (ret .nx))
    (retM (tupM (consM (ret (.int 2)) (consM (ret (.int 0)) (consM (getL 0) (ret []))))))))
noncomputable def F_l_rank : Pf := runP 1 g_l_rank
theorem ok_l_rank {P : Program} {wd : World} {K : PySem.W.Frag} {mg : Str → Option Value} {base : Heap} (T : Txt mg) (F : Top K mg "_law_rank" s_l_rank ["_law_value"])  :
    FnP P wd K mg base "_law_rank" 1 1 F_l_rank :=
  F.fn sc_l_rank (by decide) fun f cdv A outer s H E hr =>
    ((dss_cons (ds_if (dt_cmp op_isN rop_is (de_v 0) de_non) (dss_one (ds_ret (de_tup (da_cons de_int (da_cons de_int (da_cons de_str da_nil)))))) dss_nil)
    (dss_cons (ds_if (dt_val (de_isa "int" T.b_isinstance T.b_int (de_v 0) (by decide +kernel))) (dss_one (ds_ret (de_tup (da_cons de_int (da_cons (de_v 0) (da_cons de_str da_nil)))))) dss_nil)
    (dss_one (ds_ret (de_tup (da_cons de_int (da_cons de_int (da_cons (de_v 0) da_nil)))))))) : DSs _ W0 (defBody s_l_rank) g_l_rank)
abbrev s_l_order : Stmt := topS 14
theorem sc_l_order : FnScope ["_law_values", "_law_found", "_law_value"] ["_law_values"] (defScope s_l_order) := ⟨rfl, rfl, rfl, by decide +kernel, rfl, by decide +kernel, by decide +kernel⟩
noncomputable def b_l_order_1 : M Out :=
    (ifM (orT (tst (bin eqM (getL 1) (frzM (lstN (ret []))))) (tst (bin neM (bin ixM (getL 1) (bnd (ret (.int 1)) negM)) (getL 2)))) (dropM (methM "list" (getL 1) (consM (getL 2) (ret [])) appM)) (ret .nx))
noncomputable def g_l_order : M Out :=
    (seqM (asgM (ownM (lstN (ret []))) (setL 1))
    (seqM (forM (bnd (frzM (bnd (getL 0) (sortKN F_l_rank))) seqI) (setL 2) b_l_order_1)
    (retM (getL 1))))
noncomputable def F_l_order : Pf := runP 3 g_l_order
theorem ok_l_order {P : Program} {wd : World} {K : PySem.W.Frag} {mg : Str → Option Value} {base : Heap} (T : Txt mg) (F : Top K mg "_law_order" s_l_order ["_law_values"]) (c_l_rank : FnP P wd K mg base "_law_rank" 1 1 F_l_rank) :
    FnP P wd K mg base "_law_order" 1 4 F_l_order :=
  F.fn sc_l_order (by decide) fun f cdv A outer s H E hr =>
    ((dss_cons (ds_set 1 (de_own (dn_lst da_nil)) sc_l_order.nd)
    (dss_cons (ds_for PassesOwn.never rfl (di_seq (de_frz (dn_sortK T.b_sorted c_l_rank (hr.mono (by decide)) (de_v 0)))) (dg_name sc_l_order.nd) (dss_one (ds_if (dt_w (dw_or (dt_cmp (op_eqA (units_of hr)) rop_eq (de_v 1) (de_frz (dn_lst da_nil))) (dw_or1 (dt_cmp (op_neA (units_of hr)) rop_ne (de_ix (de_v 1) (de_neg de_int)) (de_v 2))))) (dss_one (ds_expr (de_append (de_v 1) (da_cons (de_v 2) da_nil)))) dss_nil)))
    (dss_one (ds_ret (de_v 1))))) : DSs _ W0 (defBody s_l_order) g_l_order)
abbrev s_l_sides : Stmt := topS 15
theorem sc_l_sides : FnScope ["_law_value"] ["_law_value"] (defScope s_l_sides) := ⟨rfl, rfl, rfl, by decide +kernel, rfl, by decide +kernel, by decide +kernel⟩
noncomputable def g_l_sides : M Out :=
    (seqM (ifM (tst (bnd (getL 0) (isaM "tuple"))) (retM (frzM (bnd (consM (bin ixM (getL 0) (ret (.int 1))) (ret [])) listN))) (ret .nx))
    (retM (frzM (lstN (consM (getL 0) (ret []))))))
noncomputable def F_l_sides : Pf := runP 1 g_l_sides
theorem ok_l_sides {P : Program} {wd : World} {K : PySem.W.Frag} {mg : Str → Option Value} {base : Heap} (T : Txt mg) (F : Top K mg "_law_sides" s_l_sides ["_law_value"])  :
    FnP P wd K mg base "_law_sides" 1 1 F_l_sides :=
  F.fn sc_l_sides (by decide) fun f cdv A outer s H E hr =>
    ((dss_cons (ds_if (dt_val (de_isa "tuple" T.b_isinstance T.b_tuple (de_v 0) (by decide +kernel))) (dss_one (ds_ret (de_frz (dn_callT call_list_of rc_list T.b_list (da_cons (de_ix (de_v 0) de_int) da_nil) (by decide +kernel))))) dss_nil)
    (dss_one (ds_ret (de_frz (dn_lst (da_cons (de_v 0) da_nil)))))) : DSs _ W0 (defBody s_l_sides) g_l_sides)
abbrev s_l_joined : Stmt := topS 16
theorem sc_l_joined : FnScope ["_law_base", "_law_one", "_law_other", "_law_first"] ["_law_base", "_law_one", "_law_other"] (defScope s_l_joined) := ⟨rfl, rfl, rfl, by decide +kernel, rfl, by decide +kernel, by decide +kernel⟩
noncomputable def g_l_joined : M Out :=
    (seqM (ifM (orT (tst (bin eqM (getL 1) (getL 2))) (tst (bin eqM (getL 2) (getL 0)))) (retM (getL 1)) (ret .nx))
    (seqM (ifM (tst (bin eqM (getL 1) (getL 0))) (retM (getL 2)) (ret .nx))
    (seqM (asgM (getL 0) (setL 3))
    (seqM (ifM (tst (bnd (getL 0) (isaM "tuple"))) (asgM (bin ixM (getL 0) (ret (.int 0))) (setL 3)) (ret .nx))
    (retM (tupM (consM (getL 3) (consM (bnd (consM (bnd (consM (bin addM (bnd (consM (getL 1) (ret [])) (callP 1 F_l_sides)) (bnd (consM (getL 2) (ret [])) (callP 1 F_l_sides))) (ret [])) (callP 1 F_l_order)) (ret [])) tupleM) (ret [])))))))))
noncomputable def F_l_joined : Pf := runP 4 g_l_joined
theorem ok_l_joined {P : Program} {wd : World} {K : PySem.W.Frag} {mg : Str → Option Value} {base : Heap} (T : Txt mg) (F : Top K mg "_law_joined" s_l_joined ["_law_base", "_law_one", "_law_other"]) (c_l_order : FnP P wd K mg base "_law_order" 1 4 F_l_order) (c_l_sides : FnP P wd K mg base "_law_sides" 1 1 F_l_sides) :
    FnP P wd K mg base "_law_joined" 3 5 F_l_joined :=
  F.fn sc_l_joined (by decide) fun f cdv A outer s H E hr =>
    ((dss_cons (ds_if (dt_w (dw_or (dt_cmp (op_eqA (units_of hr)) rop_eq (de_v 1) (de_v 2)) (dw_or1 (dt_cmp (op_eqA (units_of hr)) rop_eq (de_v 2) (de_v 0))))) (dss_one (ds_ret (de_v 1))) dss_nil)
    (dss_cons (ds_if (dt_cmp (op_eqA (units_of hr)) rop_eq (de_v 1) (de_v 0)) (dss_one (ds_ret (de_v 2))) dss_nil)
    (dss_cons (ds_set 3 (de_v 0) sc_l_joined.nd)
    (dss_cons (ds_if (dt_val (de_isa "tuple" T.b_isinstance T.b_tuple (de_v 0) (by decide +kernel))) (dss_one (ds_set 3 (de_ix (de_v 0) de_int) sc_l_joined.nd)) dss_nil)
    (dss_one (ds_ret (de_tup (da_cons (de_v 3) (da_cons (de_callT call_tuple_of rc_tuple T.b_tuple (da_cons (de_callP c_l_order (hr.mono (by decide)) (da_cons (de_add (de_callP c_l_sides (hr.mono (by decide)) (da_cons (de_v 1) da_nil)) (de_callP c_l_sides (hr.mono (by decide)) (da_cons (de_v 2) da_nil))) da_nil)) da_nil) (by decide +kernel)) da_nil))))))))) : DSs _ W0 (defBody s_l_joined) g_l_joined)
abbrev s_l_alike : Stmt := topS 17
theorem sc_l_alike : FnScope ["_law_found", "_law_due", "_law_one", "_law_other"] ["_law_found", "_law_due"] (defScope s_l_alike) := ⟨rfl, rfl, rfl, by decide +kernel, rfl, by decide +kernel, by decide +kernel⟩
noncomputable def b_l_alike_1 (Frec : Pf) : M Out :=
    (ifM (notT (tst (bnd (consM (getL 2) (consM (getL 3) (ret []))) (callP 2 Frec)))) (retM (ret (.bl false))) (ret .nx))
noncomputable def g_l_alike (Frec : Pf) : M Out :=
    (seqM (ifM (tst (bnd (getL 1) (isa2M "tuple" "list"))) (seqM (ifM (orT (tst (bin neM (bnd (getL 1) (isaM "tuple")) (bnd (getL 0) (isaM "tuple")))) (tst (bin neM (bnd (getL 1) (isaM "list")) (bnd (getL 0) (isaM "list"))))) (retM (ret (.bl false))) (ret .nx))
    (seqM (ifM (tst (bin neM (bnd (consM (getL 0) (ret [])) lenM) (bnd (consM (getL 1) (ret [])) lenM))) (retM (ret (.bl false))) (ret .nx))
    (seqM (forM (bnd (consM (getL 0) (consM (getL 1) (ret []))) zipA) (unp2 2 3) (b_l_alike_1 Frec))
    (retM (ret (.bl true)))))) (ret .nx))
    (retM (andV (notV (bnd (getL 0) (isaM "bool"))) (bin eqM (getL 0) (getL 1)))))
noncomputable def F_l_alike_at : Nat → Pf
  | 0 => fun _ _ => none
  | k + 1 => runP 4 (g_l_alike (F_l_alike_at k))
noncomputable def F_l_alike : Pf := F_l_alike_at 4
theorem ok_l_alike_at {P : Program} {wd : World} {K : PySem.W.Frag} {mg : Str → Option Value} {base : Heap} (T : Txt mg) (F : Top K mg "_law_alike" s_l_alike ["_law_found", "_law_due"])  : ∀ r : Nat,
    FnP P wd K mg base "_law_alike" 2 (r + 1) (F_l_alike_at r)
  | 0 => F.nil
  | r + 1 => have c_rec := ok_l_alike_at T F r
    have z : FnP P wd K mg base "_law_alike" 2 (r + 1 + 1) (F_l_alike_at (r + 1)) := F.fn sc_l_alike (by decide) fun f cdv A outer s H E hr =>
    ((dss_cons (ds_if (dt_val (de_isa2 "tuple" "list" T.b_isinstance T.b_tuple T.b_list (de_v 1) (by decide +kernel) (by decide +kernel))) (dss_cons (ds_if (dt_w (dw_or (dt_cmp (op_neA (units_of hr)) rop_ne (de_isa "tuple" T.b_isinstance T.b_tuple (de_v 1) (by decide +kernel)) (de_isa "tuple" T.b_isinstance T.b_tuple (de_v 0) (by decide +kernel))) (dw_or1 (dt_cmp (op_neA (units_of hr)) rop_ne (de_isa "list" T.b_isinstance T.b_list (de_v 1) (by decide +kernel)) (de_isa "list" T.b_isinstance T.b_list (de_v 0) (by decide +kernel)))))) (dss_one (ds_ret de_bl)) dss_nil)
    (dss_cons (ds_if (dt_cmp (op_neA (units_of hr)) rop_ne (de_len T.b_len (da_cons (de_v 0) da_nil)) (de_len T.b_len (da_cons (de_v 1) da_nil))) (dss_one (ds_ret de_bl)) dss_nil)
    (dss_cons (ds_for PassesOwn.never rfl (di_zipA T.b_zip (da_cons (de_v 0) (da_cons (de_v 1) da_nil))) (dg_two rfl sc_l_alike.nd) (dss_one (ds_if (dt_not (dt_val (de_callP c_rec (hr.mono (by omega)) (da_cons (de_v 2) (da_cons (de_v 3) da_nil))))) (dss_one (ds_ret de_bl)) dss_nil)))
    (dss_one (ds_ret de_bl))))) dss_nil)
    (dss_one (ds_ret (de_and (de_not (de_isa "bool" T.b_isinstance T.b_bool (de_v 0) (by decide +kernel))) (de_one (de_cmp (op_eqA (units_of hr)) rop_eq (de_v 0) (de_v 1))))))) : DSs _ W0 (defBody s_l_alike) (g_l_alike (F_l_alike_at r)))
    z.mono (by omega)
theorem ok_l_alike {P : Program} {wd : World} {K : PySem.W.Frag} {mg : Str → Option Value} {base : Heap} (T : Txt mg) (F : Top K mg "_law_alike" s_l_alike ["_law_found", "_law_due"])  :
    FnP P wd K mg base "_law_alike" 2 5 F_l_alike := (ok_l_alike_at T F 4).mono (by decide)
abbrev s_l_pool : Stmt := topS 18
theorem sc_l_pool : FnScope ["_law_script", "_law_start", "_law_pool_here", "_law_k"] ["_law_script", "_law_start"] (defScope s_l_pool) := ⟨rfl, rfl, rfl, by decide +kernel, rfl, by decide +kernel, by decide +kernel⟩
noncomputable def g_l_pool : M Out :=
    (seqM (asgM (frzM (lcM (bnd (consM (ret (.int 6)) (ret [])) ran1I) 3 yesM (bnd (consM (bnd (consM (getL 0) (consM (bin addM (getL 1) (getL 3)) (ret []))) (callP 2 F_l_number)) (ret [])) (callP 1 F_l_plain)))) (setL 2))
    (retM (bin addM (getL 2) (frzM (lstN (consM (ret .non) (ret [])))))))
noncomputable def F_l_pool : Pf := runP 4 g_l_pool
theorem ok_l_pool {P : Program} {wd : World} {K : PySem.W.Frag} {mg : Str → Option Value} {base : Heap} (T : Txt mg) (F : Top K mg "_law_pool" s_l_pool ["_law_script", "_law_start"]) (c_l_plain : FnP P wd K mg base "_law_plain" 1 2 F_l_plain) (c_l_number : FnP P wd K mg base "_law_number" 2 1 F_l_number) :
    FnP P wd K mg base "_law_pool" 2 3 F_l_pool :=
  F.fn sc_l_pool (by decide) fun f cdv A outer s H E hr =>
    ((dss_cons (ds_lc false rfl sc_l_pool.nd (di_range1 T.b_range (da_cons de_int da_nil)) (blkOk_by (own := [("_law_k", 3)]) (N := ["_law_script", "_law_start", "_law_pool_here", "_law_k"]) (sc := defScope s_l_pool) (by decide +kernel)) (fun _ _ _ _ _ => pg_n (i := 3) sc_l_pool.nd) (fun _ _ _ _ _ => tests_nil) (fun _ _ _ _ _ => (de_callP c_l_plain (hr.mono (by decide)) (da_cons (de_callP c_l_number (hr.mono (by decide)) (da_cons (de_v 0) (da_cons (de_add (de_v 1) (de_v 3)) da_nil))) da_nil))) (sw_true rfl rfl rfl (by decide +kernel)))
    (dss_one (ds_ret (de_add (de_v 2) (de_frz (dn_lst (da_cons de_non da_nil))))))) : DSs _ W0 (defBody s_l_pool) g_l_pool)
abbrev s_l_state : Stmt := topS 19
theorem sc_l_state : FnScope ["_law_number_here", "_law_pool_here", "_law_many", "_law_step", "_law_some", "_law_k"] ["_law_number_here", "_law_pool_here"] (defScope s_l_state) := ⟨rfl, rfl, rfl, by decide +kernel, rfl, by decide +kernel, by decide +kernel⟩
noncomputable def b_l_state_1 : M Out :=
    (dropM (methM "list" (getL 4) (consM (bin ixM (getL 1) (bin modM (bin addM (bin divM (getL 0) (ret (.int 12))) (bin mulM (getL 5) (getL 3))) (bnd (consM (getL 1) (ret [])) lenM))) (ret [])) appM))
noncomputable def g_l_state : M Out :=
    (seqM (ifM (tst (bin gtM (bin modM (getL 0) (ret (.int 4))) (ret (.int 0)))) (retM (bin ixM (getL 1) (bin modM (bin divM (getL 0) (ret (.int 4))) (bnd (consM (getL 1) (ret [])) lenM)))) (ret .nx))
    (seqM (asgM (bin addM (ret (.int 2)) (bin modM (bin divM (getL 0) (ret (.int 4))) (ret (.int 3)))) (setL 2))
    (seqM (asgM (bin addM (ret (.int 1)) (bin modM (bin divM (getL 0) (ret (.int 84))) (ret (.int 3)))) (setL 3))
    (seqM (asgM (ownM (lstN (ret []))) (setL 4))
    (seqM (forM (bnd (consM (getL 2) (ret [])) ran1I) (setL 5) b_l_state_1)
    (seqM (asgM (bnd (consM (getL 4) (ret [])) (callP 1 F_l_order)) (setL 4))
    (seqM (ifM (tst (bin ltAM (bnd (consM (getL 4) (ret [])) lenM) (ret (.int 2)))) (retM (bin ixM (getL 4) (ret (.int 0)))) (ret .nx))
    (retM (tupM (consM (bin ixM (getL 1) (bin modM (bin divM (getL 0) (ret (.int 252))) (bnd (consM (getL 1) (ret [])) lenM))) (consM (bnd (consM (getL 4) (ret [])) tupleM) (ret []))))))))))))
noncomputable def F_l_state : Pf := runP 6 g_l_state
theorem ok_l_state {P : Program} {wd : World} {K : PySem.W.Frag} {mg : Str → Option Value} {base : Heap} (T : Txt mg) (F : Top K mg "_law_state" s_l_state ["_law_number_here", "_law_pool_here"]) (c_l_order : FnP P wd K mg base "_law_order" 1 4 F_l_order) :
    FnP P wd K mg base "_law_state" 2 5 F_l_state :=
  F.fn sc_l_state (by decide) fun f cdv A outer s H E hr =>
    ((dss_cons (ds_if (dt_cmp op_gt rop_gt (de_mod (de_v 0) de_int) de_int) (dss_one (ds_ret (de_ix (de_v 1) (de_mod (de_div (de_v 0) de_int) (de_len T.b_len (da_cons (de_v 1) da_nil)))))) dss_nil)
    (dss_cons (ds_set 2 (de_add de_int (de_mod (de_div (de_v 0) de_int) de_int)) sc_l_state.nd)
    (dss_cons (ds_set 3 (de_add de_int (de_mod (de_div (de_v 0) de_int) de_int)) sc_l_state.nd)
    (dss_cons (ds_set 4 (de_own (dn_lst da_nil)) sc_l_state.nd)
    (dss_cons (ds_for PassesOwn.never rfl (di_range1 T.b_range (da_cons (de_v 2) da_nil)) (dg_name sc_l_state.nd) (dss_one (ds_expr (de_append (de_v 4) (da_cons (de_ix (de_v 1) (de_mod (de_add (de_div (de_v 0) de_int) (de_mul (de_v 5) (de_v 3))) (de_len T.b_len (da_cons (de_v 1) da_nil)))) da_nil)))))
    (dss_cons (ds_set 4 (de_callP c_l_order (hr.mono (by decide)) (da_cons (de_v 4) da_nil)) sc_l_state.nd)
    (dss_cons (ds_if (dt_cmp (op_ltA (units_of hr)) rop_ltA (de_len T.b_len (da_cons (de_v 4) da_nil)) de_int) (dss_one (ds_ret (de_ix (de_v 4) de_int))) dss_nil)
    (dss_one (ds_ret (de_tup (da_cons (de_ix (de_v 1) (de_mod (de_div (de_v 0) de_int) (de_len T.b_len (da_cons (de_v 1) da_nil)))) (da_cons (de_callT call_tuple_of rc_tuple T.b_tuple (da_cons (de_v 4) da_nil) (by decide +kernel)) da_nil)))))))))))) : DSs _ W0 (defBody s_l_state) g_l_state)
abbrev s_law : Stmt := topS 20
theorem sc_law : FnScope ["_law_script", "_law_pool_here", "_law_k", "_law_number_here", "_law_base", "_law_one", "_law_other", "_law_due"] ["_law_script"] (defScope s_law) := ⟨rfl, rfl, rfl, by decide +kernel, rfl, by decide +kernel, by decide +kernel⟩
noncomputable def b_law_1 : M Out :=
    (seqM (asgM (bnd (consM (getL 0) (consM (bin addM (ret (.int 6)) (getL 2)) (ret []))) (callP 2 F_l_number)) (setL 3))
    (seqM (asgM (bnd (consM (getL 3) (consM (getL 1) (ret []))) (callP 2 F_l_state)) (setL 4))
    (seqM (asgM (bnd (consM (bin modM (bin mulM (bin divM (getL 3) (ret (.int 3))) (ret (.int 69621))) (ret (.int 2147483629))) (consM (getL 1) (ret []))) (callP 2 F_l_state)) (setL 5))
    (seqM (asgM (bnd (consM (bnd (consM (getL 0) (consM (bin addM (ret (.int 18)) (getL 2)) (ret []))) (callP 2 F_l_number)) (consM (getL 1) (ret []))) (callP 2 F_l_state)) (setL 6))
    (seqM (ifM (andT (tst (bin eqM (bin modM (getL 2) (ret (.int 3))) (ret (.int 0)))) (tst (bin eqM (bin modM (getL 3) (ret (.int 3))) (ret (.int 0))))) (asgM (getL 4) (setL 5)) (ret .nx))
    (seqM (ifM (andT (tst (bin eqM (bin modM (getL 2) (ret (.int 3))) (ret (.int 0)))) (tst (bin eqM (bin modM (getL 3) (ret (.int 3))) (ret (.int 1))))) (asgM (getL 4) (setL 6)) (ret .nx))
    (seqM (ifM (andT (tst (bin eqM (bin modM (getL 2) (ret (.int 3))) (ret (.int 0)))) (tst (bin eqM (bin modM (getL 3) (ret (.int 3))) (ret (.int 2))))) (asgM (getL 6) (setL 5)) (ret .nx))
    (seqM (asgM (bnd (consM (getL 4) (consM (getL 5) (consM (getL 6) (ret [])))) (callP 3 F_l_joined)) (setL 7))
    (seqM (ifM (orT (notT (tst (bnd (consM (bnd (consM (getL 4) (consM (getL 5) (consM (getL 6) (ret [])))) (callP 3 F_join_cell)) (consM (getL 7) (ret []))) (callP 2 F_l_alike)))) (notT (tst (bnd (consM (bnd (consM (getL 4) (consM (getL 6) (consM (getL 5) (ret [])))) (callP 3 F_join_cell)) (consM (getL 7) (ret []))) (callP 2 F_l_alike))))) (retM (ret (.bl false))) (ret .nx))
    (ifM (orT (notT (tst (bnd (consM (bnd (consM (getL 5) (consM (getL 5) (consM (getL 6) (ret [])))) (callP 3 F_join_cell)) (consM (getL 6) (ret []))) (callP 2 F_l_alike)))) (notT (tst (bnd (consM (bnd (consM (getL 4) (consM (getL 5) (consM (getL 5) (ret [])))) (callP 3 F_join_cell)) (consM (getL 5) (ret []))) (callP 2 F_l_alike))))) (retM (ret (.bl false))) (ret .nx)))))))))))
noncomputable def g_law : M Out :=
    (seqM (asgM (bnd (consM (getL 0) (consM (ret (.int 0)) (ret []))) (callP 2 F_l_pool)) (setL 1))
    (seqM (forM (bnd (consM (ret (.int 12)) (ret [])) ran1I) (setL 2) b_law_1)
    (retM (ret (.bl true)))))
noncomputable def F_law : Pf := runP 8 g_law
theorem ok_law {P : Program} {wd : World} {K : PySem.W.Frag} {mg : Str → Option Value} (T : Txt mg) (F : Top K mg "law" s_law ["_law_script"])
    (C : ∀ base : Heap, K.In base → base.Ns mainGlobals mg → FnP P wd K mg base "_law_pool" 2 3 F_l_pool ∧ FnP P wd K mg base "_law_number" 2 1 F_l_number ∧ FnP P wd K mg base "_law_state" 2 5 F_l_state ∧ FnP P wd K mg base "_law_joined" 3 5 F_l_joined ∧ FnP P wd K mg base "_law_alike" 2 5 F_l_alike ∧ FnP P wd K mg base "join_cell" 3 5 F_join_cell ∧ True) :
    ∃ (fa : Addr) (fd : FuncData), mg "law" = some (.ref fa) ∧ (∀ (s : Shared) (u : Value), BindsTo s fd ⟨[u], []⟩ [("_law_script", u)]) ∧ ∀ base : Heap, K.In base → base.Ns mainGlobals mg → FnOk P wd K mg base CX0 6 fa fd ["_law_script"] (SpP K 1 F_law) :=
  F.law sc_law (by decide) fun base X0 G0 f cdv A outer s H E hr => let ⟨c_l_pool, c_l_number, c_l_state, c_l_joined, c_l_alike, c_join_cell, _⟩ := C base X0 G0
    ((dss_cons (ds_set 1 (de_callP c_l_pool (hr.mono (by decide)) (da_cons (de_v 0) (da_cons de_int da_nil))) sc_law.nd)
    (dss_cons (ds_for PassesOwn.never rfl (di_range1 T.b_range (da_cons de_int da_nil)) (dg_name sc_law.nd) (dss_cons (ds_set 3 (de_callP c_l_number (hr.mono (by decide)) (da_cons (de_v 0) (da_cons (de_add de_int (de_v 2)) da_nil))) sc_law.nd)
    (dss_cons (ds_set 4 (de_callP c_l_state (hr.mono (by decide)) (da_cons (de_v 3) (da_cons (de_v 1) da_nil))) sc_law.nd)
    (dss_cons (ds_set 5 (de_callP c_l_state (hr.mono (by decide)) (da_cons (de_mod (de_mul (de_div (de_v 3) de_int) de_int) de_int) (da_cons (de_v 1) da_nil))) sc_law.nd)
    (dss_cons (ds_set 6 (de_callP c_l_state (hr.mono (by decide)) (da_cons (de_callP c_l_number (hr.mono (by decide)) (da_cons (de_v 0) (da_cons (de_add de_int (de_v 2)) da_nil))) (da_cons (de_v 1) da_nil))) sc_law.nd)
    (dss_cons (ds_if (dt_w (dw_and (dt_cmp (op_eqA (units_of hr)) rop_eq (de_mod (de_v 2) de_int) de_int) (dw_and1 (dt_cmp (op_eqA (units_of hr)) rop_eq (de_mod (de_v 3) de_int) de_int)))) (dss_one (ds_set 5 (de_v 4) sc_law.nd)) dss_nil)
    (dss_cons (ds_if (dt_w (dw_and (dt_cmp (op_eqA (units_of hr)) rop_eq (de_mod (de_v 2) de_int) de_int) (dw_and1 (dt_cmp (op_eqA (units_of hr)) rop_eq (de_mod (de_v 3) de_int) de_int)))) (dss_one (ds_set 6 (de_v 4) sc_law.nd)) dss_nil)
    (dss_cons (ds_if (dt_w (dw_and (dt_cmp (op_eqA (units_of hr)) rop_eq (de_mod (de_v 2) de_int) de_int) (dw_and1 (dt_cmp (op_eqA (units_of hr)) rop_eq (de_mod (de_v 3) de_int) de_int)))) (dss_one (ds_set 5 (de_v 6) sc_law.nd)) dss_nil)
    (dss_cons (ds_set 7 (de_callP c_l_joined (hr.mono (by decide)) (da_cons (de_v 4) (da_cons (de_v 5) (da_cons (de_v 6) da_nil)))) sc_law.nd)
    (dss_cons (ds_if (dt_w (dw_or (dt_not (dt_val (de_callP c_l_alike (hr.mono (by decide)) (da_cons (de_callP c_join_cell (hr.mono (by decide)) (da_cons (de_v 4) (da_cons (de_v 5) (da_cons (de_v 6) da_nil)))) (da_cons (de_v 7) da_nil))))) (dw_or1 (dt_not (dt_val (de_callP c_l_alike (hr.mono (by decide)) (da_cons (de_callP c_join_cell (hr.mono (by decide)) (da_cons (de_v 4) (da_cons (de_v 6) (da_cons (de_v 5) da_nil)))) (da_cons (de_v 7) da_nil)))))))) (dss_one (ds_ret de_bl)) dss_nil)
    (dss_one (ds_if (dt_w (dw_or (dt_not (dt_val (de_callP c_l_alike (hr.mono (by decide)) (da_cons (de_callP c_join_cell (hr.mono (by decide)) (da_cons (de_v 5) (da_cons (de_v 5) (da_cons (de_v 6) da_nil)))) (da_cons (de_v 6) da_nil))))) (dw_or1 (dt_not (dt_val (de_callP c_l_alike (hr.mono (by decide)) (da_cons (de_callP c_join_cell (hr.mono (by decide)) (da_cons (de_v 4) (da_cons (de_v 5) (da_cons (de_v 5) da_nil)))) (da_cons (de_v 5) da_nil)))))))) (dss_one (ds_ret de_bl)) dss_nil))))))))))))
    (dss_one (ds_ret de_bl)))) : DSs _ W0 (defBody s_law) g_law)
end Wktwigtable_k51_three_states

namespace My
open PySem PySem.Spec PyProof.Rows L2 Fx Wktwigtable_k51_three_states
local macro_rules | `(tactic| walk_at "fx") => `(tactic| simp (disch := first | rfl | decide | omega | assumption | (simp only [List.length_append, List.length_cons, List.length_nil, List.length_take, List.length_drop, List.length_map]; omega)) only [x_bnd, x_ok, x_ret, x_fail, x_ite, x_iteM, x_bad, x_get, x_look, x_set, x_seq, x_nx, x_rt, x_brk, x_cnt, x_bad2, x_ite2, x_asg, x_retM, x_drop, x_if, x_itM, x_asB, x_bin, x_tst, x_and, x_or, x_not, x_andT, x_orT, x_notT, x_cons, x_call, x_callR, x_isa, x_sub, x_add, x_mul, x_mod, x_div, x_pow, x_lt, x_le, x_gt, x_ge, x_eqI, x_neI, x_true, x_false, x_aug, x_augF, x_forM, x_frz, x_lst, x_tup, x_lenL, x_ixL, x_ixT, x_opt, x_slL, x_slM, x_slVL, x_slVTx, x_part, x_lenTx, x_addTx, cutS_take, cutS_drop, cutS_drop1, x_seqL, x_seqT,
  initS, List.map_cons, List.map_nil, List.length_cons, List.length_nil, List.cons_append, List.nil_append, List.append_nil, tyName, x_join, x_slS, x_eqS, x_neS, x_eqB, x_neB, tx_app, tx_len, x_is1, x_is2, x_is3, x_is4, x_is5, x_isn1, x_isn2, x_isn3, x_isn4, x_isn5, x_meth, isTy_last, x_own, lit, cd_nil, isa_int_NoneType, isa_int_bool, isa_int_int, isa_int_str, isa_int_tuple, isa_int_list, isa_int_dict, isa_bool_NoneType, isa_bool_bool, isa_bool_int, isa_bool_str, isa_bool_tuple, isa_bool_list, isa_bool_dict, isa_str_NoneType, isa_str_bool, isa_str_int, isa_str_str, isa_str_tuple, isa_str_list, isa_str_dict, isa_tuple_NoneType, isa_tuple_bool, isa_tuple_int, isa_tuple_str, isa_tuple_tuple, isa_tuple_list, isa_tuple_dict, isa_list_NoneType, isa_list_bool, isa_list_int, isa_list_str, isa_list_tuple, isa_list_list, isa_list_dict, isa_dict_NoneType, isa_dict_bool, isa_dict_int, isa_dict_str, isa_dict_tuple, isa_dict_list, isa_dict_dict, decide_eq_true_eq, decide_true, decide_false, Nat.reduceAdd, Nat.reduceSub, Nat.zero_add, List.replicate, List.replicate_succ, List.replicate_zero, List.getElem?_cons_zero, List.getElem?_cons_succ, List.set_cons_zero, List.set_cons_succ, Bool.not_true, Bool.not_false, if_true, if_false, Bool.false_eq_true, ite_true, ite_false, beq_self_eq_true, Bool.or_true, Bool.true_or, Bool.or_false, Bool.false_or, Bool.and_true, Bool.and_false, Bool.true_and, Bool.false_and, Int.reduceToNat])
local macro_rules | `(tactic| walk_at "fxh") => `(tactic| simp (disch := first | rfl | decide | omega | assumption | (simp only [List.length_append, List.length_cons, List.length_nil, List.length_take, List.length_drop, List.length_map]; omega)) only [*, x_bnd, x_ok, x_ret, x_fail, x_ite, x_iteM, x_bad, x_get, x_look, x_set, x_seq, x_nx, x_rt, x_brk, x_cnt, x_bad2, x_ite2, x_asg, x_retM, x_drop, x_if, x_itM, x_asB, x_bin, x_tst, x_and, x_or, x_not, x_andT, x_orT, x_notT, x_cons, x_call, x_callR, x_isa, x_sub, x_add, x_mul, x_mod, x_div, x_pow, x_lt, x_le, x_gt, x_ge, x_eqI, x_neI, x_true, x_false, x_aug, x_augF, x_forM, x_frz, x_lst, x_tup, x_lenL, x_ixL, x_ixT, x_opt, x_slL, x_slM, x_slVL, x_slVTx, x_part, x_lenTx, x_addTx, cutS_take, cutS_drop, cutS_drop1, x_seqL, x_seqT,
  initS, List.map_cons, List.map_nil, List.length_cons, List.length_nil, List.cons_append, List.nil_append, List.append_nil, tyName, x_join, x_slS, x_eqS, x_neS, x_eqB, x_neB, tx_app, tx_len, x_is1, x_is2, x_is3, x_is4, x_is5, x_isn1, x_isn2, x_isn3, x_isn4, x_isn5, x_meth, isTy_last, x_own, lit, cd_nil, isa_int_NoneType, isa_int_bool, isa_int_int, isa_int_str, isa_int_tuple, isa_int_list, isa_int_dict, isa_bool_NoneType, isa_bool_bool, isa_bool_int, isa_bool_str, isa_bool_tuple, isa_bool_list, isa_bool_dict, isa_str_NoneType, isa_str_bool, isa_str_int, isa_str_str, isa_str_tuple, isa_str_list, isa_str_dict, isa_tuple_NoneType, isa_tuple_bool, isa_tuple_int, isa_tuple_str, isa_tuple_tuple, isa_tuple_list, isa_tuple_dict, isa_list_NoneType, isa_list_bool, isa_list_int, isa_list_str, isa_list_tuple, isa_list_list, isa_list_dict, isa_dict_NoneType, isa_dict_bool, isa_dict_int, isa_dict_str, isa_dict_tuple, isa_dict_list, isa_dict_dict, decide_eq_true_eq, decide_true, decide_false, Nat.reduceAdd, Nat.reduceSub, Nat.zero_add, List.replicate, List.replicate_succ, List.replicate_zero, List.getElem?_cons_zero, List.getElem?_cons_succ, List.set_cons_zero, List.set_cons_succ, Bool.not_true, Bool.not_false, if_true, if_false, Bool.false_eq_true, ite_true, ite_false, beq_self_eq_true, Bool.or_true, Bool.true_or, Bool.or_false, Bool.false_or, Bool.and_true, Bool.and_false, Bool.true_and, Bool.false_and, Int.reduceToNat])

theorem t_before (a b : Pl) (vh : List Cell) : F_before [a.d, b.d] vh = some (.bl (a.lt b)) := by
  refine runP_of ?_ rfl
  unfold g_before
  cases a <;> cases b <;> simp only [Pl.d, Pl.lt] <;> walk_at "fx" <;> first | exact ⟨_, rfl⟩ | (simp only [x_ltS, tx_tl]; exact ⟨_, rfl⟩) | trace_state
theorem t_rank (a : Fx.Pl) (vh : List Cell) : F_l_rank [a.d] vh = some a.rank := by
  have k : lenOk 3 = true := lenOk_of (by decide)
  cases a <;> simp only [Pl.d, Pl.rank]
  all_goals
    refine runP_of ?_ rfl
    unfold g_l_rank
    walk_at "fxh"
    first | exact ⟨_, rfl⟩ | trace_state
structure Lk (A : D) (vh : List Cell) (ks : List Fx.Pl) : Prop where
  ix : ∀ l i, ixM A (.int i) ⟨l, vh⟩ = Res.opt (atI (ks.map Pl.d) i) ⟨l, vh⟩
  len : ∀ l, lenM [A] ⟨l, vh⟩ = .ok (.int ks.length) ⟨l, vh⟩
theorem lk_cell (vh : List Cell) (ks : List Pl) : Lk (.cell vh.length) (vh ++ [Cell.lst (ks.map Pl.d)]) ks where
  ix := fun l i => by
    have e : Fx.lstOf ⟨l, vh ++ [Cell.lst (ks.map Pl.d)]⟩ (.cell vh.length) = some (ks.map Pl.d) := by
      unfold Fx.lstOf
      dsimp only
      rw [last_cell]
    cases h : atI (ks.map Pl.d) i <;> simp [ixM, e, Res.opt, h]
  len := fun l => by
    have e : Fx.lstOf ⟨l, vh ++ [Cell.lst (ks.map Pl.d)]⟩ (.cell vh.length) = some (ks.map Pl.d) := by
      unfold Fx.lstOf
      dsimp only
      rw [last_cell]
    unfold lenM
    dsimp only
    rw [e]
    dsimp only
    rw [List.length_map]
/-! the search -/
abbrev cnd : M Bool := tst (bin ltAM (getL 2) (getL 3))
@[reducible] def stp (A : D) (p : Fx.Pl) (lo hi : Nat) (m : Option D) (vh : List Cell) : S := ⟨[some A, some p.d, some (.int lo), some (.int hi), m], vh⟩
theorem at_pls {ks : List Pl} {i : Nat} (h : i < ks.length) : atI (ks.map Pl.d) (i : Int) = some ks[i].d := by
  rw [atI_ofNat (by rw [List.length_map]; exact h), List.getElem?_map, List.getElem?_eq_getElem h]
  rfl
theorem stepP {A : D} (ks : List Pl) (p : Pl) (lo hi : Nat) (m : Option D) (vh : List Cell) (L : Lk A vh ks) (h : lo < hi) (h2 : hi ≤ ks.length) (h3 : (lo + hi) / 2 < ks.length) :
    b_place_of_1 (stp A p lo hi m vh) = .ok .nx (if (ks[(lo + hi) / 2]).lt p = true then stp A p ((lo + hi) / 2 + 1) hi (some (.int ((lo + hi) / 2 : Nat))) vh else stp A p lo ((lo + hi) / 2) (some (.int ((lo + hi) / 2 : Nat))) vh) := by
  have e : ((lo : Int) + (hi : Int)) / 2 = (((lo + hi) / 2 : Nat) : Int) := by omega
  unfold b_place_of_1 stp
  walk_at "fx"
  rw [e, L.ix, at_pls h3]
  walk_at "fx"
  rw [t_before]
  walk_at "fx"
  split <;> rfl
theorem loopP {A : D} (ks : List Pl) (p : Pl) (vh : List Cell) (L : Lk A vh ks) (hr : Rise ks) : ∀ (n lo hi f : Nat) (m : Option D), lo ≤ hi → hi ≤ ks.length → hi - lo ≤ n → n < f → (∀ i (h : i < ks.length), i < lo → ks[i].lt p = true) → (∀ i (h : i < ks.length), hi ≤ i → ks[i].lt p = false) →
    ∃ m', whileM cnd b_place_of_1 f (stp A p lo hi m vh) = .ok .nx (stp A p (cntLt ks p) (cntLt ks p) m' vh)
  | n, lo, hi, 0, m, _, _, _, h, _, _ => by omega
  | n, lo, hi, f + 1, m, h1, h2, h3, h4, h5, h6 => by
    by_cases c : lo < hi
    · have hm : (lo + hi) / 2 < ks.length := by omega
      have e : cnd (stp A p lo hi m vh) = .ok true (stp A p lo hi m vh) := by
        unfold cnd stp
        walk_at "fx"
        rw [decide_eq_true (show (lo : Int) < hi by omega)]
      unfold whileM
      rw [e]
      dsimp only
      rw [stepP ks p lo hi m vh L c h2 hm]
      cases q : (ks[(lo + hi) / 2]).lt p with
      | true =>
        rw [if_pos rfl]
        dsimp only
        exact loopP ks p vh L hr (n - 1) _ hi f _ (by omega) h2 (by omega) (by omega) (fun i h hi' => hr.down h hm (by omega) q) h6
      | false =>
        rw [if_neg (by decide)]
        dsimp only
        refine loopP ks p vh L hr (n - 1) lo _ f _ (by omega) (by omega) (by omega) (by omega) h5 fun i h hi' => ?_
        cases q2 : ks[i].lt p with
        | false => rfl
        | true => rw [hr.down hm h hi' q2] at q; cases q
    · have e0 : lo = hi := by omega
      subst e0
      have e : cnd (stp A p lo lo m vh) = .ok false (stp A p lo lo m vh) := by
        unfold cnd stp
        walk_at "fx"
        rw [decide_eq_false (by omega)]
      unfold whileM
      rw [e]
      dsimp only
      rw [cnt_of h2 h5 h6]
      exact ⟨m, rfl⟩
theorem t_place {A : D} (ks : List Pl) (p : Pl) (vh : List Cell) (L : Lk A vh ks) (hr : Rise ks) (hl : ks.length < 1000000) : F_place_of [A, p.d] vh = some (.int (cntLt ks p)) := by
  refine runP_of ?_ rfl
  unfold g_place_of
  walk_at "fx"
  rw [L.len]
  walk_at "fx"
  obtain ⟨m', h⟩ := loopP ks p vh L hr ks.length 0 ks.length 1000000 none (Nat.zero_le _) (Nat.le_refl _) (by omega) (by omega) (fun i _ h => by omega) (fun i h h' => by omega)
  have h' : whileM cnd b_place_of_1 1000000 ⟨[some A, some p.d, some (D.int 0), some (D.int ks.length), none], vh⟩ = .ok .nx (stp A p (cntLt ks p) (cntLt ks p) m' vh) := h
  unfold cnd at h'
  rw [h']
  walk_at "fx"
  exact ⟨_, rfl⟩
theorem x_insL {l : List (Option D)} {vh : List Cell} {ds : List D} {n : Nat} {e : D} (h : ds.length < 16777216) (hn : n < 2 ^ 40) : insM (.cell vh.length) [.int n, e] ⟨l, vh ++ [.lst ds]⟩ = .ok .non ⟨l, vh ++ [.lst (ds.take n ++ [e] ++ ds.drop n)]⟩ := by
  have hz : ds.length < sizeLine ∧ (0 : Int) ≤ n ∧ (n : Int) < 2 ^ 62 := ⟨by rw [sizeLine_eq]; omega, by omega, by omega⟩
  unfold insM wrM
  dsimp only
  rw [last_cell]
  dsimp only
  rw [if_pos hz]
  dsimp only
  rw [Int.toNat_natCast]
  simp
@[reducible] def ost (A : D) (acc : List Fx.Pl) (x a : Option D) (vh : List Cell) : S := ⟨[some A, some (.cell vh.length), x, a], vh ++ [Cell.lst (acc.map Pl.d)]⟩
theorem turnO (A : D) (acc : List Pl) (x : Pl) (a : Option D) (vh : List Cell) (hr : Rise acc) (hl : acc.length < 100000) : ∃ a', b_in_order_1 (ost A acc (some x.d) a vh) = .ok .nx (ost A (insPl x acc) (some x.d) a' vh) := by
  have L := lk_cell vh acc
  have e1 := t_place acc x (vh ++ [Cell.lst (acc.map Pl.d)]) L hr (by omega)
  have hc := cnt_le acc x
  have hq : (acc.map Pl.d).length < 16777216 := by rw [List.length_map]; omega
  have E := ins_eq (v := x) hr
  refine ⟨some (.int (cntLt acc x)), ?_⟩
  unfold b_in_order_1 ost
  walk_at "fx"
  rw [e1]
  walk_at "fx"
  rw [L.len]
  walk_at "fx"
  by_cases c : cntLt acc x = acc.length
  · rw [if_pos (by omega)]
    rw [x_insL hq (by omega)]
    walk_at "fx"
    rw [E.1 c, List.map_append, List.map_append, List.map_take, List.map_drop]
    rfl
  · have c2 : cntLt acc x < acc.length := by omega
    rw [if_neg (by omega), L.ix, at_pls c2]
    walk_at "fx"
    rw [t_before]
    walk_at "fx"
    cases q : x.lt acc[cntLt acc x] with
    | true =>
      walk_at "fx"
      rw [x_insL hq (by omega)]
      walk_at "fx"
      rw [(E.2 c2).1 rfl q, List.map_append, List.map_append, List.map_take, List.map_drop]
      rfl
    | false =>
      walk_at "fx"
      rw [(E.2 c2).2 q]
theorem ins_len (v : Pl) : ∀ ks : List Pl, (insPl v ks).length ≤ ks.length + 1
  | [] => by simp [insPl]
  | k :: ks => by
    unfold insPl
    have := ins_len v ks
    split
    · simp only [List.length_cons]; omega
    · split <;> simp only [List.length_cons] <;> omega
theorem ord_len (vs : List Pl) : (ordPl vs).length ≤ vs.length := by
  have : ∀ (vs acc : List Pl), (vs.foldl (fun acc v => insPl v acc) acc).length ≤ acc.length + vs.length := by
    intro vs
    induction vs with
    | nil => intro acc; simp
    | cons v vs ih =>
      intro acc
      have h1 := ih (insPl v acc)
      have h2 := ins_len v acc
      rw [List.foldl_cons, List.length_cons]
      omega
  have := this vs []
  unfold ordPl
  simpa using this
theorem t_in_order (vs : List Pl) (vh : List Cell) (hl : vs.length < 100000) : F_in_order [.lst (vs.map Pl.d)] vh = some (.lst ((ordPl vs).map Pl.d)) := by
  have key : ∃ l, g_in_order (initS 4 [.lst (vs.map Pl.d)] vh) = .ok (.rt (.cell vh.length)) ⟨l, vh ++ [Cell.lst ((ordPl vs).map Pl.d)]⟩ := by
    unfold g_in_order
    walk_at "fx"
    rw [x_lk0, x_true]
    try walk_at "fx"
    obtain ⟨s2, h, x, a, e⟩ := loopM_run (ok := fun s' => itemsOf s' (.lst (vs.map Pl.d)) = some (vs.map Pl.d)) (t := setL 2) (b := b_in_order_1) (fun i s => ∃ x a, s = ost (.lst (vs.map Pl.d)) (ordPl (vs.take i)) x a vh) (vs.map Pl.d) (ost (.lst (vs.map Pl.d)) [] none none vh) (fun _ _ _ => rfl)
      (fun i d s hi ⟨x, a, hs⟩ => by
        subst hs
        have hi2 := (List.getElem?_eq_some_iff.mp hi).1
        rw [List.length_map] at hi2
        rw [List.getElem?_map, List.getElem?_eq_getElem hi2] at hi
        have hi3 : some vs[i].d = some d := hi
        cases hi3
        have g := ord_len (vs.take i)
        rw [List.length_take] at g
        obtain ⟨a', e⟩ := turnO (.lst (vs.map Pl.d)) (ordPl (vs.take i)) vs[i] a vh (ord_rise _) (by omega)
        refine ⟨_, rfl, _, .inl e, some vs[i].d, a', ?_⟩
        rw [List.take_succ_eq_append_getElem hi2, ord_snoc]) ⟨none, none, rfl⟩
    subst e
    have h' : loopM (fun s' => itemsOf s' (.lst (vs.map Pl.d)) = some (vs.map Pl.d)) (setL 2) b_in_order_1 (vs.map Pl.d) ⟨[some (D.lst (vs.map Pl.d)), some (D.cell vh.length), none, none], vh ++ [Cell.lst []]⟩ = .ok .nx (ost (.lst (vs.map Pl.d)) (ordPl (vs.take (vs.map Pl.d).length)) x a vh) := h
    rw [h', List.length_map, List.take_length]
    walk_at "fx"
    exact ⟨_, rfl⟩
  obtain ⟨l, h⟩ := key
  exact runP_cell (k := 0) (more := [Cell.lst ((ordPl vs).map Pl.d)]) ⟨l, h⟩ rfl (Pl.ncL _ _)
/-! the law's own order -/
theorem x_ixLast {l : List (Option D)} {vh : List Cell} {acc : List Pl} {q : Pl} : ixM (.cell vh.length) (.int (-1)) ⟨l, vh ++ [Cell.lst ((acc ++ [q]).map Pl.d)]⟩ = .ok q.d ⟨l, vh ++ [Cell.lst ((acc ++ [q]).map Pl.d)]⟩ := by
  rw [(lk_cell vh (acc ++ [q])).ix]
  have e2 : atI ((acc ++ [q]).map Pl.d) (-1) = some q.d := by
    unfold atI
    rw [List.length_map, List.length_append, show ixN (acc.length + [q].length) (-1) = some acc.length by simp [ixN] <;> omega]
    simp
  rw [e2]
  rfl
theorem x_eqCell {l : List (Option D)} {vh : List Cell} {acc : List Pl} (h : ∀ p ∈ acc, p.ok) : eqM (.cell vh.length) (.lst []) ⟨l, vh ++ [Cell.lst (acc.map Pl.d)]⟩ = .ok (.bl (decide (acc = []))) ⟨l, vh ++ [Cell.lst (acc.map Pl.d)]⟩ := by
  show eqD _ _ _ = _
  unfold eqD
  have e1 : pyD ⟨l, vh ++ [Cell.lst (acc.map Pl.d)]⟩ (.cell vh.length) = some (.list (acc.map Pl.py)) := by
    unfold pyD
    dsimp only
    rw [last_cell]
    dsimp only
    rw [Pl.pyL]; rfl
  have e2 : pyD ⟨l, vh ++ [Cell.lst (acc.map Pl.d)]⟩ (.lst []) = some (.list (([] : List Pl).map Pl.py)) := rfl
  rw [e1, e2]
  dsimp only
  rw [Pl.shapedL h, Pl.shapedL (ps := []) (by intro p hp; cases hp), PyData.eqv, Pl.eqvL]
  rfl
theorem x_nePl {a b : Pl} {s : S} (ha : a.ok) (hb : b.ok) : neM a.d b.d s = .ok (.bl (!decide (a = b))) s := by
  have main : neD a.d b.d s = .ok (.bl (!decide (a = b))) s := by
    unfold neD
    have e : ∀ p : Pl, pyD s p.d = some p.py := fun p => by cases p <;> rfl
    rw [e, e]
    dsimp only
    rw [Pl.shaped ha, Pl.shaped hb, Pl.eqv]
    rfl
  cases a <;> cases b <;> first | exact main | (rename_i x y; exact (x_neS).trans (by simp))
@[reducible] def rst (A : D) (acc : List Fx.Pl) (x : Option D) (vh : List Cell) : S := ⟨[some A, some (.cell vh.length), x], vh ++ [Cell.lst (acc.map Pl.d)]⟩
theorem turnR (A : D) (acc : List Pl) (x : Pl) (vh : List Cell) (h : ∀ p ∈ acc, p.ok) (hx : x.ok) (hl : acc.length < 1000000) :
    b_l_order_1 (rst A acc (some x.d) vh) = .ok .nx (rst A (if acc.getLast? = some x then acc else acc ++ [x]) (some x.d) vh) := by
  have hq : (acc.map Pl.d).length < 16777216 := by rw [List.length_map]; omega
  rcases List.eq_nil_or_concat acc with h0 | ⟨r, q, h0⟩
  · subst h0
    unfold b_l_order_1 rst
    walk_at "fx"
    rw [x_lk0, x_true]
    rw [show (Cell.lst []) = Cell.lst (([] : List Pl).map Pl.d) from rfl, x_eqCell h]
    walk_at "fx"
    rw [x_appL (by decide)]
    rfl
  · rw [List.concat_eq_append] at h0
    subst h0
    have e0 : (r ++ [q]).getLast? = some q := by simp
    have hqo : q.ok := h q (by simp)
    rw [e0]
    unfold b_l_order_1 rst
    walk_at "fx"
    rw [x_lk0, x_true]
    rw [x_eqCell h]
    walk_at "fx"
    rw [if_neg (show ¬ r ++ [q] = [] by simp), x_neg]
    walk_at "fx"
    rw [x_ixLast]
    walk_at "fx"
    rw [x_nePl hqo hx]
    walk_at "fx"
    by_cases c : q = x
    · subst c
      rw [decide_eq_true rfl]
      try walk_at "fx"
    · rw [decide_eq_false c, if_neg (fun z => c (Option.some.inj z))]
      try walk_at "fx"
      rw [x_appL hq]
      try walk_at "fx"
      rw [List.map_append (l₁ := r ++ [q])]
      rfl
theorem t_orderA {A : D} (ps : List Pl) (vh : List Cell) (hA : ∀ l more, sortKN F_l_rank A ⟨l, vh ++ more⟩ = sortKM F_l_rank (ps.map Pl.d) ⟨l, vh ++ more⟩) (h : ∀ p ∈ ps, p.ok) (hl : ps.length < 1000000) : F_l_order [A] vh = some (.lst ((ordPl ps).map Pl.d)) := by
  have hp := sortPl_perm ps
  have hs := sortPl_sorted ps
  have hsl : (sortPl ps).length = ps.length := hp.length_eq
  have key : ∃ ks : List Pl, Rise ks ∧ (∀ x, x ∈ ks ↔ x ∈ ps) ∧ ∃ l, g_l_order (initS 3 [A] vh) = .ok (.rt (.cell vh.length)) ⟨l, vh ++ [Cell.lst (ks.map Pl.d)]⟩ := by
    unfold g_l_order
    walk_at "fx"
    rw [x_lk0, x_true]
    try walk_at "fx"
    rw [hA, sort_rank (fun p _ => t_rank p _) (by omega)]
    walk_at "fx"
    obtain ⟨s2, h1, acc, r, a1, a2, a3, a4, e⟩ := loopM_run (ok := fun s' => itemsOf s' (.lst ((sortPl ps).map Pl.d)) = some ((sortPl ps).map Pl.d)) (t := setL 2) (b := b_l_order_1)
      (fun i s => ∃ (acc : List Fx.Pl) (r : Option D), Rise acc ∧ (∀ x, x ∈ acc ↔ x ∈ (sortPl ps).take i) ∧ acc.length ≤ i ∧ (∀ q, acc.getLast? = some q → ∃ j, j < i ∧ (sortPl ps)[j]? = some q) ∧ s = rst A acc r vh) ((sortPl ps).map Pl.d) (rst A [] none vh) (fun _ _ _ => rfl)
      (fun i d s hi ⟨acc, r, a1, a2, a3, a4, hs2⟩ => by
        subst hs2
        have hi2 := (List.getElem?_eq_some_iff.mp hi).1
        rw [List.length_map] at hi2
        rw [List.getElem?_map, List.getElem?_eq_getElem hi2] at hi
        have hi3 : some (sortPl ps)[i].d = some d := hi
        cases hi3
        have hok : ∀ q ∈ sortPl ps, q.ok := fun q hq => h q (hp.mem_iff.mp hq)
        have hx : (sortPl ps)[i].ok := hok _ (List.getElem_mem hi2)
        refine ⟨_, rfl, _, .inl (turnR A acc _ vh (fun q hq => hok q (List.mem_of_mem_take ((a2 q).mp hq))) hx (by omega)), ?_⟩
        have et := List.take_succ_eq_append_getElem hi2
        by_cases c : acc.getLast? = some (sortPl ps)[i]
        · rw [if_pos c]
          refine ⟨acc, _, a1, fun x => ?_, by omega, fun y hy => ?_, rfl⟩
          · rw [et, List.mem_append, a2 x, List.mem_singleton]
            constructor
            · exact .inl
            · rintro (h | h)
              · exact h
              · rw [h]; exact (a2 _).mp (List.mem_of_getLast? c)
          · obtain ⟨j, h1, h2⟩ := a4 y hy
            exact ⟨j, by omega, h2⟩
        · rw [if_neg c]
          refine ⟨acc ++ [_], _, ?_, fun x => ?_, by rw [List.length_append, List.length_singleton]; omega, fun y hy => ⟨i, Nat.lt_succ_self i, by rw [List.getElem?_eq_getElem hi2]; simpa using hy⟩, rfl⟩
          · refine List.pairwise_append.mpr ⟨a1, List.pairwise_singleton _ _, fun a ha b hb => ?_⟩
            rw [List.mem_singleton.mp hb]
            obtain ⟨m, hm, e1⟩ := List.mem_iff_getElem.mp ((a2 a).mp ha)
            rw [List.length_take] at hm
            rw [List.getElem_take] at e1
            have hle : a.le (sortPl ps)[i] = true := by
              rw [← e1]
              exact List.pairwise_iff_getElem.mp hs m i _ hi2 (by omega)
            rcases Pl.le_iff.mp hle with e2 | e2
            · exfalso
              -- the last of acc is not below a, and not above (sortPl ps)[i]
              have hne : acc ≠ [] := fun z => by rw [z] at ha; cases ha
              obtain ⟨m2, hm2, e3⟩ := List.mem_iff_getElem.mp ha
              have hz : acc.getLast? = some acc[acc.length - 1] := by rw [List.getLast?_eq_getElem?, List.getElem?_eq_getElem]
              obtain ⟨j, hj, hz2⟩ := a4 _ hz
              have hj2 := (List.getElem?_eq_some_iff.mp hz2)
              obtain ⟨hj3, hj4⟩ := hj2
              have h5 : acc[acc.length - 1].le (sortPl ps)[i] = true := by
                rw [← hj4]
                exact List.pairwise_iff_getElem.mp hs j i hj3 hi2 hj
              rw [← e2, ← e3] at h5
              by_cases hmm : m2 = acc.length - 1
              · apply c
                rw [hz, ← e2, ← e3]
                congr 1
                exact getElem_congr_idx hmm.symm
              · have h6 := Rise.at a1 hm2 (show acc.length - 1 < acc.length by omega) (by omega)
                unfold Pl.le at h5
                rw [h6] at h5
                cases h5
            · exact e2
          · rw [et, List.mem_append, List.mem_append, a2 x]) ⟨[], none, List.Pairwise.nil, (by intro x; simp), Nat.le_refl _, (by intro q hq; cases hq), rfl⟩
    subst e
    have h1' : loopM (fun s' => itemsOf s' (.lst ((sortPl ps).map Pl.d)) = some ((sortPl ps).map Pl.d)) (setL 2) b_l_order_1 ((sortPl ps).map Pl.d) ⟨[some A, some (D.cell vh.length), none], vh ++ [Cell.lst []]⟩ = .ok .nx (rst A acc r vh) := h1
    rw [h1']
    walk_at "fx"
    refine ⟨acc, a1, fun x => ?_, _, rfl⟩
    rw [a2 x, List.length_map, List.take_length]
    exact hp.mem_iff
  obtain ⟨ks, h0, h2, l, h4⟩ := key
  rw [← Rise.ext h0 (ord_rise ps) (fun x => by rw [h2, ord_mem])]
  exact runP_cell (k := 0) (more := [Cell.lst (ks.map Pl.d)]) ⟨l, h4⟩ rfl (Pl.ncL _ _)
theorem t_order (ps : List Pl) (vh : List Cell) (h : ∀ p ∈ ps, p.ok) (hl : ps.length < 1000000) : F_l_order [.lst (ps.map Pl.d)] vh = some (.lst ((ordPl ps).map Pl.d)) := t_orderA ps vh (fun l more => x_srtL) h hl
theorem t_orderC (ps : List Pl) (vh : List Cell) (h : ∀ p ∈ ps, p.ok) (hl : ps.length < 1000000) : F_l_order [.cell vh.length] (vh ++ [Cell.lst (ps.map Pl.d)]) = some (.lst ((ordPl ps).map Pl.d)) := t_orderA ps _ (fun l more => by
  have e : Fx.lstOf ⟨l, vh ++ [Cell.lst (ps.map Pl.d)] ++ more⟩ (.cell vh.length) = some (ps.map Pl.d) := by
    unfold Fx.lstOf
    dsimp only
    rw [List.append_assoc, List.getElem?_append_right (Nat.le_refl _), Nat.sub_self]
    rfl
  unfold sortKN itemsOf
  dsimp only
  rw [e]) h hl
/-! states -/
inductive Vl where
  | pl (p : Fx.Pl)
  | cl (b : Fx.Pl) (ss : List Fx.Pl)
instance : DecidableEq Vl
  | .pl p, .pl q => if h : p = q then .isTrue (by rw [h]) else .isFalse fun z => h (by cases z; rfl)
  | .cl b s, .cl c t => if h : b = c ∧ s = t then .isTrue (by rw [h.1, h.2]) else .isFalse fun z => h (by cases z; exact ⟨rfl, rfl⟩)
  | .pl _, .cl _ _ | .cl _ _, .pl _ => .isFalse fun z => by cases z
abbrev cld (b : Fx.Pl) (ss : List Fx.Pl) : D := .tup [b.d, .tup (ss.map Pl.d)]
def Vl.d : Vl → D
  | .pl p => p.d
  | .cl b ss => cld b ss
def Vl.ok : Vl → Prop
  | .pl p => p.ok
  | .cl b ss => b.ok ∧ ∀ s ∈ ss, s.ok
def Vl.py : Vl → PyData
  | .pl p => p.py
  | .cl b ss => .tuple [b.py, .tuple (ss.map Pl.py)]
theorem Vl.pyT (v : Vl) : Fx.pyT v.d = some v.py := by
  cases v with
  | pl p => exact Pl.pyT p
  | cl b ss =>
    show Fx.pyT (.tup [b.d, .tup (ss.map Pl.d)]) = _
    have e : Fx.pyT (.tup (ss.map Pl.d)) = some (.tuple (ss.map Pl.py)) := by
      unfold Fx.pyT
      rw [Pl.pyL]; rfl
    unfold Fx.pyT
    rw [Fx.pyL, Pl.pyT, Fx.pyL, e, Fx.pyL]
    rfl
theorem Vl.shaped {v : Vl} (h : v.ok) : SeqAt.shaped v.py = true := by
  cases v with
  | pl p => exact Pl.shaped h
  | cl b ss =>
    have h1 := Pl.can h.1
    have h2 := Pl.canL h.2
    unfold Vl.py SeqAt.shaped
    simp only [PyData.canLay0, PyData.canLayAll0, PyData.depth, PyData.depthAll, h1, h2, Pl.dep, Pl.depL]
    rfl
theorem Vl.eqv (a b : Vl) : PyData.eqv a.py b.py = decide (a = b) := by
  cases a with
  | pl p =>
    cases b with
    | pl q =>
      show PyData.eqv p.py q.py = _
      rw [Pl.eqv]
      by_cases h : p = q
      · rw [h]; simp
      · rw [decide_eq_false h, decide_eq_false fun z => h (by cases z; rfl)]
    | cl c t => cases p <;> rfl
  | cl c s =>
    cases b with
    | pl q => cases q <;> rfl
    | cl d t =>
      show PyData.eqv (.tuple [c.py, .tuple (s.map Pl.py)]) (.tuple [d.py, .tuple (t.map Pl.py)]) = _
      simp only [PyData.eqv, PyData.eqvAll, Pl.eqv, Pl.eqvL, Bool.and_true]
      by_cases h : c = d
      · by_cases h2 : s = t
        · rw [h, h2]; simp
        · rw [decide_eq_true h, decide_eq_false h2, decide_eq_false (show ¬ Vl.cl c s = Vl.cl d t from fun z => h2 (by cases z; rfl))]; rfl
      · rw [decide_eq_false h, decide_eq_false (show ¬ Vl.cl c s = Vl.cl d t from fun z => h (by cases z; rfl))]; rfl
theorem Vl.pyD {v : Vl} {s : S} : Fx.pyD s v.d = some v.py := by
  have : Fx.pyD s v.d = Fx.pyT v.d := by
    cases v with
    | pl p => cases p <;> rfl
    | cl b ss => rfl
  rw [this, Vl.pyT]
theorem x_eqVl {a b : Vl} {s : S} (ha : a.ok) (hb : b.ok) : eqM a.d b.d s = .ok (.bl (decide (a = b))) s := by
  have main : eqD a.d b.d s = .ok (.bl (decide (a = b))) s := by
    unfold eqD
    rw [Vl.pyD, Vl.pyD]
    dsimp only
    rw [Vl.shaped ha, Vl.shaped hb, Vl.eqv]
    rfl
  cases a with
  | cl b ss => exact main
  | pl p =>
    cases b with
    | cl c t => cases p <;> exact main
    | pl q =>
      show eqM p.d q.d s = _
      rw [x_eqPl ha hb]
      by_cases h : p = q
      · rw [h]; simp
      · rw [decide_eq_false h, decide_eq_false fun z => h (by cases z; rfl)]
theorem t_alikeP (p : Pl) (h : p.ok) (r : Nat) (vh : List Cell) : F_l_alike_at (r + 1) [p.d, p.d] vh = some (D.bl true) := by
  show runP 4 (g_l_alike (F_l_alike_at r)) [p.d, p.d] vh = _
  refine runP_of ?_ rfl
  unfold g_l_alike
  have e : ∀ s : S, eqM p.d p.d s = .ok (.bl true) s := fun s => by rw [x_eqPl h h, decide_eq_true rfl]
  have e1 : ∀ s : S, isa2M "tuple" "list" p.d s = .ok (.bl false) s := fun s => by cases p <;> rfl
  have e2 : ∀ s : S, isaM "bool" p.d s = .ok (.bl false) s := fun s => by cases p <;> rfl
  simp only [initS, x_seq, x_if, x_tst, x_bnd, x_get, x_look, List.map_cons, List.map_nil, List.length_cons, List.length_nil, List.cons_append, List.nil_append, List.getElem?_cons_zero, List.getElem?_cons_succ, e1, x_ok, x_asB, x_false, x_ret, x_nx, x_retM, x_and, x_not, e2, Bool.not_false, x_true, if_true, ite_true, x_bin, e]
  exact ⟨_, rfl⟩
def zp (ds : List D) : List D := List.zipWith (fun x y => D.tup [x, y]) ds ds
theorem zp_at : ∀ {ds : List D} {i : Nat} {d : D}, (zp ds)[i]? = some d → ∃ x, x ∈ ds ∧ d = .tup [x, x]
  | [], i, d, h => by cases h
  | x :: ds, 0, d, h => by cases h; exact ⟨x, List.mem_cons_self, rfl⟩
  | x :: ds, i + 1, d, h => by
    obtain ⟨y, h1, h2⟩ := zp_at (ds := ds) (i := i) (d := d) h
    exact ⟨y, List.mem_cons_of_mem _ h1, h2⟩
@[reducible] def ast (A : D) (x y : Option D) (vh : List Cell) : S := ⟨[some A, some A, x, y], vh⟩
theorem t_alikeT (ds : List D) (r : Nat) (vh : List Cell) (h : ∀ d ∈ ds, F_l_alike_at r [d, d] vh = some (D.bl true)) : F_l_alike_at (r + 1) [.tup ds, .tup ds] vh = some (D.bl true) := by
  show runP 4 (g_l_alike (F_l_alike_at r)) [.tup ds, .tup ds] vh = _
  refine runP_of ?_ rfl
  unfold g_l_alike
  have e1 : ∀ s : S, isa2M "tuple" "list" (.tup ds) s = .ok (.bl true) s := fun s => rfl
  have e2 : ∀ s : S, lenM [D.tup ds] s = .ok (.int ds.length) s := fun s => rfl
  have e3 : ∀ s : S, zipA [.tup ds, .tup ds] s = .ok ⟨zp ds, fun _ => True⟩ s := fun s => rfl
  walk_at "fx"
  rw [e1]
  walk_at "fx"
  try rw [e2]
  try walk_at "fx"
  try rw [e2]
  try walk_at "fx"
  try rw [e3]
  try walk_at "fx"
  obtain ⟨s2, hh, x, y, e⟩ := loopM_run (ok := fun _ => True) (t := unp2 2 3) (b := b_l_alike_1 (F_l_alike_at r)) (fun _ s => ∃ x y, s = ast (.tup ds) x y vh) (zp ds) (ast (.tup ds) none none vh) (fun _ _ _ => trivial)
    (fun i d s hi ⟨x, y, hs⟩ => by
      subst hs
      obtain ⟨z, hz, rfl⟩ := zp_at hi
      refine ⟨ast (.tup ds) (some z) (some z) vh, rfl, ast (.tup ds) (some z) (some z) vh, .inl ?_, _, _, rfl⟩
      unfold b_l_alike_1 ast
      walk_at "fx"
      rw [h z hz]
      walk_at "fx") ⟨none, none, rfl⟩
  subst e
  rw [hh]
  walk_at "fx"
  exact ⟨_, rfl⟩
theorem t_alike (v : Vl) (h : v.ok) (vh : List Cell) : F_l_alike [v.d, v.d] vh = some (D.bl true) := by
  cases v with
  | pl p => exact t_alikeP p h 3 vh
  | cl b ss =>
    refine t_alikeT [b.d, .tup (ss.map Pl.d)] 3 vh fun d hd => ?_
    rcases List.mem_cons.mp hd with rfl | hd
    · exact t_alikeP b h.1 2 vh
    · rw [List.mem_singleton.mp hd]
      refine t_alikeT (ss.map Pl.d) 2 vh fun d hd => ?_
      obtain ⟨p, hp, rfl⟩ := mem_pls hd
      exact t_alikeP p (h.2 p hp) 1 vh
def base : Vl → Fx.Pl
  | .pl p => p
  | .cl b _ => b
def sides : Vl → List Fx.Pl
  | .pl p => [p]
  | .cl _ ss => ss
def jn (b o t : Vl) : Vl := if o = t then o else if t = b then o else if o = b then t else .cl (base b) (ordPl (sides o ++ sides t))
theorem isaPl {p : Pl} {s : S} : isaM "tuple" p.d s = .ok (.bl false) s := by cases p <;> rfl
theorem at0 {a b : D} : atI [a, b] 0 = some a := nr rfl
theorem at1 {a b : D} : atI [a, b] 1 = some b := nr rfl
theorem cld_nc (b : Fx.Pl) (ss : List Fx.Pl) (n : Nat) : Fx.nc n (cld b ss) = true := by
  show (Fx.nc n b.d && (Fx.ncL n (ss.map Pl.d) && true)) = true
  rw [Pl.nc, Pl.ncL]; rfl
theorem Vl.nc (n : Nat) (v : Vl) : Fx.nc n v.d = true := by
  cases v with
  | pl p => exact Pl.nc n p
  | cl b ss => exact cld_nc b ss n
theorem t_base (v : Vl) (vh : List Cell) : F_base_of [v.d] vh = some (base v).d := by
  refine runP_of ?_ (Pl.nc _ _)
  unfold g_base_of
  cases v with
  | pl p =>
    show ∃ l, _ = Res.ok (Out.rt p.d) _
    rw [show (Vl.pl p).d = p.d from rfl]
    cases p <;> simp only [Pl.d] <;> walk_at "fx" <;> exact ⟨_, rfl⟩
  | cl b ss =>
    show ∃ l, _ = Res.ok (Out.rt b.d) _
    rw [show (Vl.cl b ss).d = cld b ss from rfl]
    walk_at "fx"
    rw [at0]
    exact ⟨_, rfl⟩
theorem t_sides (v : Vl) (vh : List Cell) : F_sides_of [v.d] vh = some (.lst ((sides v).map Pl.d)) := by
  refine runP_of ?_ (Pl.ncL _ _)
  unfold g_sides_of
  cases v with
  | pl p =>
    show ∃ l, _ = Res.ok (Out.rt (.lst [p.d])) _
    rw [show (Vl.pl p).d = p.d from rfl]
    cases p <;> simp only [Pl.d] <;> walk_at "fx" <;> (rw [x_lk1, x_true]; exact ⟨_, rfl⟩)
  | cl b ss =>
    show ∃ l, _ = Res.ok (Out.rt (.lst (ss.map Pl.d))) _
    rw [show (Vl.cl b ss).d = cld b ss from rfl]
    walk_at "fx"
    rw [at1]
    walk_at "fx"
    rw [x_lisT]
    exact ⟨_, rfl⟩
theorem t_lsides (v : Vl) (vh : List Cell) : F_l_sides [v.d] vh = some (.lst ((sides v).map Pl.d)) := by
  refine runP_of ?_ (Pl.ncL _ _)
  unfold g_l_sides
  cases v with
  | pl p =>
    show ∃ l, _ = Res.ok (Out.rt (.lst [p.d])) _
    rw [show (Vl.pl p).d = p.d from rfl]
    cases p <;> simp only [Pl.d] <;> walk_at "fx" <;> (rw [x_lk1, x_true]; exact ⟨_, rfl⟩)
  | cl b ss =>
    show ∃ l, _ = Res.ok (Out.rt (.lst (ss.map Pl.d))) _
    rw [show (Vl.cl b ss).d = cld b ss from rfl]
    walk_at "fx"
    rw [at1]
    walk_at "fx"
    rw [x_lisT]
    exact ⟨_, rfl⟩
theorem t_clash (b : Pl) (vs : List Pl) (vh : List Cell) (hl : vs.length < 100000) : F_clash_of [b.d, .lst (vs.map Pl.d)] vh = some (cld b (ordPl vs)) := by
  refine runP_of ?_ (cld_nc _ _ _)
  unfold g_clash_of
  walk_at "fx"
  rw [t_in_order vs vh hl]
  walk_at "fx"
  rw [show tupleM [D.lst ((ordPl vs).map Pl.d)] = fun s => .ok (.tup ((ordPl vs).map Pl.d)) s from rfl]
  walk_at "fx"
  rw [x_lk2, x_true]
  exact ⟨_, rfl⟩
theorem t_join (b o t : Vl) (hb : b.ok) (ho : o.ok) (ht : t.ok) (l1 : (sides o).length ≤ 1000) (l2 : (sides t).length ≤ 1000) (vh : List Cell) : F_join_cell [b.d, o.d, t.d] vh = some (jn b o t).d := by
  refine runP_of ?_ (Vl.nc _ _)
  unfold g_join_cell jn
  walk_at "fx"
  rw [x_eqVl ho ht]
  walk_at "fx"
  by_cases c1 : o = t
  · rw [if_pos c1]
    try rw [if_pos c1]
    exact ⟨_, rfl⟩
  · rw [if_neg c1]
    try rw [if_neg c1]
    rw [x_eqVl ht hb]
    walk_at "fx"
    by_cases c2 : t = b
    · rw [if_pos c2]
      try rw [if_pos c2]
      exact ⟨_, rfl⟩
    · rw [if_neg c2]
      try rw [if_neg c2]
      rw [x_eqVl ho hb]
      walk_at "fx"
      by_cases c3 : o = b
      · rw [if_pos c3]
        try rw [if_pos c3]
        exact ⟨_, rfl⟩
      · rw [if_neg c3]
        try rw [if_neg c3]
        rw [t_base]
        walk_at "fx"
        rw [t_sides]
        walk_at "fx"
        rw [t_sides]
        walk_at "fx"
        rw [x_catL (lenOk_of (by rw [List.length_map, List.length_map]; omega)), ← List.map_append]
        walk_at "fx"
        rw [t_clash _ _ _ (by rw [List.length_append]; omega)]
        exact ⟨_, rfl⟩
theorem t_joined (b o t : Vl) (hb : b.ok) (ho : o.ok) (ht : t.ok) (so : ∀ s ∈ sides o, s.ok) (st : ∀ s ∈ sides t, s.ok) (l1 : (sides o).length ≤ 1000) (l2 : (sides t).length ≤ 1000) (vh : List Cell) : F_l_joined [b.d, o.d, t.d] vh = some (jn b o t).d := by
  refine runP_of ?_ (Vl.nc _ _)
  unfold g_l_joined jn
  walk_at "fx"
  rw [x_eqVl ho ht]
  walk_at "fx"
  by_cases c1 : o = t
  · rw [if_pos c1]
    try rw [if_pos c1]
    exact ⟨_, rfl⟩
  · rw [if_neg c1]
    try rw [if_neg c1]
    rw [x_eqVl ht hb]
    walk_at "fx"
    by_cases c2 : t = b
    · rw [if_pos c2]
      try rw [if_pos c2]
      exact ⟨_, rfl⟩
    · rw [if_neg c2]
      try rw [if_neg c2]
      rw [x_eqVl ho hb]
      walk_at "fx"
      by_cases c3 : o = b
      · rw [if_pos c3]
        try rw [if_pos c3]
        exact ⟨_, rfl⟩
      · rw [if_neg c3]
        try rw [if_neg c3]
        have ht2 : tupleM [D.lst ((ordPl (sides o ++ sides t)).map Pl.d)] = fun s => .ok (.tup ((ordPl (sides o ++ sides t)).map Pl.d)) s := rfl
        have hor := fun vh => t_order (sides o ++ sides t) vh (fun p hp => (List.mem_append.mp hp).elim (so p) (st p)) (by rw [List.length_append]; omega)
        cases b with
        | pl p =>
          rw [show (Vl.pl p).d = p.d from rfl]
          cases p <;> simp only [Pl.d] <;> walk_at "fx" <;> (
            rw [t_lsides]
            walk_at "fx"
            rw [t_lsides]
            walk_at "fx"
            rw [x_catL (lenOk_of (by rw [List.length_map, List.length_map]; omega)), ← List.map_append]
            walk_at "fx"
            rw [hor]
            walk_at "fx"
            rw [ht2]
            walk_at "fx"
            rw [x_lk2, x_true]
            exact ⟨_, rfl⟩)
        | cl b' ss =>
          rw [show (Vl.cl b' ss).d = cld b' ss from rfl]
          walk_at "fx"
          rw [at0]
          walk_at "fx"
          rw [t_lsides]
          walk_at "fx"
          rw [t_lsides]
          walk_at "fx"
          rw [x_catL (lenOk_of (by rw [List.length_map, List.length_map]; omega)), ← List.map_append]
          walk_at "fx"
          rw [hor]
          walk_at "fx"
          rw [ht2]
          walk_at "fx"
          rw [x_lk2, x_true]
          exact ⟨_, rfl⟩
/-! drawn numbers, texts, plain values -/
theorem lgI (x : Int) (h : -(2 ^ 200) < x) (h2 : x < 2 ^ 200) : x.natAbs.log2 < 200 := log2_of (by decide) (by omega)
theorem t_number (ns : List Int) (k : Nat) (hk : k < 1000) (hs : ∀ c ∈ ns, Sm c) (vh : List Cell) : ∃ n : Int, 0 ≤ n ∧ n < 2147483648 ∧ F_l_number [.lst (ns.map D.int), .int k] vh = some (.int n) := by
  have key : ∃ n : Int, 0 ≤ n ∧ n < 2147483648 ∧ ∃ l, g_l_number (initS 3 [.lst (ns.map D.int), .int k] vh) = .ok (.rt (.int n)) ⟨l, vh⟩ := by
    unfold g_l_number
    have a1 : (k : Int).natAbs.log2 + (7919 : Int).natAbs.log2 < 100000000 := by have := lgI k (by omega) (by omega); have := lgI 7919 (by decide) (by decide); omega
    have a2 : (k : Int).natAbs.log2 + (7 : Int).natAbs.log2 < 100000000 := by have := lgI k (by omega) (by omega); have := lgI 7 (by decide) (by decide); omega
    have a3 : ((k : Int) * 7919 + 5).natAbs.log2 + ((k : Int) * 7919 + 5).natAbs.log2 < 100000000 := by have := lgI ((k : Int) * 7919 + 5) (by omega) (by omega); omega
    by_cases c : k < ns.length
    · walk_at "fx"
      rw [List.length_map, if_pos (by omega), at_ints c]
      walk_at "fx"
      exact ⟨_, by omega, by omega, _, rfl⟩
    · walk_at "fx"
      rw [List.length_map, if_neg (by omega)]
      by_cases c2 : 0 < ns.length
      · have hz : (0 : Int) < ns.length := by omega
        have hm0 := Int.emod_nonneg ((k : Int) * 7) (show (ns.length : Int) ≠ 0 by omega)
        have hm1 := Int.emod_lt_of_pos ((k : Int) * 7) hz
        obtain ⟨m, hm⟩ := Int.eq_ofNat_of_zero_le hm0
        have hmn : m < ns.length := by omega
        have a4 := (hs ns[m] (List.getElem_mem hmn)).mul 48271 (by decide)
        rw [if_pos hz, hm, at_ints hmn]
        walk_at "fx"
        generalize hg : (ns[m] * 48271 + (k : Int) * 7919) % 2147483647 = g
        have hg1 : 0 ≤ g ∧ g < 2147483647 := by omega
        have a5 : g.natAbs.log2 + g.natAbs.log2 < 100000000 := by have := lgI g (by omega) (by omega); omega
        walk_at "fx"
        exact ⟨_, by omega, by omega, _, rfl⟩
      · rw [if_neg (by omega)]
        exact ⟨_, by omega, by omega, _, rfl⟩
  obtain ⟨n, h0, h1, h2⟩ := key
  exact ⟨n, h0, h1, runP_of h2 rfl⟩
def SG : List Nat := cd " !\"#$&'()*+,-./0123456789:;<=>?@ABCDEFGHIJKLMNOPQRSTUVWXYZ[\\]^_`" ++ cd "abcdefghijklmnopqrstuvwxyz{|}~"
theorem SG_len : SG.length = 94 := by decide +kernel
theorem SG_in : ∀ c ∈ SG, c < 128 := by decide +kernel
def sg (n : Int) : Nat := SG.getD (n % 94).toNat 0
theorem sg_in (n : Int) : sg n < 128 := by
  unfold sg
  rw [List.getD_eq_getElem?_getD, List.getElem?_eq_getElem (by rw [SG_len]; omega), Option.getD_some]
  exact SG_in _ (List.getElem_mem _)
theorem x_sign {n : Int} {s : S} : ixM (.str (tx SG)) (.int (n % 94)) s = .ok (.str (tx [sg n])) s := by
  rw [x_ixS (by rw [SG_len]; omega), atI_mod 0 (by decide) (by rw [SG_len]; rfl)]
  rfl
@[reducible] def ts6 (n m : Int) (cs : List Nat) (k p : Option D) (vh : List Cell) : S := ⟨[some (.int n), some (.int m), some (.str (tx SG)), some (.str (tx cs)), k, p], vh⟩
theorem t_turn (n m : Int) (cs : List Nat) (k : Nat) (p : Option D) (vh : List Cell) (hk : k < 1000) (h0 : 0 ≤ n) (h1 : n < 2 ^ 40) (hl : cs.length ≤ 1000) :
    ∃ (c : Nat) (p' : Option D), c < 128 ∧ b_l_text_1 (ts6 n m cs (some (.int k)) p vh) = .ok .nx (ts6 n m (cs ++ [c]) (some (.int k)) p' vh) := by
  have a1 : (k : Int).natAbs.log2 + (n % 89).natAbs.log2 < 100000000 := by have := lgI k (by omega) (by omega); have := lgI (n % 89) (by omega) (by omega); omega
  have a2 : (0 : Int) < (k : Int) + 1 := by omega
  have a3 : ((k : Int) + 1).natAbs.log2 < 9000 := by have := lgI ((k : Int) + 1) (by omega) (by omega); omega
  unfold b_l_text_1 ts6
  walk_at "fx"
  rw [x_sign]
  walk_at "fx"
  exact ⟨_, _, sg_in _, rfl⟩
theorem t_text (n m : Int) (vh : List Cell) (h0 : 0 ≤ n) (h1 : n < 2 ^ 40) (h2 : 0 ≤ m) (h3 : m ≤ 50) : ∃ cs : List Nat, (∀ c ∈ cs, c < 128) ∧ F_l_text [.int n, .int m] vh = some (.str (tx cs)) := by
  have l1 := SG_len
  unfold SG at l1
  rw [List.length_append] at l1
  have key : ∃ cs : List Nat, (∀ c ∈ cs, c < 128) ∧ ∃ l, g_l_text (initS 6 [.int n, .int m] vh) = .ok (.rt (.str (tx cs))) ⟨l, vh⟩ := by
    unfold g_l_text
    walk_at "fx"
    rw [x_ran1 (okB_of (by omega) (by omega))]
    walk_at "fx"
    obtain ⟨s2, h, cs, k, p, a1, a2, e⟩ := loopM_run (ok := fun _ => True) (t := setL 4) (b := b_l_text_1)
      (fun i s => ∃ cs k p, cs.length = i ∧ (∀ c ∈ cs, c < 128) ∧ s = ts6 n m cs k p vh) (ranD 0 m.toNat) (ts6 n m [] none none vh) (fun _ _ _ => trivial)
      (fun i d s hi ⟨cs, k, p, a1, a2, hs⟩ => by
        subst hs
        obtain ⟨hi1, rfl⟩ := ranD_at hi
        rw [Int.zero_add]
        obtain ⟨c, p', b1, b2⟩ := t_turn n m cs i p vh (by omega) h0 h1 (by omega)
        refine ⟨_, rfl, _, .inl b2, cs ++ [c], _, p', by rw [List.length_append, a1]; rfl, fun x hx => ?_, rfl⟩
        rcases List.mem_append.mp hx with hx | hx
        · exact a2 x hx
        · rw [List.mem_singleton.mp hx]; exact b1) ⟨[], none, none, rfl, (by intro c h; cases h), rfl⟩
    subst e
    unfold ts6 SG at h
    rw [h]
    walk_at "fx"
    exact ⟨cs, a2, _, rfl⟩
  obtain ⟨cs, h, h2⟩ := key
  exact ⟨cs, h, runP_of h2 rfl⟩
theorem t_plain (n : Int) (vh : List Cell) (h0 : 0 ≤ n) (h1 : n < 2147483648) : ∃ p : Pl, p.ok ∧ F_l_plain [.int n] vh = some p.d := by
  have a1 : n.natAbs.log2 + (48271 : Int).natAbs.log2 < 100000000 := by have := lgI n (by omega) (by omega); have := lgI 48271 (by decide) (by decide); omega
  have a2 : (2 : Int).natAbs.log2 + ((10 : Int) ^ 30).natAbs.log2 < 100000000 := by decide
  have a3 : (0 : Int) < 2 * 10 ^ 30 - 1 := by decide
  have a4 : (n * 48271 + 7).natAbs < 2 ^ 64 := by omega
  obtain ⟨cs, t1, t2⟩ := t_text (n / 6) (n / 24 % 41) vh (by omega) (by omega) (by omega) (by omega)
  have key : ∃ p : Pl, p.ok ∧ ∃ l, g_l_plain (initS 1 [.int n] vh) = .ok (.rt p.d) ⟨l, vh⟩ := by
    unfold g_l_plain
    walk_at "fx"
    by_cases c0 : n % 6 = 0
    · rw [if_pos c0]
      exact ⟨.non, trivial, _, rfl⟩
    · rw [if_neg c0]
      by_cases c1 : n % 6 < 3
      · rw [if_pos c1]
        exact ⟨.int _, trivial, _, rfl⟩
      · rw [if_neg c1]
        by_cases c2 : n % 6 = 3
        · rw [if_pos c2]
          exact ⟨.int _, trivial, _, rfl⟩
        · rw [if_neg c2, t2]
          exact ⟨.str cs, fun c hc => by have := t1 c hc; omega, _, rfl⟩
  obtain ⟨p, h1, h2⟩ := key
  exact ⟨p, h1, runP_of h2 (Pl.nc _ p)⟩
theorem map_pls {items : List D} {v : D → D} (h : ∀ d ∈ items, ∃ p : Pl, p.ok ∧ v d = p.d) : ∃ ps : List Pl, (∀ p ∈ ps, p.ok) ∧ ps.length = items.length ∧ items.map v = ps.map Pl.d := by
  induction items with
  | nil => exact ⟨[], (by intro p h; cases h), rfl, rfl⟩
  | cons d ds ih =>
    obtain ⟨ps, h1, h2, h3⟩ := ih fun d hd => h d (List.mem_cons_of_mem _ hd)
    obtain ⟨p, h4, h5⟩ := h d List.mem_cons_self
    refine ⟨p :: ps, fun q hq => ?_, by rw [List.length_cons, List.length_cons, h2], by rw [List.map_cons, List.map_cons, h3, h5]⟩
    rcases List.mem_cons.mp hq with rfl | hq
    · exact h4
    · exact h1 q hq
noncomputable def plv (ns : List Int) (vh : List Cell) (d : D) : D := match d with
  | .int k => match F_l_number [.lst (ns.map D.int), .int (0 + k)] vh with
    | some n => (match F_l_plain [n] vh with | some v => v | none => .non)
    | none => .non
  | d => d
theorem t_pool (ns : List Int) (vh : List Cell) (hs : ∀ c ∈ ns, Sm c) : ∃ ps : List Pl, (∀ p ∈ ps, p.ok) ∧ ps.length = 7 ∧ F_l_pool [.lst (ns.map D.int), .int 0] vh = some (.lst (ps.map Pl.d)) := by
  have hv : ∀ d ∈ ranD 0 6, ∃ p : Pl, p.ok ∧ plv ns vh d = p.d := fun d hd => by
    obtain ⟨i, hi⟩ := List.mem_iff_getElem?.mp hd
    obtain ⟨h1, rfl⟩ := ranD_at hi
    obtain ⟨n, n0, n1, n2⟩ := t_number ns i (by omega) hs vh
    obtain ⟨p, p1, p2⟩ := t_plain n vh n0 n1
    refine ⟨p, p1, ?_⟩
    unfold plv
    dsimp only
    rw [Int.zero_add, Int.zero_add, n2]
    dsimp only
    rw [p2]
  obtain ⟨ps, p1, p2, p3⟩ := map_pls hv
  rw [ranD_len] at p2
  refine ⟨ps ++ [.non], fun p hp => ?_, by rw [List.length_append, p2]; rfl, runP_of ?_ (Pl.ncL _ _)⟩
  · rcases List.mem_append.mp hp with hp | hp
    · exact p1 p hp
    · rw [List.mem_singleton.mp hp]; trivial
  unfold g_l_pool
  rw [x_seq, x_asg, x_frz, show initS 4 [D.lst (ns.map D.int), D.int 0] vh = ⟨[some (.lst (ns.map D.int)), some (.int 0), none, none], vh⟩ from rfl]
  rw [lcM_all (items := ranD 0 6) (ok := fun _ => True) (v := plv ns vh)
    (by
      walk_at "fx"
      rw [x_ran1 (okB_of (by decide) (by decide))]
      rfl) (fun _ => trivial) (by rw [ranD_len]; omega) (fun d hd => by
      obtain ⟨i, hi⟩ := List.mem_iff_getElem?.mp hd
      obtain ⟨h1, rfl⟩ := ranD_at hi
      obtain ⟨n, n0, n1, n2⟩ := t_number ns i (by omega) hs vh
      obtain ⟨p, q1, q2⟩ := t_plain n vh n0 n1
      rw [Int.zero_add]
      walk_at "fx"
      rw [Int.zero_add, n2]
      walk_at "fx"
      rw [q2]
      have hpl : plv ns vh (.int i) = p.d := by
        unfold plv
        dsimp only
        rw [Int.zero_add, n2]
        dsimp only
        rw [q2]
      rw [hpl]
      exact ⟨_, x_callR⟩), p3]
  walk_at "fx"
  rw [x_lk1, x_true]
  try walk_at "fx"
  rw [x_catL (lenOk_of (by rw [List.length_map, p2]; decide)), List.map_append]
  exact ⟨_, rfl⟩
/-! states drawn -/
def Good (v : Vl) : Prop := v.ok ∧ (∀ s ∈ sides v, s.ok) ∧ (sides v).length ≤ 1000
theorem pick (ps : List Pl) (hl : ps.length = 7) (x : Int) : ∃ p, p ∈ ps ∧ atI (ps.map Pl.d) (x % 7) = some p.d := by
  have h0 := Int.emod_nonneg x (show (7 : Int) ≠ 0 by decide)
  have h1 := Int.emod_lt_of_pos x (show (0 : Int) < 7 by decide)
  obtain ⟨m, hm⟩ := Int.eq_ofNat_of_zero_le h0
  have hmn : m < ps.length := by omega
  exact ⟨ps[m], List.getElem_mem hmn, by rw [hm]; exact at_pls hmn⟩
@[reducible] def sst (n : Int) (ps : List Fx.Pl) (m st : Int) (acc : List Fx.Pl) (k : Option D) (vh : List Cell) : S := ⟨[some (.int n), some (.lst (ps.map Pl.d)), some (.int m), some (.int st), some (.cell vh.length), k], vh ++ [Cell.lst (acc.map Pl.d)]⟩
theorem turnS (n : Int) (ps : List Pl) (m st : Int) (acc : List Pl) (k : Nat) (vh : List Cell) (hl : ps.length = 7) (hk : k < 10) (hst : 0 ≤ st) (hst2 : st < 10) (ha : acc.length < 1000) :
    ∃ p, p ∈ ps ∧ b_l_state_1 (sst n ps m st acc (some (.int k)) vh) = .ok .nx (sst n ps m st (acc ++ [p]) (some (.int k)) vh) := by
  obtain ⟨p, h1, h2⟩ := pick ps hl (n / 12 + (k : Int) * st)
  have a1 : (k : Int).natAbs.log2 + st.natAbs.log2 < 100000000 := by have := lgI k (by omega) (by omega); have := lgI st (by omega) (by omega); omega
  have e7 : (((ps.map Pl.d).length : Nat) : Int) = 7 := by rw [List.length_map, hl]; rfl
  refine ⟨p, h1, ?_⟩
  unfold b_l_state_1 sst
  try walk_at "fx"
  rw [e7]
  try walk_at "fx"
  rw [h2]
  try walk_at "fx"
  rw [x_appL (by rw [List.length_map]; omega)]
  try walk_at "fx"
  rw [List.map_append]
  rfl
theorem t_state (n : Int) (ps : List Pl) (hp : ∀ p ∈ ps, p.ok) (hl : ps.length = 7) (vh : List Cell) : ∃ v : Vl, Good v ∧ F_l_state [.int n, .lst (ps.map Pl.d)] vh = some v.d := by
  have e7 : (((ps.map Pl.d).length : Nat) : Int) = 7 := by rw [List.length_map, hl]; rfl
  have gp : ∀ p, p ∈ ps → Good (.pl p) := fun p h => ⟨hp p h, fun s hs => by rw [List.mem_singleton.mp hs]; exact hp p h, by show 1 ≤ 1000; decide⟩
  have key : ∃ v : Vl, Good v ∧ ∃ l more, g_l_state (initS 6 [.int n, .lst (ps.map Pl.d)] vh) = .ok (.rt v.d) ⟨l, vh ++ more⟩ := by
    obtain ⟨p0, q1, q2⟩ := pick ps hl (n / 4)
    obtain ⟨p2, q5, q6⟩ := pick ps hl (n / 252)
    unfold g_l_state
    try walk_at "fx"
    rw [e7]
    by_cases c : 0 < n % 4
    · rw [if_pos c]
      try walk_at "fx"
      rw [q2]
      exact ⟨.pl p0, gp p0 q1, _, [], by rw [List.append_nil]; rfl⟩
    · rw [if_neg c]
      rw [x_lk0, x_true]
      try walk_at "fx"
      rw [x_ran1 (okB_of (by omega) (by omega))]
      try walk_at "fx"
      obtain ⟨s2, h, acc, k, a1, a2, e⟩ := loopM_run (ok := fun _ => True) (t := setL 5) (b := b_l_state_1) (fun i s => ∃ (acc : List Fx.Pl) (k : Option D), acc.length = i ∧ (∀ p ∈ acc, p ∈ ps) ∧ s = sst n ps (2 + n / 4 % 3) (1 + n / 84 % 3) acc k vh) (ranD 0 (2 + n / 4 % 3).toNat) (sst n ps (2 + n / 4 % 3) (1 + n / 84 % 3) [] none vh) (fun _ _ _ => trivial)
        (fun i d s hi ⟨acc, k, a1, a2, hs⟩ => by
          subst hs
          obtain ⟨hi1, rfl⟩ := ranD_at hi
          rw [Int.zero_add]
          obtain ⟨p, h1, h2⟩ := turnS n ps (2 + n / 4 % 3) (1 + n / 84 % 3) acc i vh hl (by omega) (by omega) (by omega) (by omega)
          refine ⟨_, rfl, _, .inl h2, acc ++ [p], _, by rw [List.length_append, a1]; rfl, fun x hx => ?_, rfl⟩
          rcases List.mem_append.mp hx with hx | hx
          · exact a2 x hx
          · rw [List.mem_singleton.mp hx]; exact h1) ⟨[], none, rfl, (by intro p h; cases h), rfl⟩
      subst e
      rw [ranD_len] at a1
      have h' : loopM (fun _ => True) (setL 5) b_l_state_1 (ranD 0 (2 + n / 4 % 3).toNat) ⟨[some (D.int n), some (D.lst (ps.map Pl.d)), some (D.int (2 + n / 4 % 3)), some (D.int (1 + n / 84 % 3)), some (D.cell vh.length), none], vh ++ [Cell.lst []]⟩ = .ok .nx (sst n ps (2 + n / 4 % 3) (1 + n / 84 % 3) acc k vh) := h
      rw [h']
      try walk_at "fx"
      rw [t_orderC acc vh (fun p h => hp p (a2 p h)) (by omega)]
      try walk_at "fx"
      have hom : ∀ p ∈ ordPl acc, p ∈ ps := fun p h => a2 p ((ord_mem acc p).mp h)
      have hol := ord_len acc
      by_cases c2 : ((((ordPl acc).map Pl.d).length : Nat) : Int) < 2
      · rw [if_pos c2]
        have hne : 0 < (ordPl acc).length := by
          match acc, a1 with
          | [], a1 => simp only [List.length_nil] at a1; omega
          | x :: r, _ => exact List.length_pos_of_mem ((ord_mem (x :: r) x).mpr List.mem_cons_self)
        have e0 : atI ((ordPl acc).map Pl.d) 0 = some (ordPl acc)[0].d := at_pls (ks := ordPl acc) (i := 0) hne
        rw [e0]
        exact ⟨.pl (ordPl acc)[0], gp _ (hom _ (List.getElem_mem hne)), _, _, rfl⟩
      · rw [if_neg c2]
        try rw [e7]
        try walk_at "fx"
        rw [q6]
        try walk_at "fx"
        rw [show tupleM [D.lst ((ordPl acc).map Pl.d)] = fun s => .ok (.tup ((ordPl acc).map Pl.d)) s from rfl]
        try walk_at "fx"
        rw [x_lk2, x_true]
        exact ⟨.cl p2 (ordPl acc), ⟨⟨hp p2 q5, fun s hs => hp s (hom s hs)⟩, fun s hs => hp s (hom s hs), by show (ordPl acc).length ≤ 1000; omega⟩, _, _, rfl⟩
  obtain ⟨v, h1, l, more, h2⟩ := key
  exact ⟨v, h1, runP_more ⟨l, more, h2⟩ (Vl.nc _ v)⟩
theorem jn_swap (b o t : Vl) : jn b t o = jn b o t := by
  unfold jn
  by_cases h1 : o = t
  · rw [if_pos h1, if_pos h1.symm, h1]
  · rw [if_neg h1, if_neg (fun z => h1 z.symm)]
    by_cases h2 : o = b
    · rw [if_pos h2]
      by_cases h3 : t = b
      · exact absurd (h2.trans h3.symm) h1
      · rw [if_neg h3, if_pos h2]
    · rw [if_neg h2, if_neg h2]
      by_cases h3 : t = b
      · rw [if_pos h3, if_pos h3]
      · rw [if_neg h3, if_neg h3, Rise.ext (ord_rise (sides t ++ sides o)) (ord_rise (sides o ++ sides t)) (fun x => by rw [ord_mem, ord_mem, List.mem_append, List.mem_append]; exact Or.comm)]
theorem jn_first (o t : Vl) : jn o o t = t := by
  unfold jn
  by_cases h1 : o = t
  · rw [if_pos h1, h1]
  · rw [if_neg h1, if_neg (fun z => h1 z.symm), if_pos rfl]
theorem jn_same (b o : Vl) : jn b o o = o := by
  unfold jn
  rw [if_pos rfl]
theorem jn_ok (b o t : Vl) (hb : Good b) (ho : Good o) (ht : Good t) : (jn b o t).ok := by
  unfold jn
  split
  · exact ho.1
  · split
    · exact ho.1
    · split
      · exact ht.1
      · refine ⟨?_, fun s hs => ?_⟩
        · cases b with
          | pl p => exact hb.1
          | cl c ss => exact hb.1.1
        · rcases List.mem_append.mp ((ord_mem _ s).mp hs) with h | h
          · exact ho.2.1 s h
          · exact ht.2.1 s h
@[reducible] def lst8 (A : D) (ps : List Fx.Pl) (k n b o t d : Option D) : S := ⟨[some A, some (.lst (ps.map Pl.d)), k, n, b, o, t, d], []⟩
theorem turnL (ns : List Int) (ps : List Pl) (hp : ∀ p ∈ ps, p.ok) (hl : ps.length = 7) (hs : ∀ c ∈ ns, Sm c) (k : Nat) (hk : k < 12) (n b o t d : Option D) :
    ∃ n' b' o' t' d', b_law_1 (lst8 (.lst (ns.map D.int)) ps (some (.int k)) n b o t d) = .ok .nx (lst8 (.lst (ns.map D.int)) ps (some (.int k)) n' b' o' t' d') := by
  obtain ⟨n1, n10, n11, e1⟩ := t_number ns (6 + k) (by omega) hs []
  obtain ⟨n2, n20, n21, e2⟩ := t_number ns (18 + k) (by omega) hs []
  obtain ⟨vb, gb, eb⟩ := t_state n1 ps hp hl []
  obtain ⟨vo, go, eo⟩ := t_state (n1 / 3 * 69621 % 2147483629) ps hp hl []
  obtain ⟨vt, gt, et⟩ := t_state n2 ps hp hl []
  have a1 : (n1 / 3).natAbs.log2 + (69621 : Int).natAbs.log2 < 100000000 := by have := lgI (n1 / 3) (by omega) (by omega); have := lgI 69621 (by decide) (by decide); omega
  have c1 : ((6 + k : Nat) : Int) = 6 + (k : Int) := by omega
  have c2 : ((18 + k : Nat) : Int) = 18 + (k : Int) := by omega
  rw [c1] at e1
  rw [c2] at e2
  have fin : ∀ (vb vo vt : Vl), Good vb → Good vo → Good vt → ∀ n d, ∃ d', (seqM (asgM (bnd (consM (getL 4) (consM (getL 5) (consM (getL 6) (ret [])))) (callP 3 F_l_joined)) (setL 7))
    (seqM (ifM (orT (notT (tst (bnd (consM (bnd (consM (getL 4) (consM (getL 5) (consM (getL 6) (ret [])))) (callP 3 F_join_cell)) (consM (getL 7) (ret []))) (callP 2 F_l_alike)))) (notT (tst (bnd (consM (bnd (consM (getL 4) (consM (getL 6) (consM (getL 5) (ret [])))) (callP 3 F_join_cell)) (consM (getL 7) (ret []))) (callP 2 F_l_alike))))) (retM (ret (.bl false))) (ret .nx))
    (ifM (orT (notT (tst (bnd (consM (bnd (consM (getL 5) (consM (getL 5) (consM (getL 6) (ret [])))) (callP 3 F_join_cell)) (consM (getL 6) (ret []))) (callP 2 F_l_alike)))) (notT (tst (bnd (consM (bnd (consM (getL 4) (consM (getL 5) (consM (getL 5) (ret [])))) (callP 3 F_join_cell)) (consM (getL 5) (ret []))) (callP 2 F_l_alike))))) (retM (ret (.bl false))) (ret .nx)))) (lst8 (.lst (ns.map D.int)) ps (some (.int k)) n (some vb.d) (some vo.d) (some vt.d) d)
      = .ok .nx (lst8 (.lst (ns.map D.int)) ps (some (.int k)) n (some vb.d) (some vo.d) (some vt.d) d') := by
    intro vb vo vt gb go gt n d
    have j0 := t_joined vb vo vt gb.1 go.1 gt.1 go.2.1 gt.2.1 go.2.2 gt.2.2 []
    have j1 := t_join vb vo vt gb.1 go.1 gt.1 go.2.2 gt.2.2 []
    have j2 := t_join vb vt vo gb.1 gt.1 go.1 gt.2.2 go.2.2 []
    have j3 := t_join vo vo vt go.1 go.1 gt.1 go.2.2 gt.2.2 []
    have j4 := t_join vb vo vo gb.1 go.1 go.1 go.2.2 go.2.2 []
    rw [jn_swap] at j2
    rw [jn_first] at j3
    rw [jn_same] at j4
    have k1 := t_alike _ (jn_ok vb vo vt gb go gt) []
    have k2 := t_alike _ gt.1 []
    have k3 := t_alike _ go.1 []
    refine ⟨some (jn vb vo vt).d, ?_⟩
    unfold lst8
    walk_at "fx"
    rw [j0]
    try walk_at "fx"
    rw [j1]
    try walk_at "fx"
    rw [k1]
    try walk_at "fx"
    rw [j2]
    try walk_at "fx"
    rw [k1]
    try walk_at "fx"
    rw [j3]
    try walk_at "fx"
    rw [k2]
    try walk_at "fx"
    rw [j4]
    try walk_at "fx"
    rw [k3]
    try walk_at "fx"
  have done : ∀ (vb vo vt : Vl), Good vb → Good vo → Good vt → ∀ n d q, (∀ (vb vo vt : Vl), Good vb → Good vo → Good vt → ∀ n d, ∃ d', q (lst8 (.lst (ns.map D.int)) ps (some (.int k)) n (some vb.d) (some vo.d) (some vt.d) d) = .ok .nx (lst8 (.lst (ns.map D.int)) ps (some (.int k)) n (some vb.d) (some vo.d) (some vt.d) d')) →
      ∃ n' b' o' t' d', (q : M Out) ⟨[some (.lst (ns.map D.int)), some (.lst (ps.map Pl.d)), some (.int k), n, some vb.d, some vo.d, some vt.d, d], []⟩ = .ok .nx (lst8 (.lst (ns.map D.int)) ps (some (.int k)) n' b' o' t' d') := fun vb vo vt g1 g2 g3 n d q hq => by
    obtain ⟨d', h⟩ := hq vb vo vt g1 g2 g3 n d
    exact ⟨_, _, _, _, _, h⟩
  unfold b_law_1
  generalize (seqM (asgM (bnd (consM (getL 4) (consM (getL 5) (consM (getL 6) (ret [])))) (callP 3 F_l_joined)) (setL 7)) _) = q at fin ⊢
  unfold lst8
  walk_at "fx"
  rw [e1]
  try walk_at "fx"
  rw [eb]
  try walk_at "fx"
  rw [eo]
  try walk_at "fx"
  rw [e2]
  try walk_at "fx"
  rw [et, x_callR, x_ok, x_set, x_nx]
  have sg1 : ∀ (vo vt : Vl) (s0 : List (Option D)), True := fun _ _ _ => trivial
  simp only [List.set_cons_succ, List.set_cons_zero]
  by_cases z : (k : Int) % 3 = 0
  all_goals by_cases z0 : n1 % 3 = 0
  all_goals by_cases z1 : n1 % 3 = 1
  all_goals by_cases z2 : n1 % 3 = 2
  all_goals try omega
  all_goals simp (disch := first | rfl | decide | omega | assumption) only [x_seq, x_if, x_andT, x_tst, x_bin, x_get, x_look, x_bnd, x_ok, x_ret, x_mod, x_eqI, x_asB, z, z0, z1, z2, decide_true, decide_false, x_true, x_false, x_nx, x_asg, x_set, List.getElem?_cons_zero, List.getElem?_cons_succ, List.set_cons_zero, List.set_cons_succ, if_true, if_false, Bool.false_eq_true, x_ite, x_iteM, x_ite2, decide_eq_true_eq]
  all_goals first
    | exact done _ _ _ gb go gt _ _ q fin
    | exact done _ _ _ gb gb gt _ _ q fin
    | exact done _ _ _ gb go gb _ _ q fin
    | exact done _ _ _ gb gt gt _ _ q fin
    | exact done _ _ _ gb gb gb _ _ q fin
    | skip
theorem law_true (ns : List Int) (hl : ns.length ≤ 63) (hb : ∀ z ∈ ns, Builtin.Int.intBits z ≤ 1048576) : F_law [.lst (ns.map D.int)] [] = some (.bl true) := by
  have hs : ∀ c ∈ ns, Sm c := fun c hc => .of_bits (hb c hc)
  obtain ⟨ps, p1, p2, p3⟩ := t_pool ns [] hs
  refine runP_of ?_ rfl
  unfold g_law
  walk_at "fx"
  rw [p3]
  try walk_at "fx"
  rw [x_ran1 (okB_of (by decide) (by decide))]
  try walk_at "fx"
  obtain ⟨s2, h, k, n, b, o, t, d, e⟩ := loopM_run (ok := fun _ => True) (t := setL 2) (b := b_law_1) (fun i s => ∃ k n b o t d, s = lst8 (.lst (ns.map D.int)) ps k n b o t d) (ranD 0 12) (lst8 (.lst (ns.map D.int)) ps none none none none none none) (fun _ _ _ => trivial)
    (fun i d s hi ⟨k, n, b, o, t, d', hs2⟩ => by
      subst hs2
      obtain ⟨hi1, rfl⟩ := ranD_at hi
      rw [Int.zero_add]
      obtain ⟨n', b', o', t', d'', h⟩ := turnL ns ps p1 p2 hs i hi1 n b o t d'
      exact ⟨_, rfl, _, .inl h, _, _, _, _, _, _, rfl⟩) ⟨none, none, none, none, none, none, rfl⟩
  subst e
  have h' : loopM (fun _ => True) (setL 2) b_law_1 (ranD 0 12) ⟨[some (D.lst (ns.map D.int)), some (D.lst (ps.map Pl.d)), none, none, none, none, none, none], []⟩ = .ok .nx (lst8 (.lst (ns.map D.int)) ps k n b o t d) := h
  rw [h']
  try walk_at "fx"
  exact ⟨_, rfl⟩
end My

/-! ### the end -/
namespace Wktwigtable_k51_three_states
open PySem PySem.Spec PyProof.Rows L2 Fx
theorem all_mk {K : PySem.W.Frag} {h : Heap} {mg : Str → Option Value} (X : K.In h) (G : h.Ns mainGlobals mg)
    {f0 oc0 kV0 dc0 pm0 cd0 ct0} {od0 an0 : Option Addr} {sl0 : Array (Option Value)} (a0 : PySem.W.nsIn K mainGlobals "before" = some (some (.ref f0))) (l0 : K.lookup f0 = some ⟨oc0, od0, .func (PySem.W.fnOf "before" "before" (defArgs s_before) (defBody s_before) (defScope s_before) .none kV0 dc0 pm0 an0 cd0 ct0), sl0⟩) (c0 : PySem.W.codeIn K cd0 "before" = true) (k0 : PySem.W.keepIn K (.ref f0) = true)
    {f1 oc1 kV1 dc1 pm1 cd1 ct1} {od1 an1 : Option Addr} {sl1 : Array (Option Value)} (a1 : PySem.W.nsIn K mainGlobals "place_of" = some (some (.ref f1))) (l1 : K.lookup f1 = some ⟨oc1, od1, .func (PySem.W.fnOf "place_of" "place_of" (defArgs s_place_of) (defBody s_place_of) (defScope s_place_of) .none kV1 dc1 pm1 an1 cd1 ct1), sl1⟩) (c1 : PySem.W.codeIn K cd1 "place_of" = true) (k1 : PySem.W.keepIn K (.ref f1) = true)
    {f2 oc2 kV2 dc2 pm2 cd2 ct2} {od2 an2 : Option Addr} {sl2 : Array (Option Value)} (a2 : PySem.W.nsIn K mainGlobals "in_order" = some (some (.ref f2))) (l2 : K.lookup f2 = some ⟨oc2, od2, .func (PySem.W.fnOf "in_order" "in_order" (defArgs s_in_order) (defBody s_in_order) (defScope s_in_order) .none kV2 dc2 pm2 an2 cd2 ct2), sl2⟩) (c2 : PySem.W.codeIn K cd2 "in_order" = true) (k2 : PySem.W.keepIn K (.ref f2) = true)
    {f3 oc3 kV3 dc3 pm3 cd3 ct3} {od3 an3 : Option Addr} {sl3 : Array (Option Value)} (a3 : PySem.W.nsIn K mainGlobals "base_of" = some (some (.ref f3))) (l3 : K.lookup f3 = some ⟨oc3, od3, .func (PySem.W.fnOf "base_of" "base_of" (defArgs s_base_of) (defBody s_base_of) (defScope s_base_of) .none kV3 dc3 pm3 an3 cd3 ct3), sl3⟩) (c3 : PySem.W.codeIn K cd3 "base_of" = true) (k3 : PySem.W.keepIn K (.ref f3) = true)
    {f4 oc4 kV4 dc4 pm4 cd4 ct4} {od4 an4 : Option Addr} {sl4 : Array (Option Value)} (a4 : PySem.W.nsIn K mainGlobals "sides_of" = some (some (.ref f4))) (l4 : K.lookup f4 = some ⟨oc4, od4, .func (PySem.W.fnOf "sides_of" "sides_of" (defArgs s_sides_of) (defBody s_sides_of) (defScope s_sides_of) .none kV4 dc4 pm4 an4 cd4 ct4), sl4⟩) (c4 : PySem.W.codeIn K cd4 "sides_of" = true) (k4 : PySem.W.keepIn K (.ref f4) = true)
    {f5 oc5 kV5 dc5 pm5 cd5 ct5} {od5 an5 : Option Addr} {sl5 : Array (Option Value)} (a5 : PySem.W.nsIn K mainGlobals "clash_of" = some (some (.ref f5))) (l5 : K.lookup f5 = some ⟨oc5, od5, .func (PySem.W.fnOf "clash_of" "clash_of" (defArgs s_clash_of) (defBody s_clash_of) (defScope s_clash_of) .none kV5 dc5 pm5 an5 cd5 ct5), sl5⟩) (c5 : PySem.W.codeIn K cd5 "clash_of" = true) (k5 : PySem.W.keepIn K (.ref f5) = true)
    {f6 oc6 kV6 dc6 pm6 cd6 ct6} {od6 an6 : Option Addr} {sl6 : Array (Option Value)} (a6 : PySem.W.nsIn K mainGlobals "join_cell" = some (some (.ref f6))) (l6 : K.lookup f6 = some ⟨oc6, od6, .func (PySem.W.fnOf "join_cell" "join_cell" (defArgs s_join_cell) (defBody s_join_cell) (defScope s_join_cell) .none kV6 dc6 pm6 an6 cd6 ct6), sl6⟩) (c6 : PySem.W.codeIn K cd6 "join_cell" = true) (k6 : PySem.W.keepIn K (.ref f6) = true)
    {f7 oc7 kV7 dc7 pm7 cd7 ct7} {od7 an7 : Option Addr} {sl7 : Array (Option Value)} (a7 : PySem.W.nsIn K mainGlobals "_law_number" = some (some (.ref f7))) (l7 : K.lookup f7 = some ⟨oc7, od7, .func (PySem.W.fnOf "_law_number" "_law_number" (defArgs s_l_number) (defBody s_l_number) (defScope s_l_number) .none kV7 dc7 pm7 an7 cd7 ct7), sl7⟩) (c7 : PySem.W.codeIn K cd7 "_law_number" = true) (k7 : PySem.W.keepIn K (.ref f7) = true)
    {f8 oc8 kV8 dc8 pm8 cd8 ct8} {od8 an8 : Option Addr} {sl8 : Array (Option Value)} (a8 : PySem.W.nsIn K mainGlobals "_law_text" = some (some (.ref f8))) (l8 : K.lookup f8 = some ⟨oc8, od8, .func (PySem.W.fnOf "_law_text" "_law_text" (defArgs s_l_text) (defBody s_l_text) (defScope s_l_text) .none kV8 dc8 pm8 an8 cd8 ct8), sl8⟩) (c8 : PySem.W.codeIn K cd8 "_law_text" = true) (k8 : PySem.W.keepIn K (.ref f8) = true)
    {f9 oc9 kV9 dc9 pm9 cd9 ct9} {od9 an9 : Option Addr} {sl9 : Array (Option Value)} (a9 : PySem.W.nsIn K mainGlobals "_law_plain" = some (some (.ref f9))) (l9 : K.lookup f9 = some ⟨oc9, od9, .func (PySem.W.fnOf "_law_plain" "_law_plain" (defArgs s_l_plain) (defBody s_l_plain) (defScope s_l_plain) .none kV9 dc9 pm9 an9 cd9 ct9), sl9⟩) (c9 : PySem.W.codeIn K cd9 "_law_plain" = true) (k9 : PySem.W.keepIn K (.ref f9) = true)
    {f10 oc10 kV10 dc10 pm10 cd10 ct10} {od10 an10 : Option Addr} {sl10 : Array (Option Value)} (a10 : PySem.W.nsIn K mainGlobals "_law_rank" = some (some (.ref f10))) (l10 : K.lookup f10 = some ⟨oc10, od10, .func (PySem.W.fnOf "_law_rank" "_law_rank" (defArgs s_l_rank) (defBody s_l_rank) (defScope s_l_rank) .none kV10 dc10 pm10 an10 cd10 ct10), sl10⟩) (c10 : PySem.W.codeIn K cd10 "_law_rank" = true) (k10 : PySem.W.keepIn K (.ref f10) = true)
    {f11 oc11 kV11 dc11 pm11 cd11 ct11} {od11 an11 : Option Addr} {sl11 : Array (Option Value)} (a11 : PySem.W.nsIn K mainGlobals "_law_order" = some (some (.ref f11))) (l11 : K.lookup f11 = some ⟨oc11, od11, .func (PySem.W.fnOf "_law_order" "_law_order" (defArgs s_l_order) (defBody s_l_order) (defScope s_l_order) .none kV11 dc11 pm11 an11 cd11 ct11), sl11⟩) (c11 : PySem.W.codeIn K cd11 "_law_order" = true) (k11 : PySem.W.keepIn K (.ref f11) = true)
    {f12 oc12 kV12 dc12 pm12 cd12 ct12} {od12 an12 : Option Addr} {sl12 : Array (Option Value)} (a12 : PySem.W.nsIn K mainGlobals "_law_sides" = some (some (.ref f12))) (l12 : K.lookup f12 = some ⟨oc12, od12, .func (PySem.W.fnOf "_law_sides" "_law_sides" (defArgs s_l_sides) (defBody s_l_sides) (defScope s_l_sides) .none kV12 dc12 pm12 an12 cd12 ct12), sl12⟩) (c12 : PySem.W.codeIn K cd12 "_law_sides" = true) (k12 : PySem.W.keepIn K (.ref f12) = true)
    {f13 oc13 kV13 dc13 pm13 cd13 ct13} {od13 an13 : Option Addr} {sl13 : Array (Option Value)} (a13 : PySem.W.nsIn K mainGlobals "_law_joined" = some (some (.ref f13))) (l13 : K.lookup f13 = some ⟨oc13, od13, .func (PySem.W.fnOf "_law_joined" "_law_joined" (defArgs s_l_joined) (defBody s_l_joined) (defScope s_l_joined) .none kV13 dc13 pm13 an13 cd13 ct13), sl13⟩) (c13 : PySem.W.codeIn K cd13 "_law_joined" = true) (k13 : PySem.W.keepIn K (.ref f13) = true)
    {f14 oc14 kV14 dc14 pm14 cd14 ct14} {od14 an14 : Option Addr} {sl14 : Array (Option Value)} (a14 : PySem.W.nsIn K mainGlobals "_law_alike" = some (some (.ref f14))) (l14 : K.lookup f14 = some ⟨oc14, od14, .func (PySem.W.fnOf "_law_alike" "_law_alike" (defArgs s_l_alike) (defBody s_l_alike) (defScope s_l_alike) .none kV14 dc14 pm14 an14 cd14 ct14), sl14⟩) (c14 : PySem.W.codeIn K cd14 "_law_alike" = true) (k14 : PySem.W.keepIn K (.ref f14) = true)
    {f15 oc15 kV15 dc15 pm15 cd15 ct15} {od15 an15 : Option Addr} {sl15 : Array (Option Value)} (a15 : PySem.W.nsIn K mainGlobals "_law_pool" = some (some (.ref f15))) (l15 : K.lookup f15 = some ⟨oc15, od15, .func (PySem.W.fnOf "_law_pool" "_law_pool" (defArgs s_l_pool) (defBody s_l_pool) (defScope s_l_pool) .none kV15 dc15 pm15 an15 cd15 ct15), sl15⟩) (c15 : PySem.W.codeIn K cd15 "_law_pool" = true) (k15 : PySem.W.keepIn K (.ref f15) = true)
    {f16 oc16 kV16 dc16 pm16 cd16 ct16} {od16 an16 : Option Addr} {sl16 : Array (Option Value)} (a16 : PySem.W.nsIn K mainGlobals "_law_state" = some (some (.ref f16))) (l16 : K.lookup f16 = some ⟨oc16, od16, .func (PySem.W.fnOf "_law_state" "_law_state" (defArgs s_l_state) (defBody s_l_state) (defScope s_l_state) .none kV16 dc16 pm16 an16 cd16 ct16), sl16⟩) (c16 : PySem.W.codeIn K cd16 "_law_state" = true) (k16 : PySem.W.keepIn K (.ref f16) = true)
    {f17 oc17 kV17 dc17 pm17 cd17 ct17} {od17 an17 : Option Addr} {sl17 : Array (Option Value)} (a17 : PySem.W.nsIn K mainGlobals "law" = some (some (.ref f17))) (l17 : K.lookup f17 = some ⟨oc17, od17, .func (PySem.W.fnOf "law" "law" (defArgs s_law) (defBody s_law) (defScope s_law) .none kV17 dc17 pm17 an17 cd17 ct17), sl17⟩) (c17 : PySem.W.codeIn K cd17 "law" = true) (k17 : PySem.W.keepIn K (.ref f17) = true)
    (z_bool : PySem.W.nsIn K mainGlobals "bool" = some none)
    (z_int : PySem.W.nsIn K mainGlobals "int" = some none)
    (z_isinstance : PySem.W.nsIn K mainGlobals "isinstance" = some none)
    (z_len : PySem.W.nsIn K mainGlobals "len" = some none)
    (z_list : PySem.W.nsIn K mainGlobals "list" = some none)
    (z_range : PySem.W.nsIn K mainGlobals "range" = some none)
    (z_sorted : PySem.W.nsIn K mainGlobals "sorted" = some none)
    (z_str : PySem.W.nsIn K mainGlobals "str" = some none)
    (z_tuple : PySem.W.nsIn K mainGlobals "tuple" = some none)
    (z_zip : PySem.W.nsIn K mainGlobals "zip" = some none)
    : Txt mg ∧ Top K mg "before" s_before ["one", "other"] ∧ Top K mg "place_of" s_place_of ["keys", "key"] ∧ Top K mg "in_order" s_in_order ["values"] ∧ Top K mg "base_of" s_base_of ["value"] ∧ Top K mg "sides_of" s_sides_of ["value"] ∧ Top K mg "clash_of" s_clash_of ["before_it", "values"] ∧ Top K mg "join_cell" s_join_cell ["base", "one", "other"] ∧ Top K mg "_law_number" s_l_number ["_law_script", "_law_k"] ∧ Top K mg "_law_text" s_l_text ["_law_number_here", "_law_size"] ∧ Top K mg "_law_plain" s_l_plain ["_law_number_here"] ∧ Top K mg "_law_rank" s_l_rank ["_law_value"] ∧ Top K mg "_law_order" s_l_order ["_law_values"] ∧ Top K mg "_law_sides" s_l_sides ["_law_value"] ∧ Top K mg "_law_joined" s_l_joined ["_law_base", "_law_one", "_law_other"] ∧ Top K mg "_law_alike" s_l_alike ["_law_found", "_law_due"] ∧ Top K mg "_law_pool" s_l_pool ["_law_script", "_law_start"] ∧ Top K mg "_law_state" s_l_state ["_law_number_here", "_law_pool_here"] ∧ Top K mg "law" s_law ["_law_script"] := by
  refine ⟨⟨PySem.W.mg_none_of X G z_bool, PySem.W.mg_none_of X G z_int, PySem.W.mg_none_of X G z_isinstance, PySem.W.mg_none_of X G z_len, PySem.W.mg_none_of X G z_list, PySem.W.mg_none_of X G z_range, PySem.W.mg_none_of X G z_sorted, PySem.W.mg_none_of X G z_str, PySem.W.mg_none_of X G z_tuple, PySem.W.mg_none_of X G z_zip⟩, ?_, ?_, ?_, ?_, ?_, ?_, ?_, ?_, ?_, ?_, ?_, ?_, ?_, ?_, ?_, ?_, ?_, ?_⟩
  · exact top_mk X G a0 l0 c0 k0 fun _ _ _ _ _ _ us hl => match us, hl with | [_, _], _ => rfl
  · exact top_mk X G a1 l1 c1 k1 fun _ _ _ _ _ _ us hl => match us, hl with | [_, _], _ => rfl
  · exact top_mk X G a2 l2 c2 k2 fun _ _ _ _ _ _ us hl => match us, hl with | [_], _ => rfl
  · exact top_mk X G a3 l3 c3 k3 fun _ _ _ _ _ _ us hl => match us, hl with | [_], _ => rfl
  · exact top_mk X G a4 l4 c4 k4 fun _ _ _ _ _ _ us hl => match us, hl with | [_], _ => rfl
  · exact top_mk X G a5 l5 c5 k5 fun _ _ _ _ _ _ us hl => match us, hl with | [_, _], _ => rfl
  · exact top_mk X G a6 l6 c6 k6 fun _ _ _ _ _ _ us hl => match us, hl with | [_, _, _], _ => rfl
  · exact top_mk X G a7 l7 c7 k7 fun _ _ _ _ _ _ us hl => match us, hl with | [_, _], _ => rfl
  · exact top_mk X G a8 l8 c8 k8 fun _ _ _ _ _ _ us hl => match us, hl with | [_, _], _ => rfl
  · exact top_mk X G a9 l9 c9 k9 fun _ _ _ _ _ _ us hl => match us, hl with | [_], _ => rfl
  · exact top_mk X G a10 l10 c10 k10 fun _ _ _ _ _ _ us hl => match us, hl with | [_], _ => rfl
  · exact top_mk X G a11 l11 c11 k11 fun _ _ _ _ _ _ us hl => match us, hl with | [_], _ => rfl
  · exact top_mk X G a12 l12 c12 k12 fun _ _ _ _ _ _ us hl => match us, hl with | [_], _ => rfl
  · exact top_mk X G a13 l13 c13 k13 fun _ _ _ _ _ _ us hl => match us, hl with | [_, _, _], _ => rfl
  · exact top_mk X G a14 l14 c14 k14 fun _ _ _ _ _ _ us hl => match us, hl with | [_, _], _ => rfl
  · exact top_mk X G a15 l15 c15 k15 fun _ _ _ _ _ _ us hl => match us, hl with | [_, _], _ => rfl
  · exact top_mk X G a16 l16 c16 k16 fun _ _ _ _ _ _ us hl => match us, hl with | [_, _], _ => rfl
  · exact top_mk X G a17 l17 c17 k17 fun _ _ _ _ _ _ us hl => match us, hl with | [_], _ => rfl
theorem walk {l : PySem.W.OpenLaw} {q : Program} {loose : List Str} {XP : (Str → Option Value) → Heap → Prop} {YP : World → Heap → Prop} {d : DefRec} {K : Params → PySem.W.Frag} (hn : l.most = some 63) (hdf : d.params.defaults = []) (hd : d.name = "law")
    (hY : ∀ (w : World) (h : Heap), YP w h → (K w.params).In h)
    (F : ∀ (w : World) (mg : Str → Option Value) (h : Heap), (K w.params).In h → h.Ns mainGlobals mg → Txt mg ∧ Top (K w.params) mg "before" s_before ["one", "other"] ∧ Top (K w.params) mg "place_of" s_place_of ["keys", "key"] ∧ Top (K w.params) mg "in_order" s_in_order ["values"] ∧ Top (K w.params) mg "base_of" s_base_of ["value"] ∧ Top (K w.params) mg "sides_of" s_sides_of ["value"] ∧ Top (K w.params) mg "clash_of" s_clash_of ["before_it", "values"] ∧ Top (K w.params) mg "join_cell" s_join_cell ["base", "one", "other"] ∧ Top (K w.params) mg "_law_number" s_l_number ["_law_script", "_law_k"] ∧ Top (K w.params) mg "_law_text" s_l_text ["_law_number_here", "_law_size"] ∧ Top (K w.params) mg "_law_plain" s_l_plain ["_law_number_here"] ∧ Top (K w.params) mg "_law_rank" s_l_rank ["_law_value"] ∧ Top (K w.params) mg "_law_order" s_l_order ["_law_values"] ∧ Top (K w.params) mg "_law_sides" s_l_sides ["_law_value"] ∧ Top (K w.params) mg "_law_joined" s_l_joined ["_law_base", "_law_one", "_law_other"] ∧ Top (K w.params) mg "_law_alike" s_l_alike ["_law_found", "_law_due"] ∧ Top (K w.params) mg "_law_pool" s_l_pool ["_law_script", "_law_start"] ∧ Top (K w.params) mg "_law_state" s_l_state ["_law_number_here", "_law_pool_here"] ∧ Top (K w.params) mg "law" s_law ["_law_script"])
    (hF : ∀ ns : List Int, ns.length ≤ 63 → (∀ z ∈ ns, Builtin.Int.intBits z ≤ 1048576) → F_law [.lst (ns.map D.int)] [] = some (.bl true)) :
    PySem.W.WalkO q loose XP YP l.row.toRowW d [] (fun f vs => PySem.call f vs) := by
  refine law_end (k := 6) (x := "_law_script") hn hdf hd ⟨rfl, by decide, by decide⟩ hY (fun w mg h X G => ?_) hF
  obtain ⟨T, t_before, t_place_of, t_in_order, t_base_of, t_sides_of, t_clash_of, t_join_cell, t_l_number, t_l_text, t_l_plain, t_l_rank, t_l_order, t_l_sides, t_l_joined, t_l_alike, t_l_pool, t_l_state, t_law⟩ := F w mg h X G
  refine ok_law T t_law fun base X0 G0 => ?_
  have c_before : FnP l.prog w (K w.params) mg base "before" 2 1 F_before := ok_before T t_before
  have c_place_of : FnP l.prog w (K w.params) mg base "place_of" 2 2 F_place_of := ok_place_of T t_place_of c_before
  have c_in_order : FnP l.prog w (K w.params) mg base "in_order" 1 3 F_in_order := ok_in_order T t_in_order c_place_of c_before
  have c_base_of : FnP l.prog w (K w.params) mg base "base_of" 1 1 F_base_of := ok_base_of T t_base_of
  have c_sides_of : FnP l.prog w (K w.params) mg base "sides_of" 1 1 F_sides_of := ok_sides_of T t_sides_of
  have c_clash_of : FnP l.prog w (K w.params) mg base "clash_of" 2 4 F_clash_of := ok_clash_of T t_clash_of c_in_order
  have c_join_cell : FnP l.prog w (K w.params) mg base "join_cell" 3 5 F_join_cell := ok_join_cell T t_join_cell c_clash_of c_sides_of c_base_of
  have c_l_number : FnP l.prog w (K w.params) mg base "_law_number" 2 1 F_l_number := ok_l_number T t_l_number
  have c_l_text : FnP l.prog w (K w.params) mg base "_law_text" 2 1 F_l_text := ok_l_text T t_l_text
  have c_l_plain : FnP l.prog w (K w.params) mg base "_law_plain" 1 2 F_l_plain := ok_l_plain T t_l_plain c_l_text
  have c_l_rank : FnP l.prog w (K w.params) mg base "_law_rank" 1 1 F_l_rank := ok_l_rank T t_l_rank
  have c_l_order : FnP l.prog w (K w.params) mg base "_law_order" 1 4 F_l_order := ok_l_order T t_l_order c_l_rank
  have c_l_sides : FnP l.prog w (K w.params) mg base "_law_sides" 1 1 F_l_sides := ok_l_sides T t_l_sides
  have c_l_joined : FnP l.prog w (K w.params) mg base "_law_joined" 3 5 F_l_joined := ok_l_joined T t_l_joined c_l_order c_l_sides
  have c_l_alike : FnP l.prog w (K w.params) mg base "_law_alike" 2 5 F_l_alike := ok_l_alike T t_l_alike
  have c_l_pool : FnP l.prog w (K w.params) mg base "_law_pool" 2 3 F_l_pool := ok_l_pool T t_l_pool c_l_plain c_l_number
  have c_l_state : FnP l.prog w (K w.params) mg base "_law_state" 2 5 F_l_state := ok_l_state T t_l_state c_l_order
  exact ⟨c_l_pool, c_l_number, c_l_state, c_l_joined, c_l_alike, c_join_cell, trivial⟩
end Wktwigtable_k51_three_states
open PySem PySem.W PyProof.Rows
set_option maxRecDepth 100000 in
set_option maxHeartbeats 0 in
theorem PySem.Challenge.cw_twigtable_k51_three_states_holds : PySem.Challenge.rw_twigtable_k51_three_states.Holds := by
  w_on; o_law; k_head; (case hw => w_witness2)
  k_fill
  refine Wktwigtable_k51_three_states.walk (l := PySem.Challenge.rw_twigtable_k51_three_states) rfl rfl rfl (fun w h Y => PySem.W.kIn_of Y) ?F My.law_true
  case F =>
    intro w mg h KX G
    refine' Wktwigtable_k51_three_states.all_mk KX G ?a0 ?l0 ?c0 ?k0 ?a1 ?l1 ?c1 ?k1 ?a2 ?l2 ?c2 ?k2 ?a3 ?l3 ?c3 ?k3 ?a4 ?l4 ?c4 ?k4 ?a5 ?l5 ?c5 ?k5 ?a6 ?l6 ?c6 ?k6 ?a7 ?l7 ?c7 ?k7 ?a8 ?l8 ?c8 ?k8 ?a9 ?l9 ?c9 ?k9 ?a10 ?l10 ?c10 ?k10 ?a11 ?l11 ?c11 ?k11 ?a12 ?l12 ?c12 ?k12 ?a13 ?l13 ?c13 ?k13 ?a14 ?l14 ?c14 ?k14 ?a15 ?l15 ?c15 ?k15 ?a16 ?l16 ?c16 ?k16 ?a17 ?l17 ?c17 ?k17 ?z_bool ?z_int ?z_isinstance ?z_len ?z_list ?z_range ?z_sorted ?z_str ?z_tuple ?z_zip
    (case a0 => k_is)
    (case l0 => k_is)
    (case c0 => k_is)
    (case k0 => k_is)
    (case a1 => k_is)
    (case l1 => k_is)
    (case c1 => k_is)
    (case k1 => k_is)
    (case a2 => k_is)
    (case l2 => k_is)
    (case c2 => k_is)
    (case k2 => k_is)
    (case a3 => k_is)
    (case l3 => k_is)
    (case c3 => k_is)
    (case k3 => k_is)
    (case a4 => k_is)
    (case l4 => k_is)
    (case c4 => k_is)
    (case k4 => k_is)
    (case a5 => k_is)
    (case l5 => k_is)
    (case c5 => k_is)
    (case k5 => k_is)
    (case a6 => k_is)
    (case l6 => k_is)
    (case c6 => k_is)
    (case k6 => k_is)
    (case a7 => k_is)
    (case l7 => k_is)
    (case c7 => k_is)
    (case k7 => k_is)
    (case a8 => k_is)
    (case l8 => k_is)
    (case c8 => k_is)
    (case k8 => k_is)
    (case a9 => k_is)
    (case l9 => k_is)
    (case c9 => k_is)
    (case k9 => k_is)
    (case a10 => k_is)
    (case l10 => k_is)
    (case c10 => k_is)
    (case k10 => k_is)
    (case a11 => k_is)
    (case l11 => k_is)
    (case c11 => k_is)
    (case k11 => k_is)
    (case a12 => k_is)
    (case l12 => k_is)
    (case c12 => k_is)
    (case k12 => k_is)
    (case a13 => k_is)
    (case l13 => k_is)
    (case c13 => k_is)
    (case k13 => k_is)
    (case a14 => k_is)
    (case l14 => k_is)
    (case c14 => k_is)
    (case k14 => k_is)
    (case a15 => k_is)
    (case l15 => k_is)
    (case c15 => k_is)
    (case k15 => k_is)
    (case a16 => k_is)
    (case l16 => k_is)
    (case c16 => k_is)
    (case k16 => k_is)
    (case a17 => k_is)
    (case l17 => k_is)
    (case c17 => k_is)
    (case k17 => k_is)
    (case z_bool => k_is)
    (case z_int => k_is)
    (case z_isinstance => k_is)
    (case z_len => k_is)
    (case z_list => k_is)
    (case z_range => k_is)
    (case z_sorted => k_is)
    (case z_str => k_is)
    (case z_tuple => k_is)
    (case z_zip => k_is)

