import PyProof.Rows.All
import Wide.All
import OpenK.AllK
import Wide.FinOn
import HandS.ForMost
import HandS.IsInst
import HandS.Wide
import HandS.EndBits
import HandS.Codes
import HandS.Zip
import KE.DataCmp
import PySem.Challenge.RW_twigtable_k11_a_level
set_option Elab.async false
set_option linter.all false
set_option maxRecDepth 100000
set_option maxHeartbeats 2000000
/-! Fx: a def's body as a function on data: trees for what is never changed, numbered cells for lists that are. -/
namespace Fx
open PySem PySem.Spec PyProof.Rows L2

/-! ### data -/
inductive D where
  | non | bl (b : Bool) | int (i : Int) | str (x : Str) | tup (xs : List D) | lst (xs : List D) | cell (n : Nat) | ref (a : Addr)
inductive Cell where
  | lst (xs : List D) | dct (kvs : List (Key × D))
structure S where
  loc : List (Option D)
  vh : List Cell
structure Ex where
  cls : Addr
  fs : List (Str × D)
inductive Res (α : Type) where
  | ok (a : α) (s : S) | exc (e : Ex) (s : S) | bad
abbrev M (α : Type) := S → Res α
def ret {α : Type} (a : α) : M α := fun s => .ok a s
def fail {α : Type} : M α := fun _ => .bad
def bnd {α β : Type} (m : M α) (k : α → M β) : M β := fun s => match m s with
  | .ok a s' => k a s'
  | .exc e s' => .exc e s'
  | .bad => .bad
/-- data that stand in the abstract heap -/
structure Wd where
  ρ : List Addr
  F : Hp
def Wd.le (w w' : Wd) : Prop := (∀ (n : Nat) a, w.ρ[n]? = some a → w'.ρ[n]? = some a) ∧ ∀ a o, w.F a = some o → w'.F a = some o
theorem Wd.le.refl (w : Wd) : w.le w := ⟨fun _ _ h => h, fun _ _ h => h⟩
theorem Wd.le.trans {a b c : Wd} (x : a.le b) (y : b.le c) : a.le c := ⟨fun n q h => y.1 n q (x.1 n q h), fun q o h => y.2 q o (x.2 q o h)⟩
section
variable (K : PySem.W.Frag)
mutual
inductive Rep : Wd → V → D → Prop
  | non {w : Wd} : Rep w .non .non
  | bl {w : Wd} (b : Bool) : Rep w (.bl b) (.bl b)
  | int {w : Wd} (i : Int) : Rep w (.int i) (.int i)
  | str {w : Wd} (x : Str) : Rep w (.str x) (.str x)
  | ref {w : Wd} (a : Addr) : Rep w (.ref a) (.ref a)
  | tup {w : Wd} {a : Addr} {vs : List V} {ds : List D} (h : SqT K w.F a vs) (t : RepL w vs ds) : Rep w (.ref a) (.tup ds)
  | lst {w : Wd} {a : Addr} {vs : List V} {ds : List D} (h : SqL K w.F a vs) (t : RepL w vs ds) : Rep w (.ref a) (.lst ds)
  | cell {w : Wd} {a : Addr} {n : Nat} (h : w.ρ[n]? = some a) : Rep w (.ref a) (.cell n)
inductive RepL : Wd → List V → List D → Prop
  | nil {w : Wd} : RepL w [] []
  | cons {w : Wd} {v : V} {d : D} {vs : List V} {ds : List D} (h : Rep w v d) (t : RepL w vs ds) : RepL w (v :: vs) (d :: ds)
end
inductive RepK : Wd → List (Key × V) → List (Key × D) → Prop
  | nil {w : Wd} : RepK w [] []
  | cons {w : Wd} {k : Key} {v : V} {d : D} {vs : List (Key × V)} {ds : List (Key × D)} (h : Rep K w v d) (t : RepK w vs ds) : RepK w ((k, v) :: vs) ((k, d) :: ds)
def CellIs (w : Wd) (H : Hp) (a : Addr) : Cell → Prop
  | .lst ds => ∃ vs, H a = some (.lst vs) ∧ RepL K w vs ds
  | .dct kvs => ∃ vs, H a = some (.dK vs) ∧ RepK K w vs kvs
structure RS (w : Wd) (H : Hp) (σ : L2.St) (s : S) : Prop where
  sub : ∀ a o, w.F a = some o → H a = some o
  len : σ.length = s.loc.length
  loc : ∀ (i : Nat) d, s.loc[i]? = some (some d) → ∃ v, σ[i]? = some (some v) ∧ Rep K w v d
  cl : w.ρ.length = s.vh.length
  nd : w.ρ.Nodup
  out : ∀ a ∈ w.ρ, w.F a = none
  cells : ∀ (n : Nat) a c, w.ρ[n]? = some a → s.vh[n]? = some c → CellIs K w H a c
end
section
variable {K : PySem.W.Frag} {w w' : Wd} {H H' : Hp} {σ : L2.St} {s s' : S}
theorem sqT_up {F F' : Hp} (h : ∀ a o, F a = some o → F' a = some o) {a : Addr} {vs : List V} (x : SqT K F a vs) : SqT K F' a vs := by
  rcases x with (x | ⟨o, x⟩) | x
  · exact .inl (.inl (h _ _ x))
  · exact .inl (.inr ⟨o, h _ _ x⟩)
  · exact .inr x
theorem rd_up {F F' : Hp} (h : ∀ a o, F a = some o → F' a = some o) {a : Addr} {u : HO} (x : L2.Rd F a u) : L2.Rd F' a u := by
  rcases x with x | ⟨o, x⟩
  · exact .inl (h _ _ x)
  · exact .inr ⟨o, h _ _ x⟩
theorem sqL_up {F F' : Hp} (h : ∀ a o, F a = some o → F' a = some o) {a : Addr} {vs : List V} (x : SqL K F a vs) : SqL K F' a vs := by
  rcases x with (x | ⟨o, x⟩) | x
  · exact .inl (.inl (h _ _ x))
  · exact .inl (.inr ⟨o, h _ _ x⟩)
  · exact .inr x
mutual
theorem Rep.upW (l : w.le w') : ∀ {v : V} {d : D}, Rep K w v d → Rep K w' v d
  | _, _, .non => .non
  | _, _, .bl b => .bl b
  | _, _, .int i => .int i
  | _, _, .str x => .str x
  | _, _, .ref a => .ref a
  | _, _, .tup h t => .tup (sqT_up l.2 h) (RepL.upW l t)
  | _, _, .lst h t => .lst (sqL_up l.2 h) (RepL.upW l t)
  | _, _, .cell h => .cell (l.1 _ _ h)
theorem RepL.upW (l : w.le w') : ∀ {vs : List V} {ds : List D}, RepL K w vs ds → RepL K w' vs ds
  | _, _, .nil => .nil
  | _, _, .cons h t => .cons (Rep.upW l h) (RepL.upW l t)
end
theorem RepK.upW (l : w.le w') : ∀ {vs : List (Key × V)} {ds : List (Key × D)}, RepK K w vs ds → RepK K w' vs ds
  | _, _, .nil => .nil
  | _, _, .cons h t => .cons (h.upW l) (RepK.upW l t)
theorem RepL.length : ∀ {vs : List V} {ds : List D}, RepL K w vs ds → vs.length = ds.length
  | _, _, .nil => rfl
  | _, _, .cons _ t => by simp only [List.length_cons]; rw [RepL.length t]
theorem RepL.get : ∀ {vs : List V} {ds : List D} {i : Nat} {d : D}, RepL K w vs ds → ds[i]? = some d → ∃ v, vs[i]? = some v ∧ Rep K w v d
  | _, _, i, d, .nil, e => by simp at e
  | _, _, 0, d, .cons h t, e => by simp at e; subst e; exact ⟨_, rfl, h⟩
  | _, _, i + 1, d, .cons h t, e => by
    obtain ⟨v, h1, h2⟩ := RepL.get (i := i) (d := d) t (by simpa using e)
    exact ⟨v, by simpa using h1, h2⟩
theorem RepL.get' : ∀ {vs : List V} {ds : List D} {i : Nat} {v : V}, RepL K w vs ds → vs[i]? = some v → ∃ d, ds[i]? = some d ∧ Rep K w v d
  | _, _, i, d, .nil, e => by simp at e
  | _, _, 0, d, .cons h t, e => by simp at e; subst e; exact ⟨_, rfl, h⟩
  | _, _, i + 1, d, .cons h t, e => by
    obtain ⟨v, h1, h2⟩ := RepL.get' (i := i) (v := d) t (by simpa using e)
    exact ⟨v, by simpa using h1, h2⟩
theorem RepL.append : ∀ {vs us : List V} {ds es : List D}, RepL K w vs ds → RepL K w us es → RepL K w (vs ++ us) (ds ++ es)
  | _, _, _, _, .nil, s => s
  | _, _, _, _, .cons r t, s => .cons r (RepL.append t s)
theorem RepL.take : ∀ {vs : List V} {ds : List D} (n : Nat), RepL K w vs ds → RepL K w (vs.take n) (ds.take n)
  | _, _, 0, _ => .nil
  | _, _, _ + 1, .nil => .nil
  | _, _, n + 1, .cons r t => .cons r (RepL.take n t)
theorem RepL.drop : ∀ {vs : List V} {ds : List D} (n : Nat), RepL K w vs ds → RepL K w (vs.drop n) (ds.drop n)
  | _, _, 0, r => r
  | _, _, _ + 1, .nil => .nil
  | _, _, n + 1, .cons _ t => RepL.drop n t
theorem RepL.set {v : V} {d : D} (r : Rep K w v d) : ∀ {vs : List V} {ds : List D} (i : Nat), RepL K w vs ds → RepL K w (vs.set i v) (ds.set i d)
  | _, _, _, .nil => .nil
  | _, _, 0, .cons _ t => .cons r t
  | _, _, i + 1, .cons q t => .cons q (RepL.set r i t)
theorem CellIs.upW (l : w.le w') {a : Addr} {c : Cell} (e : H' a = H a) (h : CellIs K w H a c) : CellIs K w' H' a c := by
  cases c with
  | lst ds => obtain ⟨vs, h1, h2⟩ := h; exact ⟨vs, by rw [e]; exact h1, h2.upW l⟩
  | dct kvs => obtain ⟨vs, h1, h2⟩ := h; exact ⟨vs, by rw [e]; exact h1, h2.upW l⟩
theorem CellIs.there {a : Addr} {c : Cell} (h : CellIs K w H a c) : ∃ o, H a = some o := by
  cases c with
  | lst ds => obtain ⟨vs, h1, _⟩ := h; exact ⟨_, h1⟩
  | dct kvs => obtain ⟨vs, h1, _⟩ := h; exact ⟨_, h1⟩
theorem RS.cellOf (R : RS K w H σ s) {n : Nat} {a : Addr} (h : w.ρ[n]? = some a) : ∃ c, s.vh[n]? = some c ∧ CellIs K w H a c := by
  have hn : n < w.ρ.length := (List.getElem?_eq_some_iff.mp h).1
  have hm : n < s.vh.length := by rw [← R.cl]; exact hn
  exact ⟨s.vh[n], List.getElem?_eq_getElem hm, R.cells n a _ h (List.getElem?_eq_getElem hm)⟩
theorem RS.addrOf (R : RS K w H σ s) {n : Nat} {c : Cell} (h : s.vh[n]? = some c) : ∃ a, w.ρ[n]? = some a ∧ CellIs K w H a c := by
  have hn : n < s.vh.length := (List.getElem?_eq_some_iff.mp h).1
  have hm : n < w.ρ.length := by rw [R.cl]; exact hn
  exact ⟨w.ρ[n], List.getElem?_eq_getElem hm, R.cells n _ _ (List.getElem?_eq_getElem hm) h⟩
theorem RS.fresh (R : RS K w H σ s) {p : Addr} (hp : H p = none) : w.F p = none ∧ p ∉ w.ρ := by
  refine ⟨?_, fun hm => ?_⟩
  · cases q : w.F p with
    | none => rfl
    | some o => rw [R.sub p o q] at hp; cases hp
  · obtain ⟨n, hn, e⟩ := List.mem_iff_getElem.mp hm
    obtain ⟨c, _, hc⟩ := R.cellOf (n := n) (a := p) (by rw [List.getElem?_eq_getElem hn, e])
    obtain ⟨o, ho⟩ := hc.there
    rw [ho] at hp; cases hp
theorem RS.ne (R : RS K w H σ s) {p a : Addr} {n : Nat} (hp : H p = none) (h : w.ρ[n]? = some a) : a ≠ p := by
  intro e; subst e
  exact (R.fresh hp).2 (List.mem_of_getElem? h)
/-- something new is laid, that will not change -/
def Wd.frz (w : Wd) (p : Addr) (o : HO) : Wd := ⟨w.ρ, upd w.F p o⟩
theorem Wd.frz_le {p : Addr} {o : HO} (h : w.F p = none) : w.le (w.frz p o) := ⟨fun _ _ e => e, fun a q e => by
  show upd w.F p o a = some q
  rw [upd_ne (ne_of_none e h)]; exact e⟩
theorem RS.lay (R : RS K w H σ s) {p : Addr} {o : HO} (hp : H p = none) : RS K (w.frz p o) (upd H p o) σ s := by
  have f := R.fresh hp
  have le := Wd.frz_le (o := o) f.1
  refine ⟨fun a q e => ?_, R.len, fun i d e => ?_, R.cl, R.nd, fun a ha => ?_, fun n a c e1 e2 => ?_⟩
  · have e : upd w.F p o a = some q := e
    by_cases h : a = p
    · subst h; rw [upd_same] at e ⊢; exact e
    · rw [upd_ne h] at e ⊢; exact R.sub a q e
  · obtain ⟨v, h1, h2⟩ := R.loc i d e
    exact ⟨v, h1, h2.upW le⟩
  · show upd w.F p o a = none
    rw [upd_ne (fun (e : a = p) => f.2 (e ▸ ha))]; exact R.out a ha
  · exact (R.cells n a c e1 e2).upW le (upd_ne (R.ne hp e1))
/-- something new is laid that stands by itself (a cell) -/
def Wd.own (w : Wd) (p : Addr) : Wd := ⟨w.ρ ++ [p], w.F⟩
theorem Wd.own_le {p : Addr} : w.le (w.own p) := ⟨fun n a e => by
  show (w.ρ ++ [p])[n]? = some a
  rw [List.getElem?_append_left (List.getElem?_eq_some_iff.mp e).1]; exact e, fun _ _ e => e⟩
theorem RS.addCell (R : RS K w H σ s) {p : Addr} {c : Cell} (hf : w.F p = none) (hr : p ∉ w.ρ) (hc : CellIs K w H p c) : RS K (w.own p) H σ { s with vh := s.vh ++ [c] } := by
  refine ⟨R.sub, R.len, fun i d e => ?_, ?_, ?_, fun a ha => ?_, fun n a c' e1 e2 => ?_⟩
  · obtain ⟨v, h1, h2⟩ := R.loc i d e
    exact ⟨v, h1, h2.upW Wd.own_le⟩
  · show (w.ρ ++ [p]).length = (s.vh ++ [c]).length
    rw [List.length_append, List.length_append, R.cl]; rfl
  · show (w.ρ ++ [p]).Nodup
    rw [List.nodup_append]
    refine ⟨R.nd, by simp, fun a ha b hb => ?_⟩
    rw [List.mem_singleton] at hb; subst hb
    intro e; subst e; exact hr ha
  · rcases List.mem_append.mp ha with h | h
    · exact R.out a h
    · rw [List.mem_singleton] at h; subst h; exact hf
  · have e1 : (w.ρ ++ [p])[n]? = some a := e1
    have e2 : (s.vh ++ [c])[n]? = some c' := e2
    by_cases hn : n < w.ρ.length
    · rw [List.getElem?_append_left hn] at e1
      rw [List.getElem?_append_left (by rw [← R.cl]; exact hn)] at e2
      exact (R.cells n a c' e1 e2).upW Wd.own_le rfl
    · have hn' : n < w.ρ.length + 1 := by
        have := (List.getElem?_eq_some_iff.mp e1).1
        rw [List.length_append] at this; exact this
      have en : n = w.ρ.length := by omega
      subst en
      rw [List.getElem?_append_right (Nat.le_refl _), Nat.sub_self] at e1
      rw [R.cl, List.getElem?_append_right (Nat.le_refl _), Nat.sub_self] at e2
      cases e1; cases e2
      exact hc.upW Wd.own_le rfl
/-- a cell changes -/
theorem RS.setCell (R : RS K w H σ s) {n : Nat} {a : Addr} {c : Cell} {o : HO} (h : w.ρ[n]? = some a) (hc : CellIs K w (upd H a o) a c) : RS K w (upd H a o) σ { s with vh := s.vh.set n c } := by
  have fa : w.F a = none := R.out a (List.mem_of_getElem? h)
  refine ⟨fun b q e => ?_, R.len, R.loc, by rw [List.length_set]; exact R.cl, R.nd, R.out, fun m b c' e1 e2 => ?_⟩
  · rw [upd_ne (ne_of_none e fa)]; exact R.sub b q e
  · by_cases hm : m = n
    · subst hm
      rw [h] at e1; cases e1
      have hl : m < s.vh.length := by rw [← R.cl]; exact (List.getElem?_eq_some_iff.mp h).1
      rw [List.getElem?_set_self hl] at e2; cases e2
      exact hc
    · rw [List.getElem?_set_ne (Ne.symm hm)] at e2
      have hb : b ≠ a := fun e => by
        subst e
        have h1 := List.getElem?_eq_some_iff.mp e1
        have h2 := List.getElem?_eq_some_iff.mp h
        exact hm ((List.getElem_inj R.nd).mp (h1.2.trans h2.2.symm))
      exact (R.cells m b c' e1 e2).upW (Wd.le.refl w) (upd_ne hb)
theorem RS.set (R : RS K w H σ s) {i : Nat} {v : V} {d : D} (r : Rep K w v d) : RS K w H (σ.set i (some v)) { s with loc := s.loc.set i (some d) } := by
  refine ⟨R.sub, by rw [List.length_set, List.length_set]; exact R.len, fun j e h => ?_, R.cl, R.nd, R.out, R.cells⟩
  by_cases hj : j = i
  · subst hj
    have hl : j < s.loc.length := by
      have := (List.getElem?_eq_some_iff.mp h).1
      rw [List.length_set] at this; exact this
    rw [List.getElem?_set_self hl] at h; cases h
    exact ⟨v, List.getElem?_set_self (by rw [R.len]; exact hl), r⟩
  · rw [List.getElem?_set_ne (Ne.symm hj)] at h ⊢
    exact R.loc j e h
/-- other slots, the same heap -/
theorem RS.other {σ' : L2.St} {l : List (Option D)} (R : RS K w H σ s) (hl : σ'.length = l.length) (h : ∀ (i : Nat) d, l[i]? = some (some d) → ∃ v, σ'[i]? = some (some v) ∧ Rep K w v d) : RS K w H σ' { s with loc := l } :=
  ⟨R.sub, hl, h, R.cl, R.nd, R.out, R.cells⟩
end

/-! ### from one state to a later one -/
structure Le (w : Wd) (H : Hp) (w' : Wd) (H' : Hp) : Prop where
  le : w.le w'
  keep : ∀ a o, H a = some o → a ∉ w.ρ → H' a = some o
  newρ : ∀ a, a ∈ w'.ρ → a ∈ w.ρ ∨ H a = none
  newF : ∀ a o, w'.F a = some o → w.F a = some o ∨ H a = none ∨ a ∈ w.ρ
section
variable {K : PySem.W.Frag} {w w' w1 w2 : Wd} {H H' H1 H2 : Hp} {σ : L2.St} {s : S}
theorem Le.refl (w : Wd) (H : Hp) : Le w H w H := ⟨Wd.le.refl w, fun _ _ h _ => h, fun _ h => .inl h, fun _ _ h => .inl h⟩
theorem mem_up (l : w.le w') {a : Addr} (h : a ∈ w.ρ) : a ∈ w'.ρ := by
  obtain ⟨n, hn, e⟩ := List.mem_iff_getElem.mp h
  exact List.mem_of_getElem? (l.1 n a (by rw [List.getElem?_eq_getElem hn, e]))
theorem Le.back (l : Le w H w1 H1) {a : Addr} (h : H1 a = none) : H a = none ∨ a ∈ w.ρ := by
  cases e : H a with
  | none => exact .inl rfl
  | some o =>
    by_cases ha : a ∈ w.ρ
    · exact .inr ha
    · rw [l.keep a o e ha] at h; cases h
theorem Le.trans (x : Le w H w1 H1) (y : Le w1 H1 w2 H2) : Le w H w2 H2 := by
  refine ⟨x.le.trans y.le, fun a o e h => ?_, fun a h => ?_, fun a o h => ?_⟩
  · refine y.keep a o (x.keep a o e h) fun h1 => ?_
    rcases x.newρ a h1 with h2 | h2
    · exact h h2
    · rw [e] at h2; cases h2
  · rcases y.newρ a h with h1 | h1
    · exact x.newρ a h1
    · rcases x.back h1 with h2 | h2
      · exact .inr h2
      · exact .inl h2
  · rcases y.newF a o h with h1 | h1 | h1
    · exact x.newF a o h1
    · rcases x.back h1 with h2 | h2
      · exact .inr (.inl h2)
      · exact .inr (.inr h2)
    · rcases x.newρ a h1 with h2 | h2
      · exact .inr (.inr h2)
      · exact .inr (.inl h2)
theorem Rep.up (l : Le w H w' H') {v : V} {d : D} (h : Rep K w v d) : Rep K w' v d := h.upW l.le
theorem RepL.up (l : Le w H w' H') {v : List V} {d : List D} (h : RepL K w v d) : RepL K w' v d := h.upW l.le
theorem RepK.up (l : Le w H w' H') {v : List (Key × V)} {d : List (Key × D)} (h : RepK K w v d) : RepK K w' v d := h.upW l.le
theorem Le.laid {p : Addr} {o : HO} (hp : H p = none) : Le w H w (upd H p o) := ⟨Wd.le.refl w, fun a q e _ => by rw [upd_ne (ne_of_none e hp)]; exact e, fun _ h => .inl h, fun _ _ h => .inl h⟩
theorem Le.lay {p : Addr} {o : HO} (hp : H p = none) (hf : w.F p = none) : Le w H (w.frz p o) (upd H p o) := ⟨Wd.frz_le hf, fun a q e _ => by rw [upd_ne (ne_of_none e hp)]; exact e, fun _ h => .inl h, fun a q h => by
  by_cases e : a = p
  · subst e; exact .inr (.inl hp)
  · have h : upd w.F p o a = some q := h
    rw [upd_ne e] at h; exact .inl h⟩
/-- a tracked thing that was new is frozen | becomes a cell -/
theorem Le.frz {p : Addr} {o : HO} (l : Le w H w1 H1) (hp : H p = none) (hf : w1.F p = none) : Le w H (w1.frz p o) H1 := ⟨l.le.trans (Wd.frz_le hf), l.keep, l.newρ, fun a q h => by
  by_cases e : a = p
  · subst e; exact .inr (.inl hp)
  · have h : upd w1.F p o a = some q := h
    rw [upd_ne e] at h; exact l.newF a q h⟩
theorem Le.own {p : Addr} (l : Le w H w1 H1) (hp : H p = none) : Le w H (w1.own p) H1 := ⟨l.le.trans Wd.own_le, l.keep, fun a h => by
  rcases List.mem_append.mp h with h | h
  · exact l.newρ a h
  · rw [List.mem_singleton] at h; subst h; exact .inr hp, l.newF⟩
theorem Le.write {a : Addr} {o : HO} (h : a ∈ w.ρ) : Le w H w (upd H a o) := ⟨Wd.le.refl w, fun b q e hb => by
  have hne : b ≠ a := fun (z : b = a) => hb (z ▸ h)
  rw [upd_ne hne]; exact e, fun _ h => .inl h, fun _ _ h => .inl h⟩
end
/-! ### what is wanted behind a step -/
abbrev WX := Ex → Wd → Hp → L2.St → Prop
def W0 : WX := fun _ _ _ _ => False
/-- how a result is told: by the heap ahead, the state behind -/
structure Pr (ν α : Type) where
  p : Hp → Wd → Hp → ν → α → Prop
  mono : ∀ (w : Wd) H w1 H1 w' H' v a, Le w H w1 H1 → w1.le w' → p H1 w' H' v a → p H w' H' v a
section
variable (K : PySem.W.Frag) (W : WX)
def Post {α ν : Type} (P : Pr ν α) (w : Wd) (H : Hp) (σ : L2.St) (r : Res α) (Q : ν → Hp → Prop) : Prop := match r with
  | .ok a s => ∀ w' H' v, Le w H w' H' → RS K w' H' σ s → P.p H w' H' v a → Q v H'
  | .exc e s => ∀ w' H', Le w H w' H' → RS K w' H' σ s → W e w' H' σ
  | .bad => False
/-- the reading t does what f says -/
def Fol {α ν : Type} (P : Pr ν α) (t : L2.St → Hp → (ν → Hp → Prop) → Prop) (f : M α) : Prop :=
  ∀ w H σ s Q, RS K w H σ s → Post K W P w H σ (f s) Q → t σ H Q
@[reducible] def pD : Pr V D := ⟨fun _ w _ v d => Rep K w v d, fun _ _ _ _ _ _ _ _ _ _ h => h⟩
@[reducible] def pL : Pr (List V) (List D) := ⟨fun _ w _ v d => RepL K w v d, fun _ _ _ _ _ _ _ _ _ _ h => h⟩
@[reducible] def pB : Pr Bool Bool := ⟨fun _ _ _ a b => a = b, fun _ _ _ _ _ _ _ _ _ _ h => h⟩
/-- a new object that nothing else knows -/
structure New (H : Hp) (w : Wd) (H' : Hp) (p : Addr) (c : Cell) : Prop where
  f : w.F p = none
  r : p ∉ w.ρ
  c : CellIs K w H' p c
  n : H p = none
@[reducible] def pN : Pr V Cell := ⟨fun H w H' v c => ∃ p, v = .ref p ∧ New K H w H' p c, fun w H w1 H1 w' H' v a l l' ⟨p, e, h⟩ => ⟨p, e, h.f, h.r, h.c, by
  rcases l.back h.n with z | z
  · exact z
  · exact (h.r (mem_up (l.le.trans l') z)).elim⟩⟩
end
section
variable {K : PySem.W.Frag} {W : WX} {α β ν μ : Type} {P : Pr ν α} {P2 : Pr μ β} {w w1 : Wd} {H H1 : Hp} {σ : L2.St} {s : S}
theorem Post.up {r : Res α} {Q : ν → Hp → Prop} (l : Le w H w1 H1) (h : Post K W P w H σ r Q) : Post K W P w1 H1 σ r Q := by
  cases r with
  | ok a s => exact fun w' H' v l' R p => h w' H' v (l.trans l') R (P.mono w H w1 H1 w' H' v a l l'.le p)
  | exc e s => exact fun w' H' l' R => h w' H' (l.trans l') R
  | bad => exact h
theorem Post.bnd {m : M α} {k : α → M β} {Q : ν → Hp → Prop} {Q2 : μ → Hp → Prop} (h : Post K W P2 w H σ (bnd m k s) Q2)
    (f : ∀ a s' w' H' v, Le w H w' H' → RS K w' H' σ s' → P.p H w' H' v a → Post K W P2 w' H' σ (k a s') Q2 → Q v H') : Post K W P w H σ (m s) Q := by
  unfold Fx.bnd at h
  cases e : m s with
  | ok a s' => rw [e] at h; exact fun w' H' v l R p => f a s' w' H' v l R p (h.up l)
  | exc x s' => rw [e] at h; exact h
  | bad => rw [e] at h; exact h
theorem Fol.bnd {t : L2.St → Hp → (ν → Hp → Prop) → Prop} {f : M α} {k : α → M β} {Q2 : μ → Hp → Prop} {Q : ν → Hp → Prop} (h : Fol K W P t f) (R : RS K w H σ s) (p : Post K W P2 w H σ (Fx.bnd f k s) Q2)
    (g : ∀ a s' w' H' v, Le w H w' H' → RS K w' H' σ s' → P.p H w' H' v a → Post K W P2 w' H' σ (k a s') Q2 → Q v H') : t σ H Q := h w H σ s Q R (p.bnd g)
end
end Fx

namespace Fx
open PySem PySem.Spec PyProof.Rows L2
/-! ### reading data -/
def lstOf (s : S) : D → Option (List D)
  | .lst ds => some ds
  | .cell n => match s.vh[n]? with
    | some (.lst ds) => some ds
    | _ => none
  | _ => none
def tupOf : D → Option (List D)
  | .tup ds => some ds
  | _ => none
def dctOf (s : S) : D → Option (List (Key × D))
  | .cell n => match s.vh[n]? with
    | some (.dct ds) => some ds
    | _ => none
  | _ => none
section
variable {K : PySem.W.Frag} {W : WX} {w : Wd} {H : Hp} {σ : L2.St} {s : S} {v : V} {d : D}
theorem RS.list (R : RS K w H σ s) (r : Rep K w v d) {ds : List D} (h : lstOf s d = some ds) : ∃ a vs, v = .ref a ∧ SqL K H a vs ∧ RepL K w vs ds := by
  cases r with
  | lst h1 t =>
    cases h
    exact ⟨_, _, rfl, sqL_up R.sub h1, t⟩
  | cell h1 =>
    obtain ⟨c, e, hc⟩ := R.cellOf h1
    unfold lstOf at h
    simp only [e] at h
    cases c with
    | lst xs => simp at h; subst h; obtain ⟨vs, h2, h3⟩ := hc; exact ⟨_, _, rfl, SqL.of h2, h3⟩
    | dct _ => simp at h
  | _ => simp [lstOf] at h
theorem RS.tuple (R : RS K w H σ s) (r : Rep K w v d) {ds : List D} (h : tupOf d = some ds) : ∃ a vs, v = .ref a ∧ SqT K H a vs ∧ RepL K w vs ds := by
  cases r with
  | tup h1 t =>
    cases h
    exact ⟨_, _, rfl, sqT_up R.sub h1, t⟩
  | _ => simp [tupOf] at h
theorem RS.dict (R : RS K w H σ s) (r : Rep K w v d) {ds : List (Key × D)} (h : dctOf s d = some ds) : ∃ a vs, v = .ref a ∧ H a = some (.dK vs) ∧ RepK K w vs ds := by
  cases r with
  | cell h1 =>
    obtain ⟨c, e, hc⟩ := R.cellOf h1
    unfold dctOf at h
    simp only [e] at h
    cases c with
    | lst xs => simp at h
    | dct _ => simp at h; subst h; obtain ⟨vs, h2, h3⟩ := hc; exact ⟨_, _, rfl, h2, h3⟩
  | _ => simp [dctOf] at h
/-- a new list that will not change -/
theorem RS.newL (R : RS K w H σ s) {p : Addr} {vs : List V} {ds : List D} (hp : H p = none) (r : RepL K w vs ds) :
    Le w H (w.frz p (.lst vs)) (upd H p (.lst vs)) ∧ RS K (w.frz p (.lst vs)) (upd H p (.lst vs)) σ s ∧ Rep K (w.frz p (.lst vs)) (.ref p) (.lst ds) := by
  have l := Le.lay (o := .lst vs) hp (R.fresh hp).1
  exact ⟨l, R.lay hp, .lst (SqL.of upd_same) (r.up l)⟩
theorem RS.newT (R : RS K w H σ s) {p : Addr} {vs : List V} {ds : List D} (hp : H p = none) (r : RepL K w vs ds) :
    Le w H (w.frz p (.tup vs)) (upd H p (.tup vs)) ∧ RS K (w.frz p (.tup vs)) (upd H p (.tup vs)) σ s ∧ Rep K (w.frz p (.tup vs)) (.ref p) (.tup ds) := by
  have l := Le.lay (o := .tup vs) hp (R.fresh hp).1
  exact ⟨l, R.lay hp, .tup (.inl (.inl upd_same)) (r.up l)⟩
/-- a new object, its use still open -/
theorem RS.laid (R : RS K w H σ s) {p : Addr} {o : HO} (hp : H p = none) : RS K w (upd H p o) σ s := by
  have f := R.fresh hp
  refine ⟨fun a q e => ?_, R.len, R.loc, R.cl, R.nd, R.out, fun n a c e1 e2 => (R.cells n a c e1 e2).upW (Wd.le.refl w) (upd_ne (R.ne hp e1))⟩
  rw [upd_ne (ne_of_none e f.1)]; exact R.sub a q e
end
/-! ### the judgements -/
variable {X : Cx} {W : WX}
def DE (X : Cx) (W : WX) (e : Expr) (f : M D) : Prop := ∃ t, PE X e t ∧ Fol X.K W (pD X.K) t f
def DN (X : Cx) (W : WX) (e : Expr) (f : M Cell) : Prop := ∃ t, PE X e t ∧ Fol X.K W (pN X.K) t f
def DT (X : Cx) (W : WX) (e : Expr) (f : M Bool) : Prop := ∃ t, PT X e t ∧ Fol X.K W pB t f
def DA (X : Cx) (W : WX) (es : List Expr) (f : M (List D)) : Prop := ∃ t, PA X es t ∧ Fol X.K W (pL X.K) t f
section
variable {K : PySem.W.Frag} {α ν : Type} {P : Pr ν α} {w : Wd} {σ : L2.St} {s : S} {H : Hp}
theorem Post.here {a : α} {v : ν} {Q : ν → Hp → Prop} (h : Post K W P w H σ (ret a s) Q) (R : RS K w H σ s) (p : P.p H w H v a) : Q v H := h w H v (Le.refl w H) R p
end
/-! ### names, constants -/
def getL (i : Nat) : M D := fun s => match s.loc[i]? with
  | some (some d) => .ok d s
  | _ => .bad
theorem de_var {i : Nat} {e : Expr} (h : PE X e (tVar i)) : DE X W e (getL i) := by
  refine ⟨_, h, fun w H σ s Q R p => ?_⟩
  unfold getL at p
  split at p
  · next d hd =>
    obtain ⟨v, h1, h2⟩ := R.loc i d hd
    exact ⟨v, h1, Post.here p R h2⟩
  · exact p.elim
theorem de_v (i : Nat) {x : Str} {pos : Pos} (hN : X.N[i]? = some x := by rfl) (hv : Vis X.env.scope x := by first | exact Or.inl rfl | exact Or.inr (Or.inl rfl) | exact Or.inr (Or.inr rfl)) (hd : (x == ("__debug__" : Str)) = false := by decide)
    (hcd : (x == ("__classdict__" : Str)) = false := by decide) : DE X W (.Name x pos) (getL i) := de_var (pe_var hN hv hd hcd)
theorem de_c {e : Expr} {v : V} {d : D} (h : PE X e (tC v)) (r : ∀ w, Rep X.K w v d) : DE X W e (ret d) :=
  ⟨_, h, fun w H σ s Q R p => Post.here p R (r w)⟩
theorem de_int {i j pos} : DE X W (.Constant (.int i) j pos) (ret (.int i)) := de_c pe_int fun _ => .int i
theorem de_bl {b j pos} : DE X W (.Constant (.bool b) j pos) (ret (.bl b)) := de_c pe_bl fun _ => .bl b
theorem de_non {j pos} : DE X W (.Constant .none j pos) (ret .non) := de_c pe_non fun _ => .non
theorem de_str {x j pos} : DE X W (.Constant (.str x) j pos) (ret (.str x)) := de_c pe_str fun _ => .str x
/-- a module's constant -/
theorem de_gI {x : Str} {i : Int} {t : Tok} {pos : Pos} (hg : Gl X x) (hm : X.mg x = some (.int i t)) (hd : (x == ("__debug__" : Str)) = false := by decide) : DE X W (.Name x pos) (ret (.int i)) :=
  de_c (pe_glob (v := .int i) hg hm ⟨t, rfl⟩ hd) fun _ => .int i
theorem de_gS {x z : Str} {t : Tok} {pos : Pos} (hg : Gl X x) (hm : X.mg x = some (.str z t)) (hd : (x == ("__debug__" : Str)) = false := by decide) : DE X W (.Name x pos) (ret (.str z)) :=
  de_c (pe_glob (v := .str z) hg hm ⟨t, rfl⟩ hd) fun _ => .str z
/-! ### operators -/
def ROp (X : Cx) (r : R2) (g : D → D → M D) : Prop := ∀ (W : WX) w H σ s x y d e Q, RS X.K w H σ s → Rep X.K w x d → Rep X.K w y e → Post X.K W (pD X.K) w H σ (g d e s) Q → r x y H Q
theorem de_op {op : Operator} {r : R2} {g : D → D → M D} {a b : Expr} {fa fb : M D} {pos : Pos} (ho : OpR X (binaryOp op) r) (hr : ROp X r g) (ha : DE X W a fa) (hb : DE X W b fb) :
    DE X W (.BinOp a op b pos) (bnd fa fun d => bnd fb fun e => g d e) := by
  obtain ⟨ta, pa, ra⟩ := ha
  obtain ⟨tb, pb, rb⟩ := hb
  refine ⟨tOp r ta tb, pe_op ho pa pb, fun w H σ s Q R p => ?_⟩
  refine ra.bnd R p fun d s1 w1 H1 v1 l1 R1 r1 p1 => ?_
  refine rb.bnd R1 p1 fun e s2 w2 H2 v2 l2 R2 r2 p2 => ?_
  exact hr W w2 H2 σ s2 v1 v2 d e Q R2 (Rep.up l2 r1) r2 p2
theorem de_cmp {op : CmpOp} {r : R2} {g : D → D → M D} {a b : Expr} {fa fb : M D} {pos : Pos} (ho : OpR X (compareOp op) r) (hr : ROp X r g) (ha : DE X W a fa) (hb : DE X W b fb) (hm : behindInMarks op b = false := by first | exact nobehind _ (by decide) (by decide) | rfl) :
    DE X W (.Compare a [op] [b] pos) (bnd fa fun d => bnd fb fun e => g d e) := by
  obtain ⟨ta, pa, ra⟩ := ha
  obtain ⟨tb, pb, rb⟩ := hb
  refine ⟨tOp r ta tb, pe_cmpR ho pa pb hm, fun w H σ s Q R p => ?_⟩
  refine ra.bnd R p fun d s1 w1 H1 v1 l1 R1 r1 p1 => ?_
  refine rb.bnd R1 p1 fun e s2 w2 H2 v2 l2 R2 r2 p2 => ?_
  exact hr W w2 H2 σ s2 v1 v2 d e Q R2 (Rep.up l2 r1) r2 p2
def asB : D → M Bool
  | .bl b => ret b
  | _ => fail
theorem asB_fol {K : PySem.W.Frag} {w : Wd} {H : Hp} {σ : L2.St} {s : S} {v : V} {d : D} {Q : Bool → Hp → Prop} (R : RS K w H σ s) (r : Rep K w v d) (p : Post K W pB w H σ (asB d s) Q) : ∃ k, v = .bl k ∧ Q k H := by
  cases r with
  | bl b => exact ⟨b, rfl, Post.here p R rfl⟩
  | _ => exact p.elim
theorem dt_cmp {op : CmpOp} {r : R2} {g : D → D → M D} {a b : Expr} {fa fb : M D} {pos : Pos} (ho : OpR X (compareOp op) r) (hr : ROp X r g) (ha : DE X W a fa) (hb : DE X W b fb) (hm : behindInMarks op b = false := by first | exact nobehind _ (by decide) (by decide) | rfl) :
    DT X W (.Compare a [op] [b] pos) (bnd (bnd fa fun d => bnd fb fun e => g d e) asB) := by
  obtain ⟨ta, pa, ra⟩ := ha
  obtain ⟨tb, pb, rb⟩ := hb
  have h := de_cmp (pos := pos) ho hr ⟨ta, pa, ra⟩ ⟨tb, pb, rb⟩ hm
  refine ⟨tTest (tOp r ta tb), pt_cmpR ho pa pb hm, fun w H σ s Q R p => ?_⟩
  have key : Fol X.K W (pD X.K) (tOp r ta tb) (bnd fa fun d => bnd fb fun e => g d e) := fun w H σ s Q R p => by
    refine ra.bnd R p fun d s1 w1 H1 v1 l1 R1 r1 p1 => ?_
    refine rb.bnd R1 p1 fun e s2 w2 H2 v2 l2 R2 r2 p2 => ?_
    exact hr W w2 H2 σ s2 v1 v2 d e Q R2 (Rep.up l2 r1) r2 p2
  exact key.bnd R p fun d s1 w1 H1 v1 l1 R1 r1 p1 => asB_fol R1 r1 p1
/-- an expression that gives True or False, as a test -/
theorem dt_val {e : Expr} {f : M D} (h : DE X W e f) (he : ∀ whole, isTrue e X.env whole = (do let v ← whole; standAt e.pos; holding [v] (truthy v)) := by intro _; rfl) : DT X W e (bnd f asB) := by
  obtain ⟨t, p, r⟩ := h
  exact ⟨tB t, pt_val p he, fun w H σ s Q R p => r.bnd R p fun d s1 w1 H1 v1 l1 R1 r1 p1 => asB_fol R1 r1 p1⟩
/-! ints -/
def i2 (g : Int → Int → D) : D → D → M D
  | .int i, .int j => ret (g i j)
  | _, _ => fail
def i2c (c : Int → Int → Bool) (g : Int → Int → D) : D → D → M D
  | .int i, .int j => if c i j = true then ret (g i j) else fail
  | _, _ => fail
theorem rop_i2 {g : Int → Int → D} {g' : Int → Int → V} (h : ∀ w i j, Rep X.K w (g' i j) (g i j)) : ROp X (rI0 g') (i2 g) := fun W w H σ s x y d e Q R rx ry p => by
  cases rx with
  | int i =>
    cases ry with
    | int j => exact ⟨i, j, rfl, rfl, Post.here p R (h w i j)⟩
    | _ => exact p.elim
  | _ => exact p.elim
theorem rop_i2c {C : Int → Int → Prop} {c : Int → Int → Bool} {g : Int → Int → D} {g' : Int → Int → V} (hc : ∀ i j, c i j = true → C i j) (h : ∀ w i j, Rep X.K w (g' i j) (g i j)) : ROp X (rI C g') (i2c c g) := fun W w H σ s x y d e Q R rx ry p => by
  cases rx with
  | int i =>
    cases ry with
    | int j =>
      unfold i2c at p
      dsimp only at p
      split at p
      · next k => exact ⟨i, j, rfl, rfl, hc i j k, Post.here p R (h w i j)⟩
      · exact p.elim
    | _ => exact p.elim
  | _ => exact p.elim
theorem ROp.or {r1 r2 : R2} {g : D → D → M D} {g1 g2 : D → D → M D} (h1 : ROp X r1 g1) (h2 : ROp X r2 g2) (h : ∀ d e, g d e = g1 d e ∨ g d e = g2 d e) : ROp X (fun x y H Q => r1 x y H Q ∨ r2 x y H Q) g := fun W w H σ s x y d e Q R rx ry p => by
  rcases h d e with q | q
  · rw [q] at p; exact .inl (h1 W w H σ s x y d e Q R rx ry p)
  · rw [q] at p; exact .inr (h2 W w H σ s x y d e Q R rx ry p)
theorem opr_or {f : Value → Value → Sem Value} {r1 r2 : R2} (h1 : OpR X f r1) (h2 : OpR X f r2) : OpR X f (fun x y H Q => r1 x y H Q ∨ r2 x y H Q) := by
  intro pins s σ H x y v u Q I rx ry h
  rcases h with h | h
  · exact h1 pins s σ H x y v u Q I rx ry h
  · exact h2 pins s σ H x y v u Q I rx ry h
/-- * of two factors of together less than a hundred million bits -/
def CMulX (i j : Int) : Prop := i.natAbs.log2 + j.natAbs.log2 < 100000000
theorem CMulX.fits {i j : Int} (h : CMulX i j) : IntMulOk i j := by
  have b : ∀ x : Int, Builtin.Int.intBits x ≤ x.natAbs.log2 + 1 := fun x => by
    unfold Builtin.Int.intBits
    split <;> omega
  have b1 := b i
  have b2 := b j
  have h3 : i.natAbs.log2 + j.natAbs.log2 < 100000000 := h
  have line : bitsLine = 134217728 := by decide
  unfold IntMulOk
  intro z
  rw [Bool.and_eq_true] at z
  have y := z.2
  unfold Builtin.Int.intTooBig at y
  have x := of_decide_eq_true y
  rw [line] at x
  omega
theorem op_mulX : OpR X (binaryOp .Mult) (rI CMulX fun i j => .int (i * j)) := opI fun _ _ _ _ _ _ _ hc q => mul_int q hc.fits
def subM : D → D → M D := i2 fun i j => .int (i - j)
def mulM : D → D → M D := i2c (fun i j => decide (i.natAbs.log2 + j.natAbs.log2 < 100000000)) fun i j => .int (i * j)
def divM : D → D → M D := i2c (fun _ j => decide (0 < j) && decide (j.natAbs.log2 < 9000)) fun i j => .int (i / j)
def modM : D → D → M D := i2c (fun _ j => decide (0 < j)) fun i j => .int (i % j)
def powM : D → D → M D := i2c (fun i j => decide (0 ≤ j) && (decide (j ≤ 1000000) && decide (i.natAbs < 2 ^ 64))) fun i j => .int (i ^ j.toNat)
def shlM : D → D → M D := i2c (fun i j => decide (0 ≤ j) && (decide (j ≤ 1000000) && decide (i.natAbs < 2 ^ 64))) fun i j => .int (i * 2 ^ j.toNat)
def shrM : D → D → M D := i2c (fun _ j => decide (0 ≤ j)) fun i j => .int (i / 2 ^ j.toNat)
def andM : D → D → M D := i2 fun i j => .int (Builtin.bitAnd i j)
def orM : D → D → M D := i2 fun i j => .int (Builtin.bitOr i j)
def xorM : D → D → M D := i2 fun i j => .int (Builtin.bitXor i j)
theorem rop_sub : ROp X (rI0 fun i j => .int (i - j)) subM := rop_i2 fun _ _ _ => .int _
theorem rop_mul : ROp X (rI CMulX fun i j => .int (i * j)) mulM := rop_i2c (fun i j h => (of_decide_eq_true h : i.natAbs.log2 + j.natAbs.log2 < 100000000)) fun _ _ _ => .int _
theorem rop_div : ROp X (rI CDivW fun i j => .int (i / j)) divM := rop_i2c (fun i j h => by
  rw [Bool.and_eq_true, decide_eq_true_eq, decide_eq_true_eq] at h; exact h) fun _ _ _ => .int _
theorem rop_mod : ROp X (rI (fun _ j => 0 < j) fun i j => .int (i % j)) modM := rop_i2c (fun i j h => of_decide_eq_true h) fun _ _ _ => .int _
theorem rop_pow : ROp X (rI CPow fun i j => .int (i ^ j.toNat)) powM := rop_i2c (fun i j h => by
  rw [Bool.and_eq_true, Bool.and_eq_true, decide_eq_true_eq, decide_eq_true_eq, decide_eq_true_eq] at h; exact h) fun _ _ _ => .int _
theorem rop_shl : ROp X (rI CPow fun i j => .int (i * 2 ^ j.toNat)) shlM := rop_i2c (fun i j h => by
  rw [Bool.and_eq_true, Bool.and_eq_true, decide_eq_true_eq, decide_eq_true_eq, decide_eq_true_eq] at h; exact h) fun _ _ _ => .int _
theorem rop_shr : ROp X (rI (fun _ j => 0 ≤ j) fun i j => .int (i / 2 ^ j.toNat)) shrM := rop_i2c (fun i j h => of_decide_eq_true h) fun _ _ _ => .int _
theorem rop_and : ROp X (rI0 fun i j => .int (Builtin.bitAnd i j)) andM := rop_i2 fun _ _ _ => .int _
theorem rop_or : ROp X (rI0 fun i j => .int (Builtin.bitOr i j)) orM := rop_i2 fun _ _ _ => .int _
theorem rop_xor : ROp X (rI0 fun i j => .int (Builtin.bitXor i j)) xorM := rop_i2 fun _ _ _ => .int _
section
variable {a b : Expr} {fa fb : M D} {pos : Pos}
theorem de_sub (ha : DE X W a fa) (hb : DE X W b fb) : DE X W (.BinOp a .Sub b pos) (bnd fa fun d => bnd fb fun e => subM d e) := de_op op_sub rop_sub ha hb
theorem de_mul (ha : DE X W a fa) (hb : DE X W b fb) : DE X W (.BinOp a .Mult b pos) (bnd fa fun d => bnd fb fun e => mulM d e) := de_op op_mulX rop_mul ha hb
theorem de_div (ha : DE X W a fa) (hb : DE X W b fb) : DE X W (.BinOp a .FloorDiv b pos) (bnd fa fun d => bnd fb fun e => divM d e) := de_op op_fdivW rop_div ha hb
theorem de_mod (ha : DE X W a fa) (hb : DE X W b fb) : DE X W (.BinOp a .Mod b pos) (bnd fa fun d => bnd fb fun e => modM d e) := de_op op_mod rop_mod ha hb
theorem de_pow (ha : DE X W a fa) (hb : DE X W b fb) : DE X W (.BinOp a .Pow b pos) (bnd fa fun d => bnd fb fun e => powM d e) := de_op op_pow rop_pow ha hb
theorem de_shl (ha : DE X W a fa) (hb : DE X W b fb) : DE X W (.BinOp a .LShift b pos) (bnd fa fun d => bnd fb fun e => shlM d e) := de_op op_shl rop_shl ha hb
theorem de_shr (ha : DE X W a fa) (hb : DE X W b fb) : DE X W (.BinOp a .RShift b pos) (bnd fa fun d => bnd fb fun e => shrM d e) := de_op op_shr rop_shr ha hb
theorem de_band (ha : DE X W a fa) (hb : DE X W b fb) : DE X W (.BinOp a .BitAnd b pos) (bnd fa fun d => bnd fb fun e => andM d e) := de_op op_and rop_and ha hb
theorem de_bxor (ha : DE X W a fa) (hb : DE X W b fb) : DE X W (.BinOp a .BitXor b pos) (bnd fa fun d => bnd fb fun e => xorM d e) := de_op op_xor rop_xor ha hb
theorem de_bor (ha : DE X W a fa) (hb : DE X W b fb) : DE X W (.BinOp a .BitOr b pos) (bnd fa fun d => bnd fb fun e => orM d e) := de_op op_or rop_or ha hb
end
/-! ### and, or, not, if else -/
section
variable {a b : Expr} {rest : List Expr} {fa fb : M D} {ta tb : M Bool} {pos : Pos}
def andT (p q : M Bool) : M Bool := bnd p fun c => if c = true then q else ret false
def orT (p q : M Bool) : M Bool := bnd p fun c => if c = true then ret true else q
def notT (p : M Bool) : M Bool := bnd p fun c => ret (!c)
def andV (p q : M D) : M D := bnd p fun d => bnd (asB d) fun c => if c = true then q else ret (.bl false)
def orV (p q : M D) : M D := bnd p fun d => bnd (asB d) fun c => if c = true then ret (.bl true) else q
def notV (p : M D) : M D := bnd p fun d => bnd (asB d) fun c => ret (.bl (!c))
def iteM (c : M Bool) (p q : M D) : M D := bnd c fun b => if b = true then p else q
/-- and, or within a test -/
def DW (X : Cx) (W : WX) (e : Expr) (f : M Bool) : Prop := ∃ t, PW X e t ∧ Fol X.K W pB t f
theorem dw_and1 (h : DT X W a ta) : DW X W (.BoolOp .And [a] pos) ta := let ⟨t, p, r⟩ := h; ⟨t, pw_and1 p, r⟩
theorem dw_or1 (h : DT X W a ta) : DW X W (.BoolOp .Or [a] pos) ta := let ⟨t, p, r⟩ := h; ⟨t, pw_or1 p, r⟩
theorem dw_and (h : DT X W a ta) (k : DW X W (.BoolOp .And (b :: rest) pos) tb) : DW X W (.BoolOp .And (a :: b :: rest) pos) (andT ta tb) := by
  obtain ⟨t, p, r⟩ := h
  obtain ⟨u, q, k⟩ := k
  refine ⟨_, pw_and p q, fun w H σ s Q R z => ?_⟩
  refine r.bnd R z fun c s1 w1 H1 v1 l1 R1 r1 p1 => ?_
  cases r1
  cases c with
  | true => exact k w1 H1 σ s1 Q R1 p1
  | false => exact Post.here p1 R1 rfl
theorem dw_or (h : DT X W a ta) (k : DW X W (.BoolOp .Or (b :: rest) pos) tb) : DW X W (.BoolOp .Or (a :: b :: rest) pos) (orT ta tb) := by
  obtain ⟨t, p, r⟩ := h
  obtain ⟨u, q, k⟩ := k
  refine ⟨_, pw_or p q, fun w H σ s Q R z => ?_⟩
  refine r.bnd R z fun c s1 w1 H1 v1 l1 R1 r1 p1 => ?_
  cases r1
  cases c with
  | false => exact k w1 H1 σ s1 Q R1 p1
  | true => exact Post.here p1 R1 rfl
theorem dt_w {e : Expr} {f : M Bool} (h : DW X W e f) : DT X W e f := let ⟨t, p, r⟩ := h; ⟨t, p.pt, r⟩
theorem dt_not (h : DT X W a ta) : DT X W (.UnaryOp .Not a pos) (notT ta) := by
  obtain ⟨t, p, r⟩ := h
  refine ⟨_, pt_not p, fun w H σ s Q R z => ?_⟩
  refine r.bnd R z fun c s1 w1 H1 v1 l1 R1 r1 p1 => ?_
  cases r1
  exact Post.here p1 R1 rfl
theorem asB_bnd {K : PySem.W.Frag} {α ν : Type} {P : Pr ν α} {w : Wd} {H : Hp} {σ : L2.St} {s : S} {v : V} {d : D} {k : Bool → M α} {Q : ν → Hp → Prop} (r : Rep K w v d) (p : Post K W P w H σ (bnd (asB d) k s) Q) : ∃ c, v = .bl c ∧ Post K W P w H σ (k c s) Q := by
  cases r with
  | bl b => exact ⟨b, rfl, p⟩
  | _ => exact p.elim
theorem de_one {op} (h : DE X W a fa) : DE X W (.BoolOp op [a] pos) fa := let ⟨t, p, r⟩ := h; ⟨t, pe_one p, r⟩
theorem de_and (h : DE X W a fa) (k : DE X W (.BoolOp .And (b :: rest) pos) fb) : DE X W (.BoolOp .And (a :: b :: rest) pos) (andV fa fb) := by
  obtain ⟨t, p, r⟩ := h
  obtain ⟨u, q, k⟩ := k
  refine ⟨_, pe_and p q, fun w H σ s Q R z => ?_⟩
  refine r.bnd R z fun d s1 w1 H1 v1 l1 R1 r1 p1 => ?_
  obtain ⟨c, e, p2⟩ := asB_bnd r1 p1
  refine ⟨c, e, ?_⟩
  cases c with
  | true => exact k w1 H1 σ s1 Q R1 p2
  | false => exact Post.here p2 R1 (Rep.bl false)
theorem de_or (h : DE X W a fa) (k : DE X W (.BoolOp .Or (b :: rest) pos) fb) : DE X W (.BoolOp .Or (a :: b :: rest) pos) (orV fa fb) := by
  obtain ⟨t, p, r⟩ := h
  obtain ⟨u, q, k⟩ := k
  refine ⟨_, pe_or p q, fun w H σ s Q R z => ?_⟩
  refine r.bnd R z fun d s1 w1 H1 v1 l1 R1 r1 p1 => ?_
  obtain ⟨c, e, p2⟩ := asB_bnd r1 p1
  refine ⟨c, e, ?_⟩
  cases c with
  | false => exact k w1 H1 σ s1 Q R1 p2
  | true => exact Post.here p2 R1 (Rep.bl true)
theorem de_not (h : DE X W a fa) : DE X W (.UnaryOp .Not a pos) (notV fa) := by
  obtain ⟨t, p, r⟩ := h
  refine ⟨_, pe_not p, fun w H σ s Q R z => ?_⟩
  refine r.bnd R z fun d s1 w1 H1 v1 l1 R1 r1 p1 => ?_
  obtain ⟨c, e, p2⟩ := asB_bnd r1 p1
  exact ⟨c, e, Post.here p2 R1 (Rep.bl (!c))⟩
theorem de_ite {c : Expr} (h : DT X W c ta) (ha : DE X W a fa) (hb : DE X W b fb) : DE X W (.IfExp c a b pos) (iteM ta fa fb) := by
  obtain ⟨t, p, r⟩ := h
  obtain ⟨u, pa, ra⟩ := ha
  obtain ⟨u', pb, rb⟩ := hb
  refine ⟨_, pe_ifExp p pa pb, fun w H σ s Q R z => ?_⟩
  refine r.bnd R z fun c s1 w1 H1 v1 l1 R1 r1 p1 => ?_
  cases r1
  cases c with
  | true => exact ra w1 H1 σ s1 Q R1 p1
  | false => exact rb w1 H1 σ s1 Q R1 p1
end
/-! ### lists of arguments, displays -/
section
variable {a : Expr} {es : List Expr} {fa : M D} {fs : M (List D)} {pos : Pos}
def consM (p : M D) (q : M (List D)) : M (List D) := bnd p fun d => bnd q fun ds => ret (d :: ds)
theorem da_nil : DA X W [] (ret []) := ⟨_, pa_nil, fun w H σ s Q R p => Post.here p R (RepL.nil (K := X.K) (w := w))⟩
theorem da_cons (h : DE X W a fa) (k : DA X W es fs) (hst : starEach (a :: es) X.env = (false, eval a X.env) :: starEach es X.env := by rfl) : DA X W (a :: es) (consM fa fs) := by
  obtain ⟨t, p, r⟩ := h
  obtain ⟨u, q, k⟩ := k
  refine ⟨_, pa_cons p q hst, fun w H σ s Q R z => ?_⟩
  refine r.bnd R z fun d s1 w1 H1 v1 l1 R1 r1 p1 => ?_
  refine k.bnd R1 p1 fun ds s2 w2 H2 v2 l2 R2 r2 p2 => ?_
  exact Post.here p2 R2 (RepL.cons (Rep.up l2 r1) r2)
def lenOk (n : Nat) : Bool := decide (n ≤ sizeLine)
def tupM (q : M (List D)) : M D := bnd q fun ds => if lenOk ds.length = true then ret (.tup ds) else fail
def lstN (q : M (List D)) : M Cell := bnd q fun ds => if lenOk ds.length = true then ret (.lst ds) else fail
theorem de_tup {x1} (h : DA X W es fs) : DE X W (.Tuple es x1 pos) (tupM fs) := by
  obtain ⟨t, p, r⟩ := h
  refine ⟨_, pe_tup p, fun w H σ s Q R z => ?_⟩
  refine r.bnd R z fun ds s1 w1 H1 v1 l1 R1 r1 p1 => ?_
  split at p1
  · next k =>
    refine ⟨by rw [RepL.length r1]; exact of_decide_eq_true k, fun q hq => ?_⟩
    obtain ⟨l2, R2, r2⟩ := R1.newT hq r1
    exact p1 _ _ _ l2 R2 r2
  · exact p1.elim
theorem dn_lst (h : DA X W es fs) : DN X W (.List es pos) (lstN fs) := by
  obtain ⟨t, p, r⟩ := h
  refine ⟨_, pe_lst p, fun w H σ s Q R z => ?_⟩
  refine r.bnd R z fun ds s1 w1 H1 v1 l1 R1 r1 p1 => ?_
  split at p1
  · next k =>
    refine ⟨by rw [RepL.length r1]; exact of_decide_eq_true k, fun q hq => ?_⟩
    exact p1 w1 _ _ (Le.laid hq) (R1.laid hq) ⟨q, rfl, (R1.fresh hq).1, (R1.fresh hq).2, ⟨_, upd_same, r1⟩, hq⟩
  · exact p1.elim
/-- a new list, never changed from here on -/
def frzM (m : M Cell) : M D := bnd m fun c => match c with
  | .lst ds => ret (.lst ds)
  | .dct _ => fail
/-- a new list or dict that stands by itself -/
def ownM (m : M Cell) : M D := bnd m fun c s => .ok (.cell s.vh.length) { s with vh := s.vh ++ [c] }
theorem RS.frz {K : PySem.W.Frag} {w : Wd} {H : Hp} {σ : L2.St} {s : S} {p : Addr} {o : HO} (R : RS K w H σ s) (h : H p = some o) (hf : w.F p = none) (hr : p ∉ w.ρ) : RS K (w.frz p o) H σ s := by
  have le := Wd.frz_le (o := o) hf
  refine ⟨fun a q e => ?_, R.len, fun i d e => ?_, R.cl, R.nd, fun a ha => ?_, fun n a c e1 e2 => ?_⟩
  · have e : upd w.F p o a = some q := e
    by_cases hh : a = p
    · subst hh; rw [upd_same] at e; cases e; exact h
    · rw [upd_ne hh] at e; exact R.sub a q e
  · obtain ⟨v, h1, h2⟩ := R.loc i d e
    exact ⟨v, h1, h2.upW le⟩
  · show upd w.F p o a = none
    rw [upd_ne (fun (e : a = p) => hr (e ▸ ha))]; exact R.out a ha
  · exact (R.cells n a c e1 e2).upW le rfl
theorem frz_fol {t : TE} {f : M Cell} (r : Fol X.K W (pN X.K) t f) : Fol X.K W (pD X.K) t (frzM f) := fun w H σ s Q R z => by
  refine r w H σ s Q R ?_
  unfold frzM bnd at z
  cases hf : f s with
  | bad => rw [hf] at z; exact z.elim
  | exc x s1 => rw [hf] at z; exact z
  | ok c s1 =>
    rw [hf] at z
    rintro w1 H1 _ l1 R1 ⟨q, rfl, N⟩
    cases c with
    | dct _ => exact z.elim
    | lst ds =>
      obtain ⟨vs, h1, h2⟩ := N.c
      exact z _ _ _ (l1.frz N.n N.f) (R1.frz h1 N.f N.r) (.lst (SqL.of upd_same) (h2.upW (Wd.frz_le N.f)))
theorem own_fol {t : TE} {f : M Cell} (r : Fol X.K W (pN X.K) t f) : Fol X.K W (pD X.K) t (ownM f) := fun w H σ s Q R z => by
  refine r w H σ s Q R ?_
  unfold ownM bnd at z
  cases hf : f s with
  | bad => rw [hf] at z; exact z.elim
  | exc x s1 => rw [hf] at z; exact z
  | ok c s1 =>
    rw [hf] at z
    rintro w1 H1 _ l1 R1 ⟨q, rfl, N⟩
    refine z _ _ _ (l1.own N.n) (R1.addCell N.f N.r N.c) (.cell ?_)
    show (w1.ρ ++ [q])[s1.vh.length]? = some q
    rw [← R1.cl, List.getElem?_append_right (Nat.le_refl _), Nat.sub_self]
    rfl
theorem de_frz {f : M Cell} (h : DN X W a f) : DE X W a (frzM f) := let ⟨t, p, r⟩ := h; ⟨t, p, frz_fol r⟩
theorem de_own {f : M Cell} (h : DN X W a f) : DE X W a (ownM f) := let ⟨t, p, r⟩ := h; ⟨t, p, own_fol r⟩
end
end Fx

namespace Fx
open PySem PySem.Spec PyProof.Rows L2
open Classical
/-! ### a reading made of f itself -/
def tM {α ν : Type} (K : PySem.W.Frag) (W : WX) (P : Pr ν α) (f : M α) : L2.St → Hp → (ν → Hp → Prop) → Prop := fun σ H Q => ∃ w s, RS K w H σ s ∧ Post K W P w H σ (f s) Q
theorem tM_fol {α ν : Type} {K : PySem.W.Frag} {W : WX} {P : Pr ν α} {f : M α} : Fol K W P (tM K W P f) f := fun w H σ s Q R p => ⟨w, s, R, p⟩
variable {X : Cx} {W : WX}
theorem DE.pe {e : Expr} {f : M D} (h : DE X W e f) : PE X e (tM X.K W (pD X.K) f) := by
  obtain ⟨t, p, r⟩ := h
  exact ⟨fun pins s σ H Q I ⟨w, z, R, q⟩ => p.run pins s σ H Q I (r w H σ z Q R q)⟩
theorem DT.pt {e : Expr} {f : M Bool} (h : DT X W e f) : PT X e (tM X.K W pB f) := by
  obtain ⟨t, p, r⟩ := h
  exact ⟨fun pins s σ H Q I ⟨w, z, R, q⟩ => p.run pins s σ H Q I (r w H σ z Q R q)⟩
/-! ### statements -/
inductive Out where
  | nx | brk | cnt | rt (d : D)
section
variable (K : PySem.W.Frag) (W : WX)
def PostS (w : Wd) (H : Hp) (r : Res Out) (D : Ends) : Prop := match r with
  | .ok .nx s => ∀ w' H' σ', Le w H w' H' → RS K w' H' σ' s → D.nx σ' H'
  | .ok .brk s => ∀ w' H' σ', Le w H w' H' → RS K w' H' σ' s → D.bk σ' H'
  | .ok .cnt s => ∀ w' H' σ', Le w H w' H' → RS K w' H' σ' s → D.ct σ' H'
  | .ok (.rt d) s => ∀ w' H' σ' v, Le w H w' H' → RS K w' H' σ' s → Rep K w' v d → D.rt v H'
  | .exc e s => ∀ w' H' σ', Le w H w' H' → RS K w' H' σ' s → W e w' H' σ'
  | .bad => False
def FolS (t : TS) (f : M Out) : Prop := ∀ w H σ s D, RS K w H σ s → PostS K W w H (f s) D → t D σ H
end
section
variable {K : PySem.W.Frag} {α ν : Type} {P : Pr ν α} {w w1 : Wd} {σ : L2.St} {s : S} {H : Hp} {D : Ends}
theorem PostS.up {H1 : Hp} {r : Res Out} (l : Le w H w1 H1) (h : PostS K W w H r D) : PostS K W w1 H1 r D := by
  cases r with
  | ok a s =>
    cases a with
    | rt d => exact fun w' H' σ' v l' R r => h w' H' σ' v (l.trans l') R r
    | _ => exact fun w' H' σ' l' R => h w' H' σ' (l.trans l') R
  | exc e s => exact fun w' H' σ' l' R => h w' H' σ' (l.trans l') R
  | bad => exact h
theorem PostS.bnd {m : M α} {k : α → M Out} {Q : ν → Hp → Prop} (h : PostS K W w H (Fx.bnd m k s) D) (f : ∀ a s' w' H' v, Le w H w' H' → RS K w' H' σ s' → P.p H w' H' v a → PostS K W w' H' (k a s') D → Q v H') : Post K W P w H σ (m s) Q := by
  unfold Fx.bnd at h
  cases e : m s with
  | ok a s' => rw [e] at h; exact fun w' H' v l R p => f a s' w' H' v l R p (h.up l)
  | exc x s' => rw [e] at h; exact fun w' H' l R => h w' H' σ l R
  | bad => rw [e] at h; exact h
theorem Fol.bndS {t : L2.St → Hp → (ν → Hp → Prop) → Prop} {f : M α} {k : α → M Out} {Q : ν → Hp → Prop} (h : Fol K W P t f) (R : RS K w H σ s) (p : PostS K W w H (Fx.bnd f k s) D)
    (g : ∀ a s' w' H' v, Le w H w' H' → RS K w' H' σ s' → P.p H w' H' v a → PostS K W w' H' (k a s') D → Q v H') : t σ H Q := h w H σ s Q R (p.bnd g)
theorem PostS.nx (h : PostS K W w H (ret .nx s) D) (R : RS K w H σ s) : D.nx σ H := h w H σ (Le.refl w H) R
end
def DS (X : Cx) (W : WX) (st : Stmt) (f : M Out) : Prop := ∃ t, PS X st t ∧ FolS X.K W t f
def DSs (X : Cx) (W : WX) (sts : List Stmt) (f : M Out) : Prop := ∃ t, PSs X sts t ∧ FolS X.K W t f
def seqM (p q : M Out) : M Out := fun s => match p s with
  | .ok .nx s' => q s'
  | r => r
section
variable {st : Stmt} {rest : List Stmt} {e c : Expr} {f g : M Out} {fe : M D} {fc : M Bool} {pos : Pos}
theorem dss_nil : DSs X W [] (ret .nx) := ⟨_, pss_nil, fun w H σ s D R p => p.nx R⟩
theorem dss_cons (h : DS X W st f) (k : DSs X W rest g) : DSs X W (st :: rest) (seqM f g) := by
  obtain ⟨t, p, r⟩ := h
  obtain ⟨u, q, k⟩ := k
  refine ⟨_, pss_cons p q, fun w H σ s D R z => ?_⟩
  refine r w H σ s { D with nx := u D } R ?_
  unfold seqM at z
  cases hf : f s with
  | ok a s' =>
    rw [hf] at z
    cases a with
    | nx => exact fun w' H' σ' l R' => k w' H' σ' s' D R' (z.up l)
    | brk => exact z
    | cnt => exact z
    | rt d => exact z
  | exc x s' => rw [hf] at z; exact z
  | bad => rw [hf] at z; exact z
theorem dss_one (h : DS X W st f) : DSs X W [st] f := let ⟨t, p, r⟩ := h; ⟨t, pss_one p, r⟩
theorem ds_pass : DS X W (.Pass pos) (ret .nx) := ⟨_, ps_pass, fun w H σ s D R p => p.nx R⟩
theorem ds_doc {x j pos'} : DS X W (.Expr (.Constant (.str x) j pos) pos') (ret .nx) := ⟨_, ps_doc, fun w H σ s D R p => p.nx R⟩
theorem ds_break : DS X W (.Break pos) (ret .brk) := ⟨_, ps_break, fun w H σ s D R p => p w H σ (Le.refl w H) R⟩
theorem ds_continue : DS X W (.Continue pos) (ret .cnt) := ⟨_, ps_continue, fun w H σ s D R p => p w H σ (Le.refl w H) R⟩
def retM (p : M D) : M Out := bnd p fun d => ret (.rt d)
def dropM (p : M D) : M Out := bnd p fun _ => ret .nx
def ifM (c : M Bool) (p q : M Out) : M Out := bnd c fun b => if b = true then p else q
theorem ds_ret (h : DE X W e fe) : DS X W (.Return (some e) pos) (retM fe) := by
  obtain ⟨t, p, r⟩ := h
  refine ⟨_, ps_ret p, fun w H σ s D R z => ?_⟩
  exact r.bndS R z fun d s1 w1 H1 v1 l1 R1 r1 p1 => p1 w1 H1 σ v1 (Le.refl w1 H1) R1 r1
theorem ds_retN : DS X W (.Return none pos) (ret (.rt .non)) := ⟨_, ps_retN, fun w H σ s D R p => p w H σ .non (Le.refl w H) R .non⟩
theorem ds_expr (h : DE X W e fe) (hs : swapsWith e none pos.line X.env = pure false := by rfl) : DS X W (.Expr e pos) (dropM fe) := by
  obtain ⟨t, p, r⟩ := h
  refine ⟨_, ps_expr p hs, fun w H σ s D R z => ?_⟩
  exact r.bndS R z fun d s1 w1 H1 v1 l1 R1 r1 p1 => p1.nx R1
theorem ds_if {a b : List Stmt} (h : DT X W c fc) (ha : DSs X W a f) (hb : DSs X W b g) : DS X W (.If c a b pos) (ifM fc f g) := by
  obtain ⟨t, p, r⟩ := h
  obtain ⟨u, q, k⟩ := ha
  obtain ⟨u', q', k'⟩ := hb
  refine ⟨_, ps_if p q q', fun w H σ s D R z => ?_⟩
  refine r.bndS R z fun d s1 w1 H1 v1 l1 R1 r1 p1 => ?_
  cases r1
  cases d with
  | true => exact k w1 H1 σ s1 D R1 p1
  | false => exact k' w1 H1 σ s1 D R1 p1
/-! targets -/
def setL (i : Nat) (d : D) : M Out := fun s => .ok .nx { s with loc := s.loc.set i (some d) }
def PostG (K : PySem.W.Frag) (w : Wd) (H : Hp) (r : Res Out) (Q : L2.St → Hp → Prop) : Prop := match r with
  | .ok .nx s => ∀ w' H' σ', Le w H w' H' → RS K w' H' σ' s → Q σ' H'
  | _ => False
def DG (X : Cx) (target : Expr) (t : D → M Out) : Prop := ∃ g, PG X target g ∧ ∀ w H σ s v d Q, RS X.K w H σ s → Rep X.K w v d → PostG X.K w H (t d s) Q → g v σ H Q
theorem dg_name {i : Nat} {x : Str} (hN : X.N.Nodup) (hi : X.N[i]? = some x := by rfl) (hx : Loc X.env.scope x := by first | exact Or.inl rfl | exact Or.inr rfl) (hf : X.fn x = true ∨ X.env.scope.names.lookup x = some .local := by first | exact .inl rfl | exact .inr rfl) : DG X (.Name x pos) (setL i) :=
  ⟨_, pg_name hN hi hx hf, fun w H σ s v d Q R r p => p w H _ (Le.refl w H) (R.set r)⟩
def asgM (p : M D) (t : D → M Out) : M Out := bnd p t
theorem ds_asg {tg : Expr} {t : D → M Out} (h : DE X W e fe) (hg : DG X tg t) (ht : ∀ d s, (∃ s', t d s = .ok .nx s') ∨ t d s = .bad) (hs : swapsWithSole [tg] e pos.line X.env = pure false := by rfl) (hw : swappedStores [tg] e X.env = pure none := by rfl)
    (h1 : (assignEach [tg] X.env).map (·.2) = [assign tg X.env] := by rfl) : DS X W (.Assign [tg] e pos) (asgM fe t) := by
  obtain ⟨u, p, r⟩ := h
  obtain ⟨g, pg, k⟩ := hg
  refine ⟨_, ps_asg p pg hs hw h1, fun w H σ s D R z => ?_⟩
  refine r.bndS R z fun d s1 w1 H1 v1 l1 R1 r1 p1 => ?_
  refine k w1 H1 σ s1 v1 d D.nx R1 r1 ?_
  rcases ht d s1 with ⟨s', e⟩ | e
  · rw [e] at p1 ⊢; exact p1
  · rw [e] at p1; exact p1.elim
theorem setL_ok {i : Nat} (d : D) (s : S) : (∃ s', setL i d s = .ok .nx s') ∨ setL i d s = .bad := .inl ⟨_, rfl⟩
/-- x = e -/
theorem ds_set (i : Nat) {x : Str} {p' : Pos} (h : DE X W e fe) (hN : X.N.Nodup) (hi : X.N[i]? = some x := by rfl) (hx : Loc X.env.scope x := by first | exact Or.inl rfl | exact Or.inr rfl) (hf : X.fn x = true ∨ X.env.scope.names.lookup x = some .local := by first | exact .inl rfl | exact .inr rfl)
    (hs : swapsWithSole [.Name x p'] e pos.line X.env = pure false := by rfl) (hw : swappedStores [.Name x p'] e X.env = pure none := by rfl) (h1 : (assignEach [.Name x p'] X.env).map (·.2) = [assign (.Name x p') X.env] := by rfl) : DS X W (.Assign [.Name x p'] e pos) (asgM fe (setL i)) :=
  ds_asg h (dg_name hN hi hx hf) setL_ok hs hw h1
theorem bnd_ok {α β : Type} {m : M α} {k : α → M β} {s s' : S} {a : α} (h : m s = .ok a s') : bnd m k s = k a s' := by
  unfold bnd
  rw [h]
theorem getL_eq {i : Nat} {s : S} {d : D} (h : s.loc[i]? = some (some d)) : getL i s = .ok d s := by
  unfold getL
  rw [h]
/-- x += e, of ints -/
def augF (f : Int → Int → Int) (i : Nat) : D → D → M Out
  | .int x, .int y => setL i (.int (f x y))
  | _, _ => fail
def augI (f : Int → Int → Int) (i : Nat) (p : M D) : M Out := bnd (getL i) fun a => bnd p fun b => augF f i a b
theorem ds_augI (i : Nat) {x : Str} {p' : Pos} {op : Operator} {F : Int → Int → Int} (ho : PIp X op (ipI F)) (h : DE X W e fe) (hN : X.N.Nodup) (hi : X.N[i]? = some x := by rfl) (hx : Loc X.env.scope x := by first | exact Or.inl rfl | exact Or.inr rfl) (hf : X.fn x = true ∨ X.env.scope.names.lookup x = some .local := by first | exact .inl rfl | exact .inr rfl) :
    DS X W (.AugAssign (.Name x p') op e pos) (augI F i fe) := by
  obtain ⟨u, p, r⟩ := h
  refine ⟨_, ps_aug hN hi hx p ho hf, fun w H σ s D R z => ?_⟩
  cases hl : s.loc[i]? with
  | none => unfold augI Fx.bnd getL at z; rw [hl] at z; exact z.elim
  | some o =>
    cases o with
    | none => unfold augI Fx.bnd getL at z; rw [hl] at z; exact z.elim
    | some d =>
      have z : PostS X.K W w H (bnd fe (fun b => augF F i d b) s) D := by
        have e : augI F i fe s = bnd fe (fun b => augF F i d b) s := by
          unfold augI
          exact bnd_ok (getL_eq hl)
        rw [← e]; exact z
      obtain ⟨v, hv, rv⟩ := R.loc i d hl
      refine ⟨v, hv, ?_⟩
      refine r.bndS R z fun b s1 w1 H1 v1 l1 R1 r1 p1 => ?_
      have rv := rv.up l1
      cases rv with
      | int a =>
        cases r1 with
        | int b => exact ⟨a, b, rfl, rfl, p1 w1 H1 _ (Le.refl w1 H1) (R1.set (.int _))⟩
        | _ => exact p1.elim
      | _ => exact p1.elim
/-! ### while -/
noncomputable def whileM (c : M Bool) (b : M Out) : Nat → M Out
  | 0 => fun _ => .bad
  | n + 1 => fun s => match c s with
    | .ok true s1 => match b s1 with
      | .ok .nx s2 => whileM c b n s2
      | .ok .cnt s2 => whileM c b n s2
      | .ok .brk s2 => .ok .nx s2
      | r => r
    | .ok false s1 => .ok .nx s1
    | .exc x s1 => .exc x s1
    | .bad => .bad
theorem ds_while (n : Nat) {body : List Stmt} (hp : PassesOwn (model X.prog X.w) X.A X.env X.xe) (h : DT X W c fc) (hb : DSs X W body f) : DS X W (.While c body [] pos) (whileM fc f n) := by
  obtain ⟨t, p, r⟩ := h
  obtain ⟨u, q, k⟩ := hb
  refine ⟨_, ps_while hp p q, fun w H σ s D R z => ?_⟩
  refine ⟨fun m σ' H' => ∃ w' s', RS X.K w' H' σ' s' ∧ PostS X.K W w' H' (whileM fc f m s') D, ⟨n, w, s, R, z⟩, ?_⟩
  rintro m σ' H' ⟨w', s', R', z'⟩
  cases m with
  | zero => exact z'.elim
  | succ m =>
    have z2 : PostS X.K W w' H' (bnd fc (fun b s1 => if b = true then (match f s1 with
      | .ok .nx s2 => whileM fc f m s2
      | .ok .cnt s2 => whileM fc f m s2
      | .ok .brk s2 => .ok .nx s2
      | r => r) else .ok .nx s1) s') D := by
      unfold whileM at z'
      unfold Fx.bnd
      cases hc : fc s' with
      | ok b s1 => rw [hc] at z'; cases b <;> exact z'
      | exc x s1 => rw [hc] at z'; exact z'
      | bad => rw [hc] at z'; exact z'
    refine r.bndS R' z2 fun b s1 w1 H1 v1 l1 R1 r1 p1 => ?_
    cases r1
    cases b with
    | false => exact p1 w1 H1 σ' (Le.refl w1 H1) R1
    | true =>
      refine ⟨fun σ2 H2 => ∃ w2 s2, RS X.K w2 H2 σ2 s2 ∧ PostS X.K W w2 H2 (whileM fc f m s2) D, fun σ2 H2 h => ⟨m, Nat.lt_succ_self m, h⟩, ?_⟩
      refine k w1 H1 σ' s1 _ R1 ?_
      have p1 : PostS X.K W w1 H1 (match f s1 with
        | .ok .nx s2 => whileM fc f m s2
        | .ok .cnt s2 => whileM fc f m s2
        | .ok .brk s2 => .ok .nx s2
        | r => r) D := p1
      cases hf : f s1 with
      | ok a s2 =>
        rw [hf] at p1
        cases a with
        | nx => exact fun w2 H2 σ2 l R2 => ⟨w2, s2, R2, p1.up l⟩
        | cnt => exact fun w2 H2 σ2 l R2 => ⟨w2, s2, R2, p1.up l⟩
        | brk => exact p1
        | rt d => exact p1
      | exc x s2 => rw [hf] at p1; exact p1
      | bad => rw [hf] at p1; exact p1.elim
end
/-! ### what is walked -/
structure Wk where
  items : List D
  ok : S → Prop
def wkI (K : PySem.W.Frag) : Wd → It → Wk → Prop := fun w0 J it => ∀ w H σ s, w0.le w → RS K w H σ s → it.ok s → ∀ i : Nat, (i < it.items.length → J.go i H) ∧ (it.items.length ≤ i → J.stop i H) ∧
  ∀ x H', J.yld i H x H' → ∀ d, it.items[i]? = some d → ∃ w', Le w H w' H' ∧ RS K w' H' σ s ∧ Rep K w' x d
@[reducible] def pI (K : PySem.W.Frag) : Pr It Wk := ⟨fun _ w H J it => wkI K w J it, fun _ _ _ _ _ _ _ _ _ _ h => h⟩
def DI (X : Cx) (W : WX) (tg e : Expr) (f : M Wk) : Prop := ∃ wi, PI X tg e wi ∧ Fol X.K W (pI X.K) wi f
noncomputable def loopM (ok : S → Prop) (t : D → M Out) (b : M Out) : List D → M Out
  | [] => fun s => if ok s then .ok .nx s else .bad
  | d :: ds => fun s => if ok s then (match t d s with
    | .ok .nx s1 => match b s1 with
      | .ok .nx s2 => loopM ok t b ds s2
      | .ok .cnt s2 => loopM ok t b ds s2
      | .ok .brk s2 => .ok .nx s2
      | r => r
    | _ => .bad) else .bad
noncomputable def forM (f : M Wk) (t : D → M Out) (b : M Out) : M Out := bnd f fun it => loopM it.ok t b it.items
section
variable {tg e : Expr} {fi : M Wk} {t : D → M Out} {b : M Out} {body : List Stmt} {pos : Pos}
theorem ds_for (hp : PassesOwn (model X.prog X.w) X.A X.env X.xe) (hc : X.calm = true) (hi : DI X W tg e fi) (hg : DG X tg t) (hb : DSs X W body b) (hs : ∀ x, foldedSetIterable e X.env x = pure x := by intro _; rfl) : DS X W (.For tg e body [] pos) (forM fi t b) := by
  obtain ⟨wi, p, r⟩ := hi
  obtain ⟨g, pg, kg⟩ := hg
  obtain ⟨u, q, k⟩ := hb
  refine ⟨_, ps_for hp hc p pg q hs, fun w H σ s D R z => ?_⟩
  refine r.bndS R z fun it s1 w1 H1 J l1 R1 r1 p1 => ?_
  refine ⟨fun i m σ' H' => m = it.items.length - i ∧ i ≤ it.items.length ∧ ∃ w' s', w1.le w' ∧ RS X.K w' H' σ' s' ∧ PostS X.K W w' H' (loopM it.ok t b (it.items.drop i) s') D, ⟨_, rfl, Nat.zero_le _, w1, s1, Wd.le.refl w1, R1, p1⟩, ?_⟩
  rintro i m σ' H' ⟨rfl, hi, w', s', l', R', z'⟩
  by_cases hlt : i < it.items.length
  · obtain ⟨d, hd⟩ : ∃ d, it.items[i]? = some d := ⟨_, List.getElem?_eq_getElem hlt⟩
    have ed : it.items.drop i = d :: it.items.drop (i + 1) := by
      rw [List.drop_eq_getElem_cons hlt]
      rw [List.getElem?_eq_getElem hlt] at hd
      rw [Option.some.inj hd]
    rw [ed] at z'
    unfold loopM at z'
    by_cases hok : it.ok s'
    · rw [if_pos hok] at z'
      obtain ⟨h1, h2, h3⟩ := r1 w' H' σ' s' l' R' hok i
      refine .inr ⟨h1 hlt, fun σ2 H2 => ∃ w2 s2, w1.le w2 ∧ RS X.K w2 H2 σ2 s2 ∧ PostS X.K W w2 H2 (loopM it.ok t b (it.items.drop (i + 1)) s2) D, fun σ2 H2 ⟨w2, s2, l2, R2, z2⟩ => ⟨it.items.length - (i + 1), by omega, rfl, hlt, w2, s2, l2, R2, z2⟩, fun x H2 hy => ?_⟩
      obtain ⟨w2, l2, R2, r2⟩ := h3 x H2 hy d hd
      refine kg w2 H2 σ' s' x d _ R2 r2 ?_
      cases ht : t d s' with
      | ok o s3 =>
        rw [ht] at z'
        cases o with
        | nx =>
          refine fun w3 H3 σ3 l3 R3 => ?_
          refine k w3 H3 σ3 s3 _ R3 ?_
          have z' : PostS X.K W w' H' (match b s3 with
            | .ok .nx s2 => loopM it.ok t b (it.items.drop (i + 1)) s2
            | .ok .cnt s2 => loopM it.ok t b (it.items.drop (i + 1)) s2
            | .ok .brk s2 => .ok .nx s2
            | r => r) D := z'
          have z3 := z'.up (l2.trans l3)
          cases hb : b s3 with
          | ok a s4 =>
            rw [hb] at z3
            cases a with
            | nx => exact fun w4 H4 σ4 l R4 => ⟨w4, s4, l'.trans (l2.le.trans (l3.le.trans l.le)), R4, z3.up l⟩
            | cnt => exact fun w4 H4 σ4 l R4 => ⟨w4, s4, l'.trans (l2.le.trans (l3.le.trans l.le)), R4, z3.up l⟩
            | brk => exact z3
            | rt d => exact z3
          | exc x s4 => rw [hb] at z3; exact z3
          | bad => rw [hb] at z3; exact z3.elim
        | _ => exact z'.elim
      | exc _ _ => rw [ht] at z'; exact z'.elim
      | bad => rw [ht] at z'; exact z'.elim
    · rw [if_neg hok] at z'; exact z'.elim
  · have hi' : it.items.length ≤ i := by omega
    rw [List.drop_eq_nil_of_le hi'] at z'
    unfold loopM at z'
    by_cases hok : it.ok s'
    · rw [if_pos hok] at z'
      obtain ⟨h1, h2, h3⟩ := r1 w' H' σ' s' l' R' hok i
      exact .inl ⟨h2 hi', z' w' H' σ' (Le.refl w' H') R'⟩
    · rw [if_neg hok] at z'; exact z'.elim
end
end Fx

namespace Fx
open PySem PySem.Spec PyProof.Rows L2
open Classical
variable {X : Cx} {W : WX}
section
variable {K : PySem.W.Frag} {α β ν μ : Type} {P : Pr ν α} {P2 : Pr μ β} {w w1 : Wd} {σ : L2.St} {s : S}
theorem Fol.bndE {t : L2.St → Hp → (ν → Hp → Prop) → Prop} {f : M α} {k : α → M β} {Q2 : μ → Hp → Prop} {Q : ν → Hp → Prop} {H : Hp} (h : Fol K W P t f) (R : RS K w H σ s) (p : Post K W P2 w H σ (Fx.bnd f k s) Q2)
    (g : ∀ a s' w' H' v, f s = .ok a s' → Le w H w' H' → RS K w' H' σ s' → P.p H w' H' v a → Post K W P2 w' H' σ (k a s') Q2 → Q v H') : t σ H Q := by
  refine h w H σ s Q R ?_
  unfold Fx.bnd at p
  cases e : f s with
  | ok a s' => rw [e] at p; exact fun w' H' v l R x => g a s' w' H' v e l R x (p.up l)
  | exc x s' => rw [e] at p; exact p
  | bad => rw [e] at p; exact p
end
/-! ### what is walked: a list, a tuple, a text -/
def signs (x : Str) : List D := x.cps.toList.map fun c => .str ⟨#[c]⟩
def itemsOf (s : S) : D → Option (List D)
  | .tup ds => some ds
  | .str x => some (signs x)
  | d => lstOf s d
noncomputable def seqI (d : D) : M Wk := fun s => match itemsOf s d with
  | some ds => .ok ⟨ds, fun s' => itemsOf s' d = some ds⟩ s
  | none => .bad
theorem PI.or {tg e : Expr} {w1 w2 : TI} (h1 : PI X tg e w1) (h2 : PI X tg e w2) : PI X tg e (fun σ H R => w1 σ H R ∨ w2 σ H R) :=
  ⟨fun pins s σ H R I h => h.elim (h1.run pins s σ H R I) (h2.run pins s σ H R I)⟩
theorem pI_list {K : PySem.W.Frag} {w0 : Wd} {a : Addr} {d : D} {ds : List D} (r : Rep K w0 (.ref a) d) (hl : ∀ s, itemsOf s d = lstOf s d) : wkI K w0 (Itl K a) ⟨ds, fun s' => itemsOf s' d = some ds⟩ := by
  intro w H σ s l R hok i
  have hok : itemsOf s d = some ds := hok
  rw [hl] at hok
  obtain ⟨a', vs, e, h1, h2⟩ := R.list (r.upW l) hok
  cases e
  have hS : SqL K H a vs := h1
  refine ⟨fun hi => ?_, fun hi => ⟨vs, hS, by rw [RepL.length h2]; exact hi⟩, fun x H' hy d' hd => ?_⟩
  · obtain ⟨v, hv, _⟩ := RepL.get h2 (List.getElem?_eq_getElem hi)
    exact ⟨vs, v, hS, hv⟩
  · obtain ⟨rfl, hx⟩ := hy
    obtain ⟨v, hv, rv⟩ := RepL.get h2 hd
    have := hx vs hS
    rw [hv] at this; cases this
    exact ⟨w, Le.refl _ _, R, rv⟩
theorem pI_tup {K : PySem.W.Frag} {w0 : Wd} {a : Addr} {ds : List D} (r : Rep K w0 (.ref a) (.tup ds)) : wkI K w0 (Itt K a) ⟨ds, fun s' => itemsOf s' (.tup ds) = some ds⟩ := by
  intro w H σ s l R hok i
  obtain ⟨a', vs, e, h1, h2⟩ := R.tuple (r.upW l) (ds := ds) rfl
  cases e
  refine ⟨fun hi => ?_, fun hi => ⟨vs, h1, by rw [RepL.length h2]; exact hi⟩, fun x H' hy d' hd => ?_⟩
  · obtain ⟨v, hv, _⟩ := RepL.get h2 (List.getElem?_eq_getElem hi)
    exact ⟨vs, v, h1, hv⟩
  · obtain ⟨rfl, hx⟩ := hy
    obtain ⟨v, hv, rv⟩ := RepL.get h2 hd
    have := hx vs h1
    rw [hv] at this; cases this
    exact ⟨w, Le.refl _ _, R, rv⟩
theorem pI_str {K : PySem.W.Frag} {w0 : Wd} {x : Str} : wkI K w0 (Its x) ⟨signs x, fun s' => itemsOf s' (.str x) = some (signs x)⟩ := by
  intro w H σ s l R hok i
  have hlen : (signs x).length = x.cps.size := by unfold signs; rw [List.length_map, Array.length_toList]
  refine ⟨fun hi => by rw [hlen] at hi; exact hi, fun hi => by rw [hlen] at hi; exact hi, fun v H' hy d' hd => ?_⟩
  obtain ⟨rfl, c, hc, rfl⟩ := hy
  have e : (signs x)[i]? = some (.str ⟨#[c]⟩) := by
    unfold signs
    rw [List.getElem?_map, Array.getElem?_toList, hc]; rfl
  have hd : (signs x)[i]? = some d' := hd
  rw [e] at hd; cases hd
  exact ⟨w, Le.refl _ _, R, .str _⟩
theorem di_seq {tg e : Expr} {f : M D} (h : DE X W e f) : DI X W tg e (bnd f seqI) := by
  obtain ⟨t, p, r⟩ := h
  refine ⟨_, PI.or (pi_list p) (PI.or (pi_tup p) (pi_str p)), fun w H σ s R0 R z => ?_⟩
  have base : ∀ (Q : V → Hp → Prop), (∀ a s' w' H' v, f s = .ok a s' → Le w H w' H' → RS X.K w' H' σ s' → Rep X.K w' v a → Post X.K W (pI X.K) w' H' σ (seqI a s') R0 → Q v H') → t σ H Q := fun Q g => r.bndE R z g
  cases hf : f s with
  | bad => exact .inl (base _ fun a s' w' H' v e => by rw [hf] at e; cases e)
  | exc x s1 => exact .inl (base _ fun a s' w' H' v e => by rw [hf] at e; cases e)
  | ok d s1 =>
    cases d with
    | tup ds =>
      refine .inr (.inl (base _ fun a s' w' H' v e l R' ra q => ?_))
      rw [hf] at e; cases e
      obtain ⟨a', vs, e, h1, h2⟩ := R'.tuple ra (ds := ds) rfl
      subst e
      exact ⟨a', rfl, ⟨vs, h1⟩, q w' H' _ (Le.refl _ _) R' (pI_tup ra)⟩
    | str x =>
      refine .inr (.inr (base _ fun a s' w' H' v e l R' ra q => ?_))
      rw [hf] at e; cases e
      cases ra
      exact ⟨x, rfl, q w' H' _ (Le.refl _ _) R' pI_str⟩
    | _ =>
      refine .inl (base _ fun a s' w' H' v e l R' ra q => ?_)
      rw [hf] at e; cases e
      unfold seqI at q
      split at q
      · next ds hds =>
        have hds' := hds
        simp only [itemsOf] at hds'
        obtain ⟨a', vs, e, h1, h2⟩ := R'.list ra hds'
        subst e
        refine ⟨a', rfl, ⟨vs, h1⟩, q w' H' _ (Le.refl _ _) R' (pI_list ra fun _ => rfl)⟩
      · exact q.elim
/-! ### range -/
def ranD (lo : Int) (n : Nat) : List D := (List.range n).map fun (k : Nat) => D.int (lo + (k : Int))
theorem ranD_len {lo : Int} {n : Nat} : (ranD lo n).length = n := by unfold ranD; rw [List.length_map, List.length_range]
theorem ranD_get {lo : Int} {n i : Nat} (h : i < n) : (ranD lo n)[i]? = some (.int (lo + (i : Int))) := by
  unfold ranD
  rw [List.getElem?_map, List.getElem?_range h]; rfl
def okB (i : Int) : Bool := decide (-(2 ^ 62) ≤ i) && decide (i < 2 ^ 62)
def ran1I : List D → M Wk
  | [.int n] => fun s => if okB n = true then .ok ⟨ranD 0 n.toNat, fun _ => True⟩ s else .bad
  | _ => fun _ => .bad
def ran2I : List D → M Wk
  | [.int lo, .int n] => fun s => if (okB lo && okB n) = true then .ok ⟨ranD lo (n - lo).toNat, fun _ => True⟩ s else .bad
  | _ => fun _ => .bad
theorem pI_ran {K : PySem.W.Frag} {w0 : Wd} {lo : Int} {n : Nat} : wkI K w0 (Itr lo n) ⟨ranD lo n, fun _ => True⟩ := by
  intro w H σ s l R _ i
  refine ⟨fun hi => by rw [ranD_len] at hi; exact hi, fun hi => by rw [ranD_len] at hi; exact hi, fun v H' hy d' hd => ?_⟩
  obtain ⟨rfl, rfl⟩ := hy
  have hi : i < n := by
    have := (List.getElem?_eq_some_iff.mp hd).1
    rw [ranD_len] at this; exact this
  have hd : (ranD lo n)[i]? = some d' := hd
  rw [ranD_get hi] at hd; cases hd
  exact ⟨w, Le.refl _ _, R, .int _⟩
theorem okB_ok {i : Int} (h : okB i = true) : -(2 ^ 62) ≤ i ∧ i < 2 ^ 62 := by
  unfold okB at h
  rw [Bool.and_eq_true, decide_eq_true_eq, decide_eq_true_eq] at h; exact h
theorem di_range1 {tg a : Expr} {f : M (List D)} {p pos : Pos} (hm : X.mg "range" = none) (h : DA X W [a] f) (hg : Gl X "range" := by rfl) (hs : starEach [a] X.env = [(false, eval a X.env)] := by rfl) : DI X W tg (.Call (.Name "range" p) [a] [] pos) (bnd f ran1I) := by
  obtain ⟨t, q, r⟩ := h
  refine ⟨_, pi_range1 hg hm q hs, fun w H σ s R0 R z => ?_⟩
  refine r.bnd R z fun ds s1 w1 H1 vs l1 R1 r1 p1 => ?_
  cases r1 with
  | nil => exact p1.elim
  | cons h t =>
    cases t with
    | nil =>
      cases h with
      | int n =>
        have p1 : Post X.K W (pI X.K) w1 H1 σ (if okB n = true then Res.ok (Wk.mk (ranD 0 n.toNat) fun _ => True) s1 else .bad) R0 := p1
        split at p1
        · next k => exact ⟨n, rfl, (okB_ok k).1, (okB_ok k).2, p1 w1 H1 _ (Le.refl _ _) R1 pI_ran⟩
        · exact p1.elim
      | _ => exact p1.elim
    | cons h2 t2 => exact (by cases h <;> exact p1.elim)
theorem di_range2 {tg a b : Expr} {f : M (List D)} {p pos : Pos} (hm : X.mg "range" = none) (h : DA X W [a, b] f) (hg : Gl X "range" := by rfl) (hs : starEach [a, b] X.env = [(false, eval a X.env), (false, eval b X.env)] := by rfl) (hs2 : starEach [b] X.env = [(false, eval b X.env)] := by rfl) :
    DI X W tg (.Call (.Name "range" p) [a, b] [] pos) (bnd f ran2I) := by
  obtain ⟨t, q, r⟩ := h
  refine ⟨_, pi_range2 hg hm q hs hs2, fun w H σ s R0 R z => ?_⟩
  refine r.bnd R z fun ds s1 w1 H1 vs l1 R1 r1 p1 => ?_
  cases r1 with
  | nil => exact p1.elim
  | cons h t =>
    cases t with
    | nil => exact (by cases h <;> exact p1.elim)
    | cons h2 t2 =>
      cases t2 with
      | cons _ _ => exact (by cases h <;> cases h2 <;> exact p1.elim)
      | nil =>
        cases h with
        | int lo =>
          cases h2 with
          | int n =>
            have p1 : Post X.K W (pI X.K) w1 H1 σ (if (okB lo && okB n) = true then Res.ok (Wk.mk (ranD lo (n - lo).toNat) fun _ => True) s1 else .bad) R0 := p1
            split at p1
            · next k =>
              rw [Bool.and_eq_true] at k
              exact ⟨lo, n, rfl, ⟨(okB_ok k.1).1, (okB_ok k.1).2, (okB_ok k.2).1, (okB_ok k.2).2⟩, p1 w1 H1 _ (Le.refl _ _) R1 pI_ran⟩
            · exact p1.elim
          | _ => exact p1.elim
        | _ => exact p1.elim
/-! ### zip of two lists, reversed -/
noncomputable def zipI : List D → M Wk
  | [a, b] => fun s => match lstOf s a, lstOf s b with
    | some xs, some ys => .ok ⟨List.zipWith (fun x y => D.tup [x, y]) xs ys, fun s' => lstOf s' a = some xs ∧ lstOf s' b = some ys⟩ s
    | _, _ => .bad
  | _ => fun _ => .bad
theorem pI_zip {K : PySem.W.Frag} {w0 : Wd} {a b : Addr} {d e : D} {xs ys : List D} (ra : Rep K w0 (.ref a) d) (rb : Rep K w0 (.ref b) e) : wkI K w0 (Itz K a b) ⟨List.zipWith (fun x y => D.tup [x, y]) xs ys, fun s' => lstOf s' d = some xs ∧ lstOf s' e = some ys⟩ := by
  intro w H σ s l R hok i
  obtain ⟨k1, k2⟩ : lstOf s d = some xs ∧ lstOf s e = some ys := hok
  obtain ⟨a', vs, e1, h1, h2⟩ := R.list (ra.upW l) k1
  cases e1
  obtain ⟨b', us, e2, h3, h4⟩ := R.list (rb.upW l) k2
  cases e2
  have hlen : (List.zipWith (fun x y => D.tup [x, y]) xs ys).length = min xs.length ys.length := List.length_zipWith
  refine ⟨fun hi => ?_, fun hi => ⟨vs, us, h1, h3, ?_⟩, fun x H' hy d' hd => ?_⟩
  · have hi : i < (List.zipWith (fun x y => D.tup [x, y]) xs ys).length := hi
    rw [hlen] at hi
    obtain ⟨v, hv, _⟩ := RepL.get h2 (List.getElem?_eq_getElem (show i < xs.length by omega))
    obtain ⟨u, hu, _⟩ := RepL.get h4 (List.getElem?_eq_getElem (show i < ys.length by omega))
    exact ⟨vs, us, v, u, h1, h3, hv, hu⟩
  · have hi : (List.zipWith (fun x y => D.tup [x, y]) xs ys).length ≤ i := hi
    rw [hlen] at hi
    rw [RepL.length h2, RepL.length h4]
    omega
  · obtain ⟨T, x1, y1, rfl, nT, rfl, f1, f2⟩ := hy
    have hd : (List.zipWith (fun x y => D.tup [x, y]) xs ys)[i]? = some d' := hd
    obtain ⟨v1, hv1⟩ : ∃ v, xs[i]? = some v := by
      have := (List.getElem?_eq_some_iff.mp hd).1
      rw [hlen] at this
      exact ⟨_, List.getElem?_eq_getElem (show i < xs.length by omega)⟩
    obtain ⟨v2, hv2⟩ : ∃ v, ys[i]? = some v := by
      have := (List.getElem?_eq_some_iff.mp hd).1
      rw [hlen] at this
      exact ⟨_, List.getElem?_eq_getElem (show i < ys.length by omega)⟩
    rw [List.getElem?_zipWith, hv1, hv2] at hd
    cases hd
    obtain ⟨u1, hu1, r1⟩ := RepL.get h2 hv1
    obtain ⟨u2, hu2, r2⟩ := RepL.get h4 hv2
    have e1 := f1 vs h1
    have e2 := f2 us h3
    rw [hu1] at e1; cases e1
    rw [hu2] at e2; cases e2
    obtain ⟨l2, R2, r⟩ := R.newT nT (.cons r1 (.cons r2 .nil))
    exact ⟨_, l2, R2, r⟩
theorem di_zip {es : List Expr} {kk : Nat} {tpos : Pos} {a b : Expr} {f : M (List D)} {p pos : Pos} (hm : X.mg "zip" = none) (h : DA X W [a, b] f) (hg : Gl X "zip" := by rfl)
    (hs : starEach [a, b] X.env = (false, eval a X.env) :: starEach [b] X.env := by rfl) (hpl : (backTo pos (starEach [b] X.env)).any (·.1) = false := by rfl) :
    DI X W (.Tuple es kk tpos) (.Call (.Name "zip" p) [a, b] [] pos) (bnd f zipI) := by
  obtain ⟨t, q, r⟩ := h
  refine ⟨_, pi_zip hg hm q hs hpl, fun w H σ s R0 R z => ?_⟩
  refine r.bnd R z fun ds s1 w1 H1 vs l1 R1 r1 p1 => ?_
  cases r1 with
  | nil => exact p1.elim
  | cons h t =>
    cases t with
    | nil => exact p1.elim
    | cons h2 t2 =>
      cases t2 with
      | cons _ _ => exact p1.elim
      | nil =>
        unfold zipI at p1
        dsimp only at p1
        split at p1
        · next xs ys hx hy =>
          obtain ⟨a', vs, e1, q1, q2⟩ := R1.list h hx
          subst e1
          obtain ⟨b', us, e2, q3, q4⟩ := R1.list h2 hy
          subst e2
          exact ⟨a', b', vs, us, rfl, q1, q3, p1 w1 H1 _ (Le.refl _ _) R1 (pI_zip h h2)⟩
        · exact p1.elim
/-! ### targets of two, three names -/
def unp2 (i j : Nat) (d : D) : M Out := fun s => match d with
  | .tup [x, y] => .ok .nx { s with loc := (s.loc.set i (some x)).set j (some y) }
  | _ => .bad
theorem dg_two {i j : Nat} {x y : Str} {kk : Nat} {p1 p2 pos : Pos} (hc : X.calm = true) (hN : X.N.Nodup) (hi : X.N[i]? = some x := by rfl) (hj : X.N[j]? = some y := by rfl) (hx : Loc X.env.scope x := by first | exact Or.inl rfl | exact Or.inr rfl) (hy : Loc X.env.scope y := by first | exact Or.inl rfl | exact Or.inr rfl)
    (hf : X.fn x = true ∨ X.env.scope.names.lookup x = some .local := by first | exact .inl rfl | exact .inr rfl) (hf2 : X.fn y = true ∨ X.env.scope.names.lookup y = some .local := by first | exact .inl rfl | exact .inr rfl)
    (hn : (assignEach [.Name x p1, .Name y p2] X.env).length = 2 := by rfl) (hst : (assignEach [.Name x p1, .Name y p2] X.env).findIdx? (·.1) = none := by rfl)
    (hs1 : (assignEach [.Name x p1, .Name y p2] X.env).map (·.2) = assign (.Name x p1) X.env :: (assignEach [.Name y p2] X.env).map (·.2) := by rfl) (hs2 : (assignEach [.Name y p2] X.env).map (·.2) = assign (.Name y p2) X.env :: (assignEach [] X.env).map (·.2) := by rfl) :
    DG X (.Tuple [.Name x p1, .Name y p2] kk pos) (unp2 i j) := by
  refine ⟨_, pg_tup hc (pgs_cons (pg_name hN hi hx hf) (pgs_cons (pg_name hN hj hy hf2) pgs_nil hs2) hs1) hn hst, fun w H σ s v d Q R r p => ?_⟩
  unfold unp2 at p
  split at p
  · next d1 d2 =>
    obtain ⟨a, vs, rfl, h1, h2⟩ := R.tuple r (ds := [d1, d2]) rfl
    cases h2 with
    | cons r1 t1 =>
      cases t1 with
      | cons r2 t2 =>
        cases t2
        exact ⟨a, _, rfl, h1, rfl, _, _, rfl, _, _, rfl, rfl, p w H _ (Le.refl _ _) ((R.set r1).set r2)⟩
  · exact p.elim
theorem unp2_ok {i j : Nat} (d : D) (s : S) : (∃ s', unp2 i j d s = .ok .nx s') ∨ unp2 i j d s = .bad := by
  unfold unp2
  split
  · exact .inl ⟨_, rfl⟩
  · exact .inr rfl
end Fx

namespace Fx
open PySem PySem.Spec PyProof.Rows L2
open Classical
variable {X : Cx} {W : WX}
/-! ### [e for x in it if c]: the block's name in slot i -/
def yesM : M Bool := ret true
noncomputable def lcLoop (ok : S → Prop) (i : Nat) (c : M Bool) (e : M D) (l0 l : List (Option D)) : List D → List D → M Cell
  | [], acc => fun s => if ok s then .ok (.lst acc) { s with loc := l } else .bad
  | d :: ds, acc => fun s => if ok s ∧ acc.length < sizeLine then (match c { s with loc := l0.set i (some d) } with
    | .ok true s1 => match e s1 with
      | .ok y s2 => lcLoop ok i c e l0 l ds (acc ++ [y]) { s2 with loc := l0 }
      | _ => .bad
    | .ok false s1 => lcLoop ok i c e l0 l ds acc { s1 with loc := l0 }
    | _ => .bad) else .bad
noncomputable def lcM (f : M Wk) (i : Nat) (c : M Bool) (e : M D) : M Cell := bnd f fun it s => lcLoop it.ok i c e (s.loc.set i none) s.loc it.items [] { s with loc := s.loc.set i none }
theorem set_set_none {α : Type} {l : List (Option α)} {i : Nat} {x : Option α} : ((l.set i none).set i x).set i none = l.set i none := by
  rw [List.set_set, List.set_set]
theorem RS.wipe {K : PySem.W.Frag} {w : Wd} {H : Hp} {σ : L2.St} {s : S} {i : Nat} (R : RS K w H σ s) : RS K w H (σ.set i none) { s with loc := s.loc.set i none } := by
  refine R.other (by rw [List.length_set, List.length_set]; exact R.len) fun j d h => ?_
  by_cases hj : j = i
  · subst hj
    by_cases hl : j < s.loc.length
    · rw [List.getElem?_set_self hl] at h; cases h
    · rw [List.getElem?_eq_none (by rw [List.length_set]; omega)] at h; cases h
  · rw [List.getElem?_set_ne (Ne.symm hj)] at h ⊢
    exact R.loc j d h
/-- the slots that hold the locals l, by w -/
def LocOk (K : PySem.W.Frag) (w : Wd) (σ : L2.St) (l : List (Option D)) : Prop := σ.length = l.length ∧ ∀ (i : Nat) d, l[i]? = some (some d) → ∃ v, σ[i]? = some (some v) ∧ Rep K w v d
theorem LocOk.up {K : PySem.W.Frag} {w w' : Wd} {σ : L2.St} {l : List (Option D)} (h : LocOk K w σ l) (le : w.le w') : LocOk K w' σ l := ⟨h.1, fun i d e => let ⟨v, a, b⟩ := h.2 i d e; ⟨v, a, b.upW le⟩⟩
theorem RS.locOk {K : PySem.W.Frag} {w : Wd} {H : Hp} {σ : L2.St} {s : S} (R : RS K w H σ s) : LocOk K w σ s.loc := ⟨R.len, R.loc⟩
theorem RS.withLoc {K : PySem.W.Frag} {w : Wd} {H : Hp} {σ σ' : L2.St} {s : S} {l : List (Option D)} (R : RS K w H σ s) (h : LocOk K w σ' l) : RS K w H σ' { s with loc := l } := R.other h.1 h.2
theorem Le.mut {w w1 : Wd} {H H1 : Hp} {p : Addr} {o : HO} (l : Le w H w1 H1) (hp : H p = none) : Le w H w1 (upd H1 p o) := ⟨l.le, fun a q e h => by rw [upd_ne (ne_of_none e hp)]; exact l.keep a q e h, l.newρ, l.newF⟩
/-- a tracked thing that is neither frozen nor a cell may change -/
theorem RS.mut {K : PySem.W.Frag} {w : Wd} {H : Hp} {σ : L2.St} {s : S} {p : Addr} {o : HO} (R : RS K w H σ s) (hf : w.F p = none) (hr : p ∉ w.ρ) : RS K w (upd H p o) σ s :=
  ⟨fun a q e => by rw [upd_ne (ne_of_none e hf)]; exact R.sub a q e, R.len, R.loc, R.cl, R.nd, R.out, fun n a c e1 e2 => (R.cells n a c e1 e2).upW (Wd.le.refl w) (upd_ne fun (e : a = p) => hr (e ▸ List.mem_of_getElem? e1))⟩
theorem DN.pe {e : Expr} {f : M Cell} (h : DN X W e f) : PE X e (tM X.K W (pN X.K) f) := by
  obtain ⟨t, p, r⟩ := h
  exact ⟨fun pins s σ H Q I ⟨w, z, R, q⟩ => p.run pins s σ H Q I (r w H σ z Q R q)⟩
def tests (ifs : List Expr) (X : Cx) (c : M Bool) : Prop := PTs X ifs (tM X.K W0 pB c)
theorem tests_nil : tests [] X yesM := ⟨fun pins s σ H Q I ⟨w, z, R, q⟩ => pts_nil.run pins s σ H Q I (Post.here q R rfl)⟩
theorem tests_one {e : Expr} {c : M Bool} (h : DT X W0 e c) : tests [e] X c := pts_one h.pt
theorem lc_fol {wi : TI} {n : Str} {i : Nat} {fi : M Wk} {c : M Bool} {fe : M D} (r : Fol X.K W (pI X.K) wi fi) : Fol X.K W (pN X.K) (tLc wi (gName i) (tM X.K W0 pB c) (tM X.K W0 (pD X.K) fe) ([(n, i)].map (·.2))) (lcM fi i c fe) := by
  intro w H σ s Q R z
  refine r.bnd R z fun it s1 w1 H1 J l1 R1 r1 p1 => ?_
  intro Dl hD
  have fr := R1.fresh hD
  have z1 : Post X.K W (pN X.K) w1 H1 σ (lcLoop it.ok i c fe (s1.loc.set i none) s1.loc it.items [] { s1 with loc := s1.loc.set i none }) Q := p1
  have ew : L2.wipe σ ([(n, i)].map (·.2)) = σ.set i none := rfl
  -- what holds between two turns
  refine ⟨fun k m H' => m = it.items.length - k ∧ k ≤ it.items.length ∧ ∃ w' s' acc, Le w1 H1 w' H' ∧ RS X.K w' H' (σ.set i none) s' ∧ s'.loc = s1.loc.set i none ∧ w'.F Dl = none ∧ Dl ∉ w'.ρ ∧ (∃ vs, H' Dl = some (.lst vs) ∧ RepL X.K w' vs acc) ∧
    Post X.K W (pN X.K) w1 H1 σ (lcLoop it.ok i c fe (s1.loc.set i none) s1.loc (it.items.drop k) acc s') Q, ⟨_, rfl, Nat.zero_le _, w1, { s1 with loc := s1.loc.set i none }, [], Le.laid hD, (R1.laid hD).wipe, rfl, fr.1, fr.2, ⟨[], upd_same, .nil⟩, z1⟩, ?_⟩
  rintro k m H' ⟨rfl, hk, w', s', acc, l', R', el, hF, hρ, ⟨vs, hvs, racc⟩, z'⟩
  by_cases hlt : k < it.items.length
  · obtain ⟨d, hd⟩ : ∃ d, it.items[k]? = some d := ⟨_, List.getElem?_eq_getElem hlt⟩
    have ed : it.items.drop k = d :: it.items.drop (k + 1) := by
      rw [List.drop_eq_getElem_cons hlt]
      rw [List.getElem?_eq_getElem hlt] at hd
      rw [Option.some.inj hd]
    rw [ed] at z'
    unfold lcLoop at z'
    by_cases hok : it.ok s' ∧ acc.length < sizeLine
    · rw [if_pos hok] at z'
      obtain ⟨h1, h2, h3⟩ := r1 w' H' _ s' l'.le R' hok.1 k
      refine .inr ⟨h1 hlt, fun H2 => (k + 1 ≤ it.items.length ∧ ∃ w' s' acc, Le w1 H1 w' H2 ∧ RS X.K w' H2 (σ.set i none) s' ∧ s'.loc = s1.loc.set i none ∧ w'.F Dl = none ∧ Dl ∉ w'.ρ ∧ (∃ vs, H2 Dl = some (.lst vs) ∧ RepL X.K w' vs acc) ∧
        Post X.K W (pN X.K) w1 H1 σ (lcLoop it.ok i c fe (s1.loc.set i none) s1.loc (it.items.drop (k + 1)) acc s') Q), fun H2 hh => ⟨it.items.length - (k + 1), by omega, rfl, hh⟩, fun x H2 hy => ?_⟩
      obtain ⟨w2, l2, R2, r2⟩ := h3 x H2 hy d hd
      rw [ew]
      refine ⟨set_set_none, ?_⟩
      have R2s := R2.set (i := i) r2
      rw [el] at R2s
      -- the new list from one state to a later one
      have carry : ∀ {w5 : Wd} {H5 : Hp}, Le w' H' w5 H5 → w5.F Dl = none ∧ Dl ∉ w5.ρ ∧ H5 Dl = some (.lst vs) := fun {w5 H5} l5 => by
        refine ⟨?_, fun h => ?_, l5.keep Dl _ hvs hρ⟩
        · cases q : w5.F Dl with
          | none => rfl
          | some o =>
            rcases l5.newF Dl o q with h | h | h
            · rw [hF] at h; cases h
            · rw [hvs] at h; cases h
            · exact (hρ h).elim
        · rcases l5.newρ Dl h with h | h
          · exact hρ h
          · rw [hvs] at h; cases h
      have loc0 : LocOk X.K w1 (σ.set i none) (s1.loc.set i none) := R1.wipe.locOk
      refine ⟨w2, _, R2s, ?_⟩
      have z' : Post X.K W (pN X.K) w1 H1 σ (match c { s' with loc := (s1.loc.set i none).set i (some d) } with
        | .ok true s1' => match fe s1' with
          | .ok y s2 => lcLoop it.ok i c fe (s1.loc.set i none) s1.loc (it.items.drop (k + 1)) (acc ++ [y]) { s2 with loc := s1.loc.set i none }
          | _ => .bad
        | .ok false s1' => lcLoop it.ok i c fe (s1.loc.set i none) s1.loc (it.items.drop (k + 1)) acc { s1' with loc := s1.loc.set i none }
        | _ => .bad) Q := z'
      cases hcc : c { s' with loc := (s1.loc.set i none).set i (some d) } with
      | exc _ _ => rw [hcc] at z'; exact z'.elim
      | bad => rw [hcc] at z'; exact z'.elim
      | ok b s3 =>
        rw [hcc] at z'
        rintro w3 H3 b' l3 R3 eb
        have eb : b' = b := eb
        subst eb
        cases b' with
        | false =>
          obtain ⟨c1, c2, c3⟩ := carry (l2.trans l3)
          have lt := l'.trans (l2.trans l3)
          exact ⟨hlt, w3, { s3 with loc := s1.loc.set i none }, acc, lt, R3.withLoc (loc0.up lt.le), rfl, c1, c2, ⟨vs, c3, racc.up (l2.trans l3)⟩, z'⟩
        | true =>
          refine ⟨w3, s3, R3, ?_⟩
          have z' : Post X.K W (pN X.K) w1 H1 σ (match fe s3 with
            | .ok y s2 => lcLoop it.ok i c fe (s1.loc.set i none) s1.loc (it.items.drop (k + 1)) (acc ++ [y]) { s2 with loc := s1.loc.set i none }
            | _ => .bad) Q := z'
          cases hee : fe s3 with
          | exc _ _ => rw [hee] at z'; exact z'.elim
          | bad => rw [hee] at z'; exact z'.elim
          | ok y s4 =>
            rw [hee] at z'
            rintro w4 H4 v l4 R4 ry
            have lt := l2.trans (l3.trans l4)
            obtain ⟨c1, c2, c3⟩ := carry lt
            have lt1 := l'.trans lt
            refine ⟨vs, c3, by rw [RepL.length racc]; exact hok.2, hlt, w4, { s4 with loc := s1.loc.set i none }, acc ++ [y], lt1.mut hD, (R4.withLoc (loc0.up lt1.le)).mut c1 c2, rfl, c1, c2, ⟨vs ++ [v], upd_same, RepL.append (racc.up lt) (.cons ry .nil)⟩, z'⟩
    · rw [if_neg hok] at z'; exact z'.elim
  · have hk' : it.items.length ≤ k := by omega
    rw [List.drop_eq_nil_of_le hk'] at z'
    unfold lcLoop at z'
    by_cases hok : it.ok s'
    · rw [if_pos hok] at z'
      obtain ⟨h1, h2, h3⟩ := r1 w' H' _ s' l'.le R' hok k
      refine .inl ⟨h2 hk', z' w' H' _ l' (R'.withLoc (R1.locOk.up l'.le)) ⟨Dl, rfl, hF, hρ, ⟨vs, hvs, racc⟩, hD⟩⟩
    · rw [if_neg hok] at z'; exact z'.elim
theorem dn_lc {elt tg iter : Expr} {ifs : List Expr} {scope : Scope} {n : Str} {i : Nat} {pos : Pos} {fi : M Wk} {c : M Bool} {fe : M D} (hc : X.calm = true) (hN : X.N.Nodup) (hi : DI X W tg iter fi) (ok : BlkOk X.N X.env.scope scope [(n, i)])
    (hg : ∀ (s : Shared) (H : Hp) (C : Addr) (cl : List (Str × Addr)) (fp : List Addr), PG (X.blk s H scope (compEnvC scope cl C X.env) fp) tg (gName i))
    (ht : ∀ (s : Shared) (H : Hp) (C : Addr) (cl : List (Str × Addr)) (fp : List Addr), tests ifs (X.blk s H scope (compEnvC scope cl C X.env) fp) c)
    (he : ∀ (s : Shared) (H : Hp) (C : Addr) (cl : List (Str × Addr)) (fp : List Addr), DE (X.blk s H scope (compEnvC scope cl C X.env) fp) W0 elt fe) (hs : ∀ x, foldedSetIterable iter X.env x = pure x := by intro _; rfl) :
    DN X W (.ListComp elt [⟨tg, iter, ifs, 0⟩] scope pos) (lcM fi i c fe) := by
  obtain ⟨wi, p, r⟩ := hi
  exact ⟨_, pe_lc (tt := tM X.K W0 pB c) (te := tM X.K W0 (pD X.K) fe) hc hN p ok hg (fun s H C cl fp => ht s H C cl fp) (fun s H C cl fp => (he s H C cl fp).pe) hs, lc_fol r⟩
/-- y = [..] on one line: frozen, or a cell -/
theorem DE.asg_fol {te : TE} {f : M D} {j : Nat} (h : Fol X.K W (pD X.K) te f) : FolS X.K W (tAsg te (gName j)) (asgM f (setL j)) := fun w H σ s D R z =>
  h.bndS R z fun d s1 w1 H1 v1 l1 R1 r1 p1 => p1 w1 H1 _ (Le.refl _ _) (R1.set r1)
section
variable {elt tg iter : Expr} {ifs : List Expr} {scope : Scope} {n y : Str} {i j : Nat} {py pos spos : Pos} {fi : M Wk} {c : M Bool} {fe : M D}
theorem ds_lc (own : Bool) (hc : X.calm = true) (hN : X.N.Nodup) (hi : DI X W tg iter fi) (ok : BlkOk X.N X.env.scope scope [(n, i)])
    (hg : ∀ (s : Shared) (H : Hp) (C : Addr) (cl : List (Str × Addr)) (fp : List Addr), PG (X.blk s H scope (compEnvC scope cl C X.env) fp) tg (gName i))
    (ht : ∀ (s : Shared) (H : Hp) (C : Addr) (cl : List (Str × Addr)) (fp : List Addr), tests ifs (X.blk s H scope (compEnvC scope cl C X.env) fp) c)
    (he : ∀ (s : Shared) (H : Hp) (C : Addr) (cl : List (Str × Addr)) (fp : List Addr), DE (X.blk s H scope (compEnvC scope cl C X.env) fp) W0 elt fe)
    (hsw : swapsWith (.ListComp elt [⟨tg, iter, ifs, 0⟩] scope pos) (some (.Name y py)) spos.line X.env = pure true) (hy : X.N[j]? = some y := by rfl) (hyl : X.env.scope.names.lookup y = some .local := by rfl) (hs : ∀ x, foldedSetIterable iter X.env x = pure x := by intro _; rfl) :
    DS X W (.Assign [.Name y py] (.ListComp elt [⟨tg, iter, ifs, 0⟩] scope pos) spos) (asgM (if own = true then ownM (lcM fi i c fe) else frzM (lcM fi i c fe)) (setL j)) := by
  obtain ⟨wi, p, r⟩ := hi
  have f : Fol X.K W (pN X.K) (tLc wi (gName i) (tM X.K W0 pB c) (tM X.K W0 (pD X.K) fe) ([(n, i)].map (·.2))) (lcM fi i c fe) := lc_fol r
  refine ⟨_, ps_setLc (tt := tM X.K W0 pB c) (te := tM X.K W0 (pD X.K) fe) hc hN hy hyl hsw p ok hg (fun s H C cl fp => ht s H C cl fp) (fun s H C cl fp => (he s H C cl fp).pe) hs, ?_⟩
  cases own with
  | true => exact DE.asg_fol (own_fol f)
  | false => exact DE.asg_fol (frz_fol f)
end
end Fx

namespace Fx
open PySem PySem.Spec PyProof.Rows L2
open Classical
variable {X : Cx} {W : WX}
/-! ### what a def hands back: its new cells as trees -/
mutual
/-- no cell from b on -/
def nc (b : Nat) : D → Bool
  | .cell n => decide (n < b)
  | .tup xs => ncL b xs
  | .lst xs => ncL b xs
  | _ => true
def ncL (b : Nat) : List D → Bool
  | [] => true
  | x :: xs => nc b x && ncL b xs
end
def mapO (f : D → Option D) : List D → Option (List D)
  | [] => some []
  | x :: xs => match f x, mapO f xs with
    | some y, some ys => some (y :: ys)
    | _, _ => none
def thaw (vh : List Cell) (b : Nat) : Nat → D → Option D
  | 0, d => if nc b d = true then some d else none
  | k + 1, d => if nc b d = true then some d else match d with
    | .cell n => match vh[n]? with
      | some (.lst ds) => (mapO (thaw vh b k) ds).map .lst
      | _ => none
    | .tup ds => (mapO (thaw vh b k) ds).map .tup
    | .lst ds => (mapO (thaw vh b k) ds).map .lst
    | _ => none
def Wd.fall (w : Wd) (b : Nat) (H : Hp) : Wd := ⟨w.ρ.take b, fun a => match w.F a with
  | some o => some o
  | none => if a ∈ w.ρ.drop b then H a else none⟩
section
variable {K : PySem.W.Frag} {w w0 : Wd} {H H0 : Hp} {σ : L2.St} {s : S} {b : Nat}
theorem fall_F {a : Addr} {o : HO} (h : w.F a = some o) : (w.fall b H).F a = some o := by
  show (match w.F a with | some o => some o | none => if a ∈ w.ρ.drop b then H a else none) = some o
  rw [h]
mutual
theorem nc_rep : ∀ {v : V} {d : D}, Rep K w v d → nc b d = true → Rep K (w.fall b H) v d
  | _, _, .non, _ => .non
  | _, _, .bl x, _ => .bl x
  | _, _, .int i, _ => .int i
  | _, _, .str x, _ => .str x
  | _, _, .ref a, _ => .ref a
  | _, _, .tup h t, c => .tup (sqT_up (fun _ _ e => fall_F e) h) (nc_repL t (by simpa [nc] using c))
  | _, _, .lst h t, c => .lst (sqL_up (fun _ _ e => fall_F e) h) (nc_repL t (by simpa [nc] using c))
  | _, _, .cell (n := n) h, c => .cell (by
      have hn : n < b := by simpa [nc] using c
      show (w.ρ.take b)[n]? = _
      rw [List.getElem?_take, if_pos hn]; exact h)
theorem nc_repL : ∀ {vs : List V} {ds : List D}, RepL K w vs ds → ncL b ds = true → RepL K (w.fall b H) vs ds
  | _, _, .nil, _ => .nil
  | _, _, .cons h t, c => by
    have c : (nc b _ && ncL b _) = true := c
    rw [Bool.and_eq_true] at c
    exact .cons (nc_rep h c.1) (nc_repL t c.2)
end
mutual
theorem nc_of : ∀ {v : V} {d : D}, Rep K w0 v d → w0.ρ.length ≤ b → nc b d = true
  | _, _, .non, _ => rfl
  | _, _, .bl x, _ => rfl
  | _, _, .int i, _ => rfl
  | _, _, .str x, _ => rfl
  | _, _, .ref a, _ => rfl
  | _, _, .tup h t, c => by unfold nc; exact nc_ofL t c
  | _, _, .lst h t, c => by unfold nc; exact nc_ofL t c
  | _, _, .cell (n := n) h, c => by
    have := (List.getElem?_eq_some_iff.mp h).1
    unfold nc; exact decide_eq_true (by omega)
theorem nc_ofL : ∀ {vs : List V} {ds : List D}, RepL K w0 vs ds → w0.ρ.length ≤ b → ncL b ds = true
  | _, _, .nil, _ => rfl
  | _, _, .cons h t, c => by
    unfold ncL
    rw [nc_of h c, nc_ofL t c]; rfl
end
theorem nc_repK : ∀ {vs vs0 : List (Key × V)} {ds : List (Key × D)}, RepK K w vs ds → RepK K w0 vs0 ds → w0.ρ.length ≤ b → RepK K (w.fall b H) vs ds
  | _, _, _, .nil, _, _ => .nil
  | _, _, _, .cons h t, .cons h0 t0, c => .cons (nc_rep h (nc_of h0 c)) (nc_repK t t0 c)
theorem mapO_rep {f : D → Option D} {w1 : Wd} (ih : ∀ v d d', Rep K w v d → f d = some d' → Rep K w1 v d') : ∀ {vs : List V} {ds ds' : List D}, RepL K w vs ds → mapO f ds = some ds' → RepL K w1 vs ds'
  | _, _, _, .nil, e => by cases e; exact .nil
  | _, _, _, .cons (d := d) (ds := ds) h t, e => by
    unfold mapO at e
    cases h1 : f d with
    | none => rw [h1] at e; cases e
    | some y =>
      cases h2 : mapO f ds with
      | none => rw [h1, h2] at e; cases e
      | some ys =>
        rw [h1, h2] at e; cases e
        exact .cons (ih _ _ _ h h1) (mapO_rep ih t h2)
theorem RepL.nd (R : RS K w H σ s) {n : Nat} {a : Addr} (h : w.ρ[n]? = some a) (hb : b ≤ n) : a ∈ w.ρ.drop b := by
  refine List.mem_of_getElem? (i := n - b) ?_
  rw [List.getElem?_drop, Nat.add_sub_cancel' hb]; exact h
theorem thaw_rep (R : RS K w H σ s) : ∀ (k : Nat) {v : V} {d d' : D}, Rep K w v d → thaw s.vh b k d = some d' → Rep K (w.fall b H) v d'
  | 0, v, d, d', r, e => by
    unfold thaw at e
    split at e
    · next c => cases e; exact nc_rep r c
    · cases e
  | k + 1, v, d, d', r, e => by
    unfold thaw at e
    split at e
    · next c => cases e; exact nc_rep r c
    · next c =>
      have ih : ∀ {v : V} {d d' : D}, Rep K w v d → thaw s.vh b k d = some d' → Rep K (w.fall b H) v d' := fun r q => thaw_rep R k r q
      cases r with
      | tup h t =>
        dsimp only at e
        cases h2 : mapO (thaw s.vh b k) _ with
        | none => rw [h2] at e; cases e
        | some ys => rw [h2] at e; cases e; exact .tup (sqT_up (fun _ _ e => fall_F e) h) (mapO_rep (fun _ _ _ r q => ih r q) t h2)
      | lst h t =>
        dsimp only at e
        cases h2 : mapO (thaw s.vh b k) _ with
        | none => rw [h2] at e; cases e
        | some ys => rw [h2] at e; cases e; exact .lst (sqL_up (fun _ _ e => fall_F e) h) (mapO_rep (fun _ _ _ r q => ih r q) t h2)
      | @cell a n h =>
        dsimp only at e
        have hn : ¬ n < b := by simpa [nc] using c
        obtain ⟨cc, e1, hc⟩ := R.cellOf h
        rw [e1] at e
        cases cc with
        | dct _ => cases e
        | lst ds =>
          dsimp only at e
          cases h2 : mapO (thaw s.vh b k) ds with
          | none => rw [h2] at e; cases e
          | some ys =>
            rw [h2] at e; cases e
            obtain ⟨vs, q1, q2⟩ := hc
            refine .lst (SqL.of ?_) (mapO_rep (fun _ _ _ r q => ih r q) q2 h2)
            show (match w.F _ with | some o => some o | none => if _ ∈ w.ρ.drop b then H _ else none) = _
            rw [R.out _ (List.mem_of_getElem? h)]
            show (if _ ∈ w.ρ.drop b then H _ else none) = _
            rw [if_pos (RepL.nd R h (by omega))]; exact q1
      | _ => simp [nc] at c
/-- the caller's state behind a def that changed nothing of it -/
theorem RS.back {σ0 : L2.St} {s0 : S} (R0 : RS K w0 H0 σ0 s0) (l : Le w0 H0 w H) (R : RS K w H σ s) (hp : s.vh.take s0.vh.length = s0.vh) (hb : b = s0.vh.length) : Le w0 H0 (w.fall b H) H ∧ RS K (w.fall b H) H σ0 s0 := by
  subst hb
  have hlen : s0.vh.length ≤ w.ρ.length := by
    rw [R.cl]
    have := congrArg List.length hp
    rw [List.length_take] at this
    omega
  have hρ : ∀ n a, w0.ρ[n]? = some a → (w.ρ.take s0.vh.length)[n]? = some a := fun n a e => by
    have hn : n < s0.vh.length := by rw [← R0.cl]; exact (List.getElem?_eq_some_iff.mp e).1
    rw [List.getElem?_take, if_pos hn]; exact l.le.1 n a e
  have le : w0.le (w.fall s0.vh.length H) := ⟨hρ, fun a o e => fall_F (l.le.2 a o e)⟩
  have outD : ∀ a ∈ w.ρ.drop s0.vh.length, a ∉ w.ρ.take s0.vh.length := fun a h h2 => by
    have nd := R.nd
    rw [← List.take_append_drop s0.vh.length w.ρ, List.nodup_append] at nd
    exact nd.2.2 a h2 a h rfl
  refine ⟨⟨le, l.keep, fun a h => l.newρ a (List.mem_of_mem_take h), fun a o h => ?_⟩, ?_⟩
  · have h : (match w.F a with | some o => some o | none => if a ∈ w.ρ.drop s0.vh.length then H a else none) = some o := h
    cases q : w.F a with
    | some o' => rw [q] at h; cases h; exact l.newF a _ q
    | none =>
      rw [q] at h
      have h : (if a ∈ w.ρ.drop s0.vh.length then H a else none) = some o := h
      split at h
      · next hm =>
        rcases l.newρ a (List.mem_of_mem_drop hm) with z | z
        · exact .inr (.inr z)
        · exact .inr (.inl z)
      · cases h
  · refine ⟨fun a o h => ?_, R0.len, fun i d e => ?_, ?_, R.nd.sublist (List.take_sublist _ _), fun a ha => ?_, fun n a c e1 e2 => ?_⟩
    · have h : (match w.F a with | some o => some o | none => if a ∈ w.ρ.drop s0.vh.length then H a else none) = some o := h
      cases q : w.F a with
      | some o' => rw [q] at h; cases h; exact R.sub a _ q
      | none =>
        rw [q] at h
        have h : (if a ∈ w.ρ.drop s0.vh.length then H a else none) = some o := h
        split at h
        · exact h
        · cases h
    · obtain ⟨v, h1, h2⟩ := R0.loc i d e
      exact ⟨v, h1, h2.upW le⟩
    · show (w.ρ.take s0.vh.length).length = _
      rw [List.length_take]; omega
    · show (match w.F a with | some o => some o | none => if a ∈ w.ρ.drop s0.vh.length then H a else none) = none
      rw [R.out a (List.mem_of_mem_take ha)]
      show (if a ∈ w.ρ.drop s0.vh.length then H a else none) = none
      rw [if_neg fun h => outD a h ha]
    · have e1 : (w.ρ.take s0.vh.length)[n]? = some a := e1
      have hn : n < s0.vh.length := (List.getElem?_eq_some_iff.mp e2).1
      rw [List.getElem?_take, if_pos hn] at e1
      have e2' : s.vh[n]? = some c := by
        rw [← hp, List.getElem?_take, if_pos hn] at e2; exact e2
      have hc := R.cells n a c e1 e2'
      obtain ⟨a0, _, hc0⟩ := R0.addrOf e2
      cases c with
      | lst ds =>
        obtain ⟨vs, q1, q2⟩ := hc
        obtain ⟨vs0, _, q0⟩ := hc0
        exact ⟨vs, q1, nc_repL q2 (nc_ofL q0 (Nat.le_of_eq R0.cl))⟩
      | dct kvs =>
        obtain ⟨vs, q1, q2⟩ := hc
        obtain ⟨vs0, _, q0⟩ := hc0
        exact ⟨vs, q1, nc_repK q2 q0 (Nat.le_of_eq R0.cl)⟩
end
/-! ### pure defs -/
abbrev Pf := List D → List Cell → Option D
noncomputable def fin (vh : List Cell) (s : S) (d : D) : Option D := if s.vh.take vh.length = vh then thaw s.vh vh.length 8 d else none
def initS (n : Nat) (ds : List D) (vh : List Cell) : S := ⟨ds.map some ++ List.replicate (n - ds.length) none, vh⟩
noncomputable def runP (n : Nat) (g : M Out) : Pf := fun ds vh => match g (initS n ds vh) with
  | .ok (.rt d) s => fin vh s d
  | .ok .nx s => fin vh s .non
  | _ => none
/-- the promise: from data to a datum, nothing of the caller's changed -/
def SpP (K : PySem.W.Frag) (n : Nat) (F : Pf) : Sp := fun vs H Q _ => vs.length = n ∧ ∃ w σ s ds d, RS K w H σ s ∧ RepL K w vs ds ∧ F ds s.vh = some d ∧ ∀ w' H' v, Le w H w' H' → RS K w' H' σ s → Rep K w' v d → Q v H'
theorem fn_pure {P : Program} {wd : World} {K : PySem.W.Frag} {mg : Str → Option Value} {base : Heap} {x qual : Str} {st : Stmt} {f : Addr} {fd : FuncData} {N ps : List Str} {k : Nat} {g : M Out} (F : Fun K x qual st f fd) (Sc : FnScope N ps (defScope st)) (hle : ps.length ≤ N.length)
    (body : ∀ (cdv : Value) (A : Around) (outer : List Env) (s : Shared) (H : Hp) (E : XK), Room k (A.deeper (envOfC qual (defScope st) s.heap.objs.size f cdv)) →
      DSs (cxOf CX0 P wd K mg base N qual (defScope st) f cdv A outer s H E).nox W0 (defBody st) g) : FnOk P wd K mg base CX0 (k + 1) f fd ps (SpP K ps.length (runP N.length g)) := by
  refine F.ok Sc (fun vs H Q E h => h.1) fun cdv A outer s H vs Q E hr h => ?_
  obtain ⟨t, p, r⟩ := body cdv A outer s H E hr
  obtain ⟨hl, w, σ, z, ds, d, R, rv, e, q⟩ := h
  refine ⟨t, p, r w H _ (initS N.length ds z.vh) _ ?_ ?_⟩
  · have hdl := RepL.length rv
    refine R.other (l := ds.map some ++ List.replicate (N.length - ds.length) none) ?_ fun i d hi => ?_
    · show (vs.map some ++ List.replicate (N.length - vs.length) none).length = _
      simp only [List.length_append, List.length_map, List.length_replicate]
      rw [hdl]
    · by_cases hlt : i < ds.length
      · rw [List.getElem?_append_left (by rw [List.length_map]; exact hlt), List.getElem?_map] at hi
        cases h2 : ds[i]? with
        | none => rw [h2] at hi; cases hi
        | some d2 =>
          rw [h2] at hi; cases hi
          obtain ⟨v, h3, h4⟩ := RepL.get rv h2
          refine ⟨v, ?_, h4⟩
          show (vs.map some ++ _)[i]? = _
          rw [List.getElem?_append_left (by rw [List.length_map, hdl]; exact hlt), List.getElem?_map, h3]; rfl
      · rw [List.getElem?_append_right (by rw [List.length_map]; omega)] at hi
        have := List.mem_of_getElem? hi
        rw [List.mem_replicate] at this
        cases this.2
  · show PostS K W0 w H (g (initS N.length ds z.vh)) _
    unfold runP at e
    have fin_ok : ∀ {d0 : D} {s1 : S}, fin z.vh s1 d0 = some d → ∀ w' H' σ' v, Le w H w' H' → RS K w' H' σ' s1 → Rep K w' v d0 → Q v H' := fun {d0 s1} e w' H' σ' v l R' rv => by
      unfold fin at e
      split at e
      · next hp =>
        obtain ⟨l2, R2⟩ := RS.back R l R' hp rfl
        exact q _ _ _ l2 R2 (thaw_rep R' 8 rv e)
      · cases e
    cases hg : g (initS N.length ds z.vh) with
    | bad => rw [hg] at e; cases e
    | exc x s1 => rw [hg] at e; cases e
    | ok o s1 =>
      rw [hg] at e
      cases o with
      | brk => cases e
      | cnt => cases e
      | rt d0 => exact fun w' H' σ' v l R' rv => fin_ok e w' H' σ' v l R' rv
      | nx => exact fun w' H' σ' l R' => fin_ok e w' H' σ' .non l R' .non
/-- a def of the text that keeps such a promise, by its name -/
structure FnP (P : Program) (wd : World) (K : PySem.W.Frag) (mg : Str → Option Value) (base : Heap) (x : Str) (n k : Nat) (F : Pf) : Prop where
  ex : ∃ (f : Addr) (fd : FuncData) (ps : List Str), ps.length = n ∧ mg x = some (.ref f) ∧ PySem.W.keepIn K (.ref f) = true ∧ Binds K fd ps [] ∧ FnOk P wd K mg base CX0 k f fd ps (SpP K n F)
theorem FnP.mono {P : Program} {wd : World} {K : PySem.W.Frag} {mg : Str → Option Value} {base : Heap} {x : Str} {n j k : Nat} {F : Pf} (h : FnP P wd K mg base x n j F) (l : j ≤ k) : FnP P wd K mg base x n k F :=
  let ⟨f, fd, ps, a, b, c, d, e⟩ := h.ex; ⟨f, fd, ps, a, b, c, d, e.mono l⟩
def callP (n : Nat) (F : Pf) (ds : List D) : M D := fun s => if ds.length = n then match F ds s.vh with
  | some d => .ok d s
  | none => .bad else .bad
theorem de_callP {x : Str} {n k : Nat} {F : Pf} {e : Expr} {es : List Expr} {fs : M (List D)} {p pos : Pos} (h : FnP X.prog X.w X.K X.mg X.base x n k F) (hr : Room k X.A) (ha : DA X W (e :: es) fs) (hg : Gl X x := by rfl) (hdb : (x == ("__debug__" : Str)) = false := by decide)
    (he : starEach (e :: es) X.env = (false, eval e X.env) :: starEach es X.env := by rfl) (hpl : (backTo pos (starEach es X.env)).any (·.1) = false := by rfl) : DE X W (.Call (.Name x p) (e :: es) [] pos) (bnd fs (callP n F)) := by
  obtain ⟨f, fd, ps, hps, hm, hk, hb, G⟩ := h.ex
  obtain ⟨t, q, r⟩ := ha
  refine ⟨_, pe_call G hr hg hm hk hb .nil pass0 q hdb he hpl, fun w H σ s Q R z => ?_⟩
  refine r.bnd R z fun ds s1 w1 H1 vs l1 R1 r1 p1 => ?_
  have p1 : Post X.K W (pD X.K) w1 H1 σ (if ds.length = n then match F ds s1.vh with
    | some d => .ok d s1
    | none => .bad else .bad) Q := p1
  by_cases hl : ds.length = n
  · rw [if_pos hl] at p1
    cases hF : F ds s1.vh with
    | none => rw [hF] at p1; exact p1.elim
    | some d =>
      rw [hF] at p1
      refine ⟨?_, w1, σ, s1, ds, d, R1, ?_, hF, fun w' H' v l R' r' => p1 w' H' v l R' r'⟩
      · rw [List.append_nil, RepL.length r1]; exact hl
      · rw [List.append_nil]; exact r1
  · rw [if_neg hl] at p1; exact p1.elim
end Fx

namespace Fx
open PySem PySem.Spec PyProof.Rows L2
variable {X : Cx} {W : WX}
/-! ### built-in calls -/
def RCal (X : Cx) (r : List V → Hp → VK → Prop) (g : List D → M D) : Prop := ∀ (W : WX) w H σ s vs ds Q, RS X.K w H σ s → RepL X.K w vs ds → Post X.K W (pD X.K) w H σ (g ds s) Q → r vs H Q
def RCalN (X : Cx) (r : List V → Hp → VK → Prop) (g : List D → M Cell) : Prop := ∀ (W : WX) w H σ s vs ds Q, RS X.K w H σ s → RepL X.K w vs ds → Post X.K W (pN X.K) w H σ (g ds s) Q → r vs H Q
section
variable {id : String} {r : List V → Hp → VK → Prop} {x : Str} {e : Expr} {es : List Expr} {fs : M (List D)} {p pos : Pos} {T : String}
theorem de_callB {g : List D → M D} (hc : CallR X (.builtin id) r) (hr : RCal X r g) (hm : X.mg x = none) (ha : DA X W (e :: es) fs) (hv : bootBuiltins x = some (.builtin id)) (hg : Gl X x := by rfl) (hn : x ≠ "__name__" := by decide) (hdb : (x == ("__debug__" : Str)) = false := by decide)
    (he : starEach (e :: es) X.env = (false, eval e X.env) :: starEach es X.env := by rfl) (hpl : (backTo pos (starEach es X.env)).any (·.1) = false := by rfl) : DE X W (.Call (.Name x p) (e :: es) [] pos) (bnd fs g) := by
  obtain ⟨t, q, k⟩ := ha
  refine ⟨_, pe_callB hc hg hm hv q hn hdb he hpl, fun w H σ s Q R z => ?_⟩
  exact k.bnd R z fun ds s1 w1 H1 vs l1 R1 r1 p1 => hr W w1 H1 σ s1 vs ds Q R1 r1 p1
theorem dn_callB {g : List D → M Cell} (hc : CallR X (.builtin id) r) (hr : RCalN X r g) (hm : X.mg x = none) (ha : DA X W (e :: es) fs) (hv : bootBuiltins x = some (.builtin id)) (hg : Gl X x := by rfl) (hn : x ≠ "__name__" := by decide) (hdb : (x == ("__debug__" : Str)) = false := by decide)
    (he : starEach (e :: es) X.env = (false, eval e X.env) :: starEach es X.env := by rfl) (hpl : (backTo pos (starEach es X.env)).any (·.1) = false := by rfl) : DN X W (.Call (.Name x p) (e :: es) [] pos) (bnd fs g) := by
  obtain ⟨t, q, k⟩ := ha
  refine ⟨_, pe_callB hc hg hm hv q hn hdb he hpl, fun w H σ s Q R z => ?_⟩
  exact k.bnd R z fun ds s1 w1 H1 vs l1 R1 r1 p1 => hr W w1 H1 σ s1 vs ds Q R1 r1 p1
theorem de_callT {g : List D → M D} (hc : CallR X (.type T) r) (hr : RCal X r g) (hm : X.mg x = none) (ha : DA X W (e :: es) fs) (hv : bootBuiltins x = some (.type T)) (hg : Gl X x := by rfl) (hn : x ≠ "__name__" := by decide) (hdb : (x == ("__debug__" : Str)) = false := by decide)
    (he : starEach (e :: es) X.env = (false, eval e X.env) :: starEach es X.env := by rfl) (hpl : (backTo pos (starEach es X.env)).any (·.1) = false := by rfl) : DE X W (.Call (.Name x p) (e :: es) [] pos) (bnd fs g) := by
  obtain ⟨t, q, k⟩ := ha
  refine ⟨_, pe_callTy hc hg hm hv q hn hdb he hpl, fun w H σ s Q R z => ?_⟩
  exact k.bnd R z fun ds s1 w1 H1 vs l1 R1 r1 p1 => hr W w1 H1 σ s1 vs ds Q R1 r1 p1
theorem dn_callT {g : List D → M Cell} (hc : CallR X (.type T) r) (hr : RCalN X r g) (hm : X.mg x = none) (ha : DA X W (e :: es) fs) (hv : bootBuiltins x = some (.type T)) (hg : Gl X x := by rfl) (hn : x ≠ "__name__" := by decide) (hdb : (x == ("__debug__" : Str)) = false := by decide)
    (he : starEach (e :: es) X.env = (false, eval e X.env) :: starEach es X.env := by rfl) (hpl : (backTo pos (starEach es X.env)).any (·.1) = false := by rfl) : DN X W (.Call (.Name x p) (e :: es) [] pos) (bnd fs g) := by
  obtain ⟨t, q, k⟩ := ha
  refine ⟨_, pe_callTy hc hg hm hv q hn hdb he hpl, fun w H σ s Q R z => ?_⟩
  exact k.bnd R z fun ds s1 w1 H1 vs l1 R1 r1 p1 => hr W w1 H1 σ s1 vs ds Q R1 r1 p1
end
theorem one_of {K : PySem.W.Frag} {w : Wd} {vs : List V} {d : D} (r : RepL K w vs [d]) : ∃ v, vs = [v] ∧ Rep K w v d := by
  cases r with | cons h t => cases t; exact ⟨_, rfl, h⟩
theorem two_of {K : PySem.W.Frag} {w : Wd} {vs : List V} {d e : D} (r : RepL K w vs [d, e]) : ∃ v u, vs = [v, u] ∧ Rep K w v d ∧ Rep K w u e := by
  cases r with | cons h t => cases t with | cons h2 t2 => cases t2; exact ⟨_, _, rfl, h, h2⟩
/-! len -/
def lenM : List D → M D
  | [d] => fun s => match d with
    | .str x => if lenOk x.length = true then .ok (.int x.length) s else .bad
    | .tup ds => .ok (.int ds.length) s
    | d => match lstOf s d with
      | some ds => .ok (.int ds.length) s
      | none => match dctOf s d with
        | some kvs => .ok (.int kvs.length) s
        | none => .bad
  | _ => fail
theorem callR_or {f : Value} {r1 r2 : List V → Hp → VK → Prop} (h1 : CallR X f r1) (h2 : CallR X f r2) : CallR X f (fun xs H Q => r1 xs H Q ∨ r2 xs H Q) := by
  intro pins s σ H xs us Q I r h
  rcases h with h | h
  · exact h1 pins s σ H xs us Q I r h
  · exact h2 pins s σ H xs us Q I r h
theorem RepK.length {K : PySem.W.Frag} {w : Wd} : ∀ {vs : List (Key × V)} {ds : List (Key × D)}, RepK K w vs ds → vs.length = ds.length
  | _, _, .nil => rfl
  | _, _, .cons _ t => by simp only [List.length_cons]; rw [RepK.length t]
theorem rc_len : RCal X (fun xs H Q => (∃ x n, xs = [x] ∧ LenV X.K x H n ∧ Q (.int n) H) ∨ ∃ a kvs, xs = [V.ref a] ∧ H a = some (.dK kvs) ∧ Q (.int kvs.length) H) lenM := by
  intro W w H σ s vs ds Q R r p
  unfold lenM at p
  split at p
  · next d =>
    obtain ⟨v, rfl, rv⟩ := one_of r
    split at p
    · next x =>
      split at p
      · next k => cases rv; exact .inl ⟨_, _, rfl, ⟨of_decide_eq_true k, rfl⟩, Post.here p R (Rep.int _)⟩
      · exact p.elim
    · next es =>
      obtain ⟨a, us, rfl, h1, h2⟩ := R.tuple rv (ds := es) rfl
      refine .inl ⟨_, us.length, rfl, .inr ⟨us, h1, rfl⟩, ?_⟩
      rw [RepL.length h2]; exact Post.here p R (Rep.int _)
    · split at p
      · next es he =>
        obtain ⟨a, us, rfl, h1, h2⟩ := R.list rv he
        refine .inl ⟨_, us.length, rfl, .inl ⟨us, h1, rfl⟩, ?_⟩
        rw [RepL.length h2]; exact Post.here p R (Rep.int _)
      · split at p
        · next kvs he =>
          obtain ⟨a, us, rfl, h1, h2⟩ := R.dict rv he
          refine .inr ⟨_, us, rfl, h1, ?_⟩
          rw [RepK.length h2]; exact Post.here p R (Rep.int _)
        · exact p.elim
  · exact p.elim
theorem de_len {e : Expr} {fs : M (List D)} {p pos : Pos} (hm : X.mg "len" = none) (ha : DA X W [e] fs) (hg : Gl X "len" := by rfl) (he : starEach [e] X.env = (false, eval e X.env) :: starEach [] X.env := by rfl) (hpl : (backTo pos (starEach [] X.env)).any (·.1) = false := by rfl) :
    DE X W (.Call (.Name "len" p) [e] [] pos) (bnd fs lenM) := de_callB (callR_or call_len call_lenD) rc_len hm ha PySem.boot_len hg (by decide) (by decide) he hpl
/-! isinstance of a built-in class -/
def tyName (s : S) : D → Option String
  | .non => some "NoneType"
  | .bl _ => some "bool"
  | .int _ => some "int"
  | .str _ => some "str"
  | .tup _ => some "tuple"
  | .lst _ => some "list"
  | .cell n => match s.vh[n]? with
    | some (.lst _) => some "list"
    | some (.dct _) => some "dict"
    | none => none
  | .ref _ => none
def isaT (T a : String) : Bool := (a == T) || (T == "int" && a == "bool")
def isaM (T : String) (d : D) : M D := fun s => match tyName s d with
  | some a => .ok (.bl (isaT T a)) s
  | none => .bad
theorem tyx_of {K : PySem.W.Frag} {w : Wd} {H : Hp} {σ : L2.St} {s : S} {v : V} {d : D} {a : String} (R : RS K w H σ s) (r : Rep K w v d) (h : tyName s d = some a) : TyX K H v (.type a) := by
  cases r with
  | non => cases h; exact .base .non
  | bl b => cases h; exact .base (.bl b)
  | int i => cases h; exact .base (.int i)
  | str x => cases h; exact .base (.str x)
  | ref a => cases h
  | tup h1 t =>
    cases h
    rcases sqT_up R.sub h1 with (h2 | ⟨o, h2⟩) | ⟨o, its, n, h2, h3, _⟩
    · exact .base (.tup h2)
    · exact .fTuple h2
    · exact .kTuple h2 h3
  | lst h1 t =>
    cases h
    rcases sqL_up R.sub h1 with (h2 | ⟨o, h2⟩) | ⟨o, its, n, h2, h3, _⟩
    · exact .base (.lst h2)
    · exact .base (.frz h2)
    · exact .kList h2 h3
  | cell h1 =>
    obtain ⟨c, e, hc⟩ := R.cellOf h1
    unfold tyName at h
    simp only [e] at h
    cases c with
    | lst ds => simp at h; subst h; obtain ⟨vs, h2, _⟩ := hc; exact .base (.lst h2)
    | dct ds => simp at h; subst h; obtain ⟨vs, h2, _⟩ := hc; exact .base (.dK h2)
def sixT : List String := ["int", "bool", "str", "tuple", "list", "dict"]
def sevA : List String := ["NoneType", "bool", "int", "str", "tuple", "list", "dict"]
theorem kit_all : ∀ T ∈ sixT, ∀ a ∈ sevA, kitB a T = some (isaT T a) := by decide +kernel
theorem tyName_in {s : S} {d : D} {a : String} (h : tyName s d = some a) : a ∈ sevA := by
  unfold tyName at h
  split at h <;> first
    | (cases h; decide)
    | (split at h <;> first | (cases h; decide) | cases h)
    | cases h
theorem de_isa (T : String) {e : Expr} {f : M D} {p p2 pos : Pos} (hi : X.mg "isinstance" = none) (hm : X.mg (Str.ofString T) = none) (h : DE X W e f) (hv : bootBuiltins (Str.ofString T) = some (.type T)) (hT : T ∈ sixT := by decide) (hg : Gl X "isinstance" := by rfl) (hg2 : Gl X (Str.ofString T) := by rfl)
    (hn : Str.ofString T ≠ "__name__" := by decide) (hd : (Str.ofString T == ("__debug__" : Str)) = false := by decide)
    (hst : starEach [e, .Name (Str.ofString T) p2] X.env = (false, eval e X.env) :: starEach [.Name (Str.ofString T) p2] X.env := by rfl) (hst2 : starEach [.Name (Str.ofString T) p2] X.env = (false, eval (.Name (Str.ofString T) p2) X.env) :: starEach [] X.env := by rfl)
    (hpl : (backTo pos (starEach [.Name (Str.ofString T) p2] X.env)).any (·.1) = false := by rfl) :
    DE X W (.Call (.Name "isinstance" p) [e, .Name (Str.ofString T) p2] [] pos) (bnd f (isaM T)) := by
  obtain ⟨t, q, k⟩ := h
  refine ⟨_, pe_callB call_isi hg hi (by decide +kernel) (pa_cons q (pa_cons (pe_bltn (v := .ty T) hg2 hm hv rfl hn hd) pa_nil hst2) hst) (by decide) (by decide) hst hpl, fun w H σ s Q R z => ?_⟩
  refine k.bnd R z fun d s1 w1 H1 v l1 R1 r1 p1 => ?_
  have p1 : Post X.K W (pD X.K) w1 H1 σ (match tyName s1 d with
    | some a => .ok (.bl (isaT T a)) s1
    | none => .bad) Q := p1
  cases ht : tyName s1 d with
  | none => rw [ht] at p1; exact p1.elim
  | some a =>
    rw [ht] at p1
    exact ⟨v, .ty T, .type a, .type T, isaT T a, rfl, .ty T, tyx_of R1 r1 ht, kit_ty (kit_all T hT a (tyName_in ht)), Post.here p1 R1 (Rep.bl _)⟩
/-! ### + -/
def addM : D → D → M D
  | .int i, .int j => ret (.int (i + j))
  | .str a, .str b => if lenOk (a.length + b.length) = true then ret (.str (a ++ b)) else fail
  | d, e => fun s => match lstOf s d, lstOf s e with
    | some xs, some ys => if lenOk (xs.length + ys.length) = true then .ok (.lst (xs ++ ys)) s else .bad
    | _, _ => .bad
def catN : D → D → M Cell := fun d e s => match lstOf s d, lstOf s e with
  | some xs, some ys => if lenOk (xs.length + ys.length) = true then .ok (.lst (xs ++ ys)) s else .bad
  | _, _ => .bad
def rCatR (K : PySem.W.Frag) : R2 := fun x y H Q => ∃ l b xs zs, x = .ref l ∧ y = .ref b ∧ SqL K H l xs ∧ SqL K H b zs ∧ xs.length + zs.length ≤ sizeLine ∧ ∀ p, H p = none → Q (.ref p) (upd H p (.lst (xs ++ zs)))
theorem op_catR : OpR X (binaryOp .Add) (rCatR X.K) := by
  intro pins s σ H x y v u Q I rx ry h
  obtain ⟨l, b, xs, zs, rfl, rfl, hH, hB, hz, q⟩ := h
  cases rx
  cases ry
  obtain ⟨its, r, ⟨⟨cls, dd, data, sl⟩, n, ho, hc, hdd, hd⟩, _⟩ := I.list hH
  obtain ⟨its2, r2, ⟨⟨cls2, dd2, data2, sl2⟩, n2, ho2, hc2, hdd2, hd2⟩, _⟩ := I.list hB
  simp only at hc hd hc2 hd2
  subst hc hd hc2 hd2
  have hl := r.length
  have hl2 := r2.length
  refine concat_meets ⟨_, ho, rfl⟩ ⟨_, ho2, rfl⟩ noFill_list_add seq_list_add PySem.F.slot_list_add PySem.F.entry_list_add (PySem.F.args_list_add_2 _ _) (list_addW l b its.toArray its2.toArray n n2 dd dd2 sl sl2 (by rw [List.size_toArray, List.size_toArray]; omega)) ⟨ho, ho2, ?_⟩
  have ea : its.toArray ++ its2.toArray = (its ++ its2).toArray := by simp
  rw [ea]
  exact ⟨.ref _, _, I.lnew (t' := s.toks) (r.append r2) (by rw [List.length_append]; omega), rfl, q _ I.fresh⟩
theorem de_add {a b : Expr} {fa fb : M D} {pos : Pos} (ha : DE X W a fa) (hb : DE X W b fb) : DE X W (.BinOp a .Add b pos) (bnd fa fun d => bnd fb fun e => addM d e) :=
  de_op (opr_or op_add (opr_or op_add_str op_catR)) (fun W w H σ s x y d e Q R rx ry p => by
    unfold addM at p
    split at p
    · cases rx; cases ry; exact .inl ⟨_, _, rfl, rfl, Post.here p R (Rep.int _)⟩
    · cases rx; cases ry
      split at p
      · next k => exact .inr (.inl ⟨_, _, rfl, rfl, of_decide_eq_true k, Post.here p R (Rep.str _)⟩)
      · exact p.elim
    · dsimp only at p
      split at p
      · next xs ys hx hy =>
        split at p
        · next k =>
          obtain ⟨l, vs, rfl, h1, h2⟩ := R.list rx hx
          obtain ⟨b, us, rfl, h3, h4⟩ := R.list ry hy
          have hk : xs.length + ys.length ≤ sizeLine := of_decide_eq_true k
          refine .inr (.inr ⟨l, b, vs, us, rfl, rfl, h1, h3, by rw [RepL.length h2, RepL.length h4]; exact hk, fun q hq => ?_⟩)
          obtain ⟨l3, R3, r3⟩ := R.newL hq (RepL.append h2 h4)
          exact p _ _ _ l3 R3 r3
        · exact p.elim
      · exact p.elim) ha hb
theorem dn_cat {a b : Expr} {fa fb : M D} {pos : Pos} (ha : DE X W a fa) (hb : DE X W b fb) : DN X W (.BinOp a .Add b pos) (bnd fa fun d => bnd fb fun e => catN d e) := by
  obtain ⟨ta, pa, ra⟩ := ha
  obtain ⟨tb, pb, rb⟩ := hb
  refine ⟨tOp (rCatR X.K) ta tb, pe_op op_catR pa pb, fun w H σ s Q R p => ?_⟩
  refine ra.bnd R p fun d s1 w1 H1 v1 l1 R1 r1 p1 => ?_
  refine rb.bnd R1 p1 fun e s2 w2 H2 v2 l2 R2 r2 p2 => ?_
  unfold catN at p2
  split at p2
  · next xs ys hx hy =>
    split at p2
    · next k =>
      obtain ⟨l, vs, rfl, h1, h2⟩ := R2.list (Rep.up l2 r1) hx
      obtain ⟨b, us, rfl, h3, h4⟩ := R2.list r2 hy
      have hk : xs.length + ys.length ≤ sizeLine := of_decide_eq_true k
      refine ⟨l, b, vs, us, rfl, rfl, h1, h3, by rw [RepL.length h2, RepL.length h4]; exact hk, fun p hp => ?_⟩
      exact p2 w2 _ _ (Le.laid hp) (R2.laid hp) ⟨p, rfl, (R2.fresh hp).1, (R2.fresh hp).2, ⟨_, upd_same, RepL.append h2 h4⟩, hp⟩
    · exact p2.elim
  · exact p2.elim
/-! ### comparisons -/
def isNonM : D → M D
  | .non => ret (.bl true)
  | _ => ret (.bl false)
def notNonM : D → M D
  | .non => ret (.bl false)
  | _ => ret (.bl true)
theorem non_of {K : PySem.W.Frag} {w : Wd} {v : V} {d : D} (r : Rep K w v d) : decide (v = V.non) = (match d with | .non => true | _ => false) := by
  cases r <;> simp
theorem rop_isN : ROp X (fun x y H Q => y = .non ∧ Q (.bl (decide (x = .non))) H) (fun d e => match e with | .non => isNonM d | _ => fail) := by
  intro W w H σ s x y d e Q R rx ry p
  cases ry with
  | non =>
    refine ⟨rfl, ?_⟩
    rw [non_of rx]
    cases d <;> exact Post.here p R (Rep.bl _)
  | _ => exact p.elim
theorem rop_notN : ROp X (fun x y H Q => y = .non ∧ Q (.bl (!decide (x = .non))) H) (fun d e => match e with | .non => notNonM d | _ => fail) := by
  intro W w H σ s x y d e Q R rx ry p
  cases ry with
  | non =>
    refine ⟨rfl, ?_⟩
    rw [non_of rx]
    cases d <;> exact Post.here p R (Rep.bl _)
  | _ => exact p.elim
/-! what == sees -/
mutual
def pyT : D → Option PyData
  | .non => some .none
  | .bl b => some (.bool b)
  | .int i => some (.int i)
  | .str x => some (.str x)
  | .tup xs => (pyL xs).map .tuple
  | .lst xs => (pyL xs).map .list
  | _ => none
def pyL : List D → Option (List PyData)
  | [] => some []
  | x :: xs => match pyT x, pyL xs with
    | some y, some ys => some (y :: ys)
    | _, _ => none
end
def pyD (s : S) (d : D) : Option PyData := match d with
  | .cell n => match s.vh[n]? with
    | some (.lst xs) => (pyL xs).map .list
    | _ => none
  | d => pyT d
mutual
theorem dp_of {K : PySem.W.Frag} {w : Wd} {H : Hp} (sub : ∀ a o, w.F a = some o → H a = some o) : ∀ {v : V} {d : D} {q : PyData}, Rep K w v d → pyT d = some q → Dp K H v q
  | _, _, _, .non, e => by cases e; exact .non
  | _, _, _, .bl b, e => by cases e; exact .bl b
  | _, _, _, .int i, e => by cases e; exact .int i
  | _, _, _, .str x, e => by cases e; exact .str x
  | _, _, _, .ref a, e => by cases e
  | _, _, _, .cell h, e => by cases e
  | _, _, _, .tup (ds := ds) h t, e => by
    unfold pyT at e
    cases q : pyL ds with
    | none => rw [q] at e; cases e
    | some qs => rw [q] at e; cases e; exact .tup (sqT_up sub h) (dpL_of sub t q)
  | _, _, _, .lst (ds := ds) h t, e => by
    unfold pyT at e
    cases q : pyL ds with
    | none => rw [q] at e; cases e
    | some qs => rw [q] at e; cases e; exact .lst (sqL_up sub h) (dpL_of sub t q)
theorem dpL_of {K : PySem.W.Frag} {w : Wd} {H : Hp} (sub : ∀ a o, w.F a = some o → H a = some o) : ∀ {vs : List V} {ds : List D} {qs : List PyData}, RepL K w vs ds → pyL ds = some qs → DpAll K H vs qs
  | _, _, _, .nil, e => by cases e; exact .nil
  | _, _, _, .cons (d := d) (ds := ds) h t, e => by
    unfold pyL at e
    cases h1 : pyT d with
    | none => rw [h1] at e; cases e
    | some y =>
      cases h2 : pyL ds with
      | none => rw [h1, h2] at e; cases e
      | some ys => rw [h1, h2] at e; cases e; exact .cons (dp_of sub h h1) (dpL_of sub t h2)
end
theorem RS.py {K : PySem.W.Frag} {w : Wd} {H : Hp} {σ : L2.St} {s : S} {v : V} {d : D} {q : PyData} (R : RS K w H σ s) (r : Rep K w v d) (h : pyD s d = some q) : Dp K H v q := by
  cases r with
  | @cell a n h1 =>
    obtain ⟨c, e, hc⟩ := R.cellOf h1
    unfold pyD at h
    simp only [e] at h
    cases c with
    | dct _ => simp at h
    | lst ds =>
      dsimp only at h
      cases h2 : pyL ds with
      | none => rw [h2] at h; cases h
      | some ys =>
        rw [h2] at h; cases h
        obtain ⟨vs, h3, h4⟩ := hc
        exact .lst (SqL.of h3) (dpL_of R.sub h4 h2)
  | non => exact dp_of R.sub .non h
  | bl b => exact dp_of R.sub (.bl b) h
  | int i => exact dp_of R.sub (.int i) h
  | str x => exact dp_of R.sub (.str x) h
  | ref a => exact dp_of R.sub (.ref a) h
  | tup h1 t => exact dp_of R.sub (.tup h1 t) h
  | lst h1 t => exact dp_of R.sub (.lst h1 t) h
def eqD (d e : D) : M D := fun s => match pyD s d, pyD s e with
  | some p, some q => if (SeqAt.shaped p && SeqAt.shaped q) = true then .ok (.bl (PyData.eqv p q)) s else .bad
  | _, _ => .bad
def neD (d e : D) : M D := fun s => match pyD s d, pyD s e with
  | some p, some q => if (SeqAt.shaped p && SeqAt.shaped q) = true then .ok (.bl (!PyData.eqv p q)) s else .bad
  | _, _ => .bad
def eqM : D → D → M D
  | .str a, .str b => ret (.bl (decide (a = b)))
  | d, e => eqD d e
def neM : D → D → M D
  | .str a, .str b => ret (.bl (!decide (a = b)))
  | d, e => neD d e
theorem rop_eqD : ROp X (rEqD X.K) eqD := by
  intro W w H σ s x y d e Q R rx ry p
  unfold eqD at p
  split at p
  · next p1 q1 h1 h2 =>
    split at p
    · next k =>
      rw [Bool.and_eq_true] at k
      exact ⟨p1, q1, R.py rx h1, R.py ry h2, k.1, k.2, Post.here p R (Rep.bl _)⟩
    · exact p.elim
  · exact p.elim
theorem rop_neD : ROp X (rNeD X.K) neD := by
  intro W w H σ s x y d e Q R rx ry p
  unfold neD at p
  split at p
  · next p1 q1 h1 h2 =>
    split at p
    · next k =>
      rw [Bool.and_eq_true] at k
      exact ⟨p1, q1, R.py rx h1, R.py ry h2, k.1, k.2, Post.here p R (Rep.bl _)⟩
    · exact p.elim
  · exact p.elim
theorem rop_eq : ROp X (fun x y H Q => rEq x y H Q ∨ rEqD X.K x y H Q) eqM := by
  intro W w H σ s x y d e Q R rx ry p
  unfold eqM at p
  split at p
  · next a b =>
    cases rx; cases ry
    refine .inl ⟨rfl, ?_⟩
    have e : decide (V.str a = V.str b) = decide (a = b) := by
      by_cases h : a = b
      · subst h; simp
      · rw [decide_eq_false h]
        exact decide_eq_false fun z => h (V.str.inj z)
    rw [e]
    exact Post.here p R (Rep.bl _)
  · exact .inr (rop_eqD W w H σ s x y d e Q R rx ry p)
theorem rop_ne : ROp X (fun x y H Q => rNe x y H Q ∨ rNeD X.K x y H Q) neM := by
  intro W w H σ s x y d e Q R rx ry p
  unfold neM at p
  split at p
  · next a b =>
    cases rx; cases ry
    refine .inl ⟨rfl, ?_⟩
    have e : decide (V.str a = V.str b) = decide (a = b) := by
      by_cases h : a = b
      · subst h; simp
      · rw [decide_eq_false h]
        exact decide_eq_false fun z => h (V.str.inj z)
    rw [e]
    exact Post.here p R (Rep.bl _)
  · exact .inr (rop_neD W w H σ s x y d e Q R rx ry p)
theorem op_eqA (hu : X.A.units + 64 < cLine) : OpR X (compareOp .Eq) (fun x y H Q => rEq x y H Q ∨ rEqD X.K x y H Q) := opr_or op_eq (op_eqD hu)
theorem op_neA (hu : X.A.units + 64 < cLine) : OpR X (compareOp .NotEq) (fun x y H Q => rNe x y H Q ∨ rNeD X.K x y H Q) := opr_or op_ne (op_neD hu)
theorem units_of {A : Around} {k : Nat} (hr : Room k A) : A.units + 64 < cLine := by have := hr.un; omega
def ltM : D → D → M D
  | .int i, .int j => ret (.bl (decide (i < j)))
  | .str a, .str b => ret (.bl (decide (a.cps.toList < b.cps.toList)))
  | _, _ => fail
theorem rop_lt : ROp X (fun x y H Q => rI0 (fun i j => .bl (decide (i < j))) x y H Q ∨ ∃ i j, x = .str i ∧ y = .str j ∧ Q (.bl (decide (i.cps.toList < j.cps.toList))) H) ltM := by
  intro W w H σ s x y d e Q R rx ry p
  unfold ltM at p
  split at p
  · cases rx; cases ry; exact .inl ⟨_, _, rfl, rfl, Post.here p R (Rep.bl _)⟩
  · cases rx; cases ry; exact .inr ⟨_, _, rfl, rfl, Post.here p R (Rep.bl _)⟩
  · exact p.elim
def leM : D → D → M D := i2 fun i j => .bl (decide (i ≤ j))
def gtM : D → D → M D := i2 fun i j => .bl (decide (j < i))
def geM : D → D → M D := i2 fun i j => .bl (decide (j ≤ i))
theorem rop_le : ROp X (rI0 fun i j => .bl (decide (i ≤ j))) leM := rop_i2 fun _ _ _ => .bl _
theorem rop_gt : ROp X (rI0 fun i j => .bl (decide (j < i))) gtM := rop_i2 fun _ _ _ => .bl _
theorem rop_ge : ROp X (rI0 fun i j => .bl (decide (j ≤ i))) geM := rop_i2 fun _ _ _ => .bl _
end Fx

namespace Fx
open PySem PySem.Spec PyProof.Rows L2
variable {X : Cx} {W : WX}
abbrev bin (op : D → D → M D) (a b : M D) : M D := bnd a fun d => bnd b fun e => op d e
abbrev tst (a : M D) : M Bool := bnd a asB
/-! ### a[i] -/
def ixM : D → D → M D := fun d e s => match e with
  | .int i => match d with
    | .str x => if lenOk x.length = true then (match atI x.cps.toList i with
      | some c => .ok (.str ⟨#[c]⟩) s
      | none => .bad) else .bad
    | .tup ds => match atI ds i with
      | some y => .ok y s
      | none => .bad
    | d => match lstOf s d with
      | some ds => match atI ds i with
        | some y => .ok y s
        | none => .bad
      | none => .bad
  | _ => .bad
theorem RepL.at {K : PySem.W.Frag} {w : Wd} {vs : List V} {ds : List D} {i : Int} {d : D} (r : RepL K w vs ds) (h : atI ds i = some d) : ∃ v, atI vs i = some v ∧ Rep K w v d := by
  unfold atI at h ⊢
  rw [RepL.length r]
  cases e : ixN ds.length i with
  | none => rw [e] at h; cases h
  | some j =>
    rw [e] at h
    exact RepL.get r h
theorem rop_ix : ROp X (rIx X.K) ixM := by
  intro W w H σ s x y d e Q R rx ry p
  unfold ixM at p
  split at p
  · next i =>
    cases ry
    split at p
    · next z =>
      cases rx
      split at p
      · next k =>
        split at p
        · next c hc => exact .inr (.inr ⟨z, i, c, rfl, rfl, of_decide_eq_true k, hc, Post.here p R (Rep.str _)⟩)
        · exact p.elim
      · exact p.elim
    · next ds =>
      split at p
      · next y hy =>
        obtain ⟨a, us, rfl, h1, h2⟩ := R.tuple rx (ds := ds) rfl
        obtain ⟨v, hv, rv⟩ := RepL.at h2 hy
        exact .inr (.inl ⟨a, us, i, v, rfl, rfl, h1, hv, Post.here p R rv⟩)
      · exact p.elim
    · split at p
      · next ds hd =>
        split at p
        · next y hy =>
          obtain ⟨a, us, rfl, h1, h2⟩ := R.list rx hd
          obtain ⟨v, hv, rv⟩ := RepL.at h2 hy
          exact .inl ⟨a, us, i, v, rfl, rfl, h1, hv, Post.here p R rv⟩
        · exact p.elim
      · exact p.elim
  · exact p.elim
theorem de_ix {a b : Expr} {fa fb : M D} {pos : Pos} (ha : DE X W a fa) (hb : DE X W b fb) (hs : PlainIx b := by exact fun _ _ => rfl) : DE X W (.Subscript a b pos) (bin ixM fa fb) := by
  obtain ⟨ta, pa, ra⟩ := ha
  obtain ⟨tb, pb, rb⟩ := hb
  refine ⟨_, pe_ix ix_seq pa pb hs, fun w H σ s Q R p => ?_⟩
  refine ra.bnd R p fun d s1 w1 H1 v1 l1 R1 r1 p1 => ?_
  refine rb.bnd R1 p1 fun e s2 w2 H2 v2 l2 R2 r2 p2 => ?_
  exact rop_ix W w2 H2 σ s2 v1 v2 d e Q R2 (Rep.up l2 r1) r2 p2
/-! ### slices -/
def DO (X : Cx) (W : WX) (e : Option Expr) (f : M (Option Int)) : Prop := ∃ t, PO X e t ∧ Fol X.K W (⟨fun _ _ _ a b => a = b, fun _ _ _ _ _ _ _ _ _ _ h => h⟩ : Pr (Option Int) (Option Int)) t f
def partM (f : M D) : M (Option Int) := bnd f fun d => match d with
  | .int i => ret (some i)
  | _ => fail
theorem do_none : DO X W none (ret none) := ⟨_, po_none, fun w H σ s Q R p => Post.here p R rfl⟩
theorem do_some {e : Expr} {f : M D} (h : DE X W e f) : DO X W (some e) (partM f) := by
  obtain ⟨t, p, r⟩ := h
  refine ⟨_, po_some p, fun w H σ s Q R z => ?_⟩
  refine r.bnd R z fun d s1 w1 H1 v l1 R1 r1 p1 => ?_
  cases r1 with
  | int i => exact ⟨i, rfl, Post.here p1 R1 rfl⟩
  | _ => exact p1.elim
def cutD (xs : List D) (lo hi : Option Int) : List D := (xs.drop (HT.sIx xs.length 0 lo)).take (HT.sIx xs.length xs.length hi - HT.sIx xs.length 0 lo)
theorem RepL.cut {K : PySem.W.Frag} {w : Wd} {vs : List V} {ds : List D} (r : RepL K w vs ds) (lo hi : Option Int) : RepL K w (cutV vs lo hi) (cutD ds lo hi) := by
  unfold cutV cutD
  rw [RepL.length r]
  exact (r.drop _).take _
/-- of a text -/
def slS (f : M D) (lo hi : M (Option Int)) : M D := bnd f fun d => bnd lo fun l => bnd hi fun u => match d with
  | .str x => if lenOk x.length = true then ret (.str (cutS x l u)) else fail
  | _ => fail
/-- of a list -/
def slL (f : M D) (lo hi : M (Option Int)) : M Cell := bnd f fun d => bnd lo fun l => bnd hi fun u => fun s => match lstOf s d with
  | some ds => .ok (.lst (cutD ds l u)) s
  | none => .bad
section
variable {e : Expr} {lo hi : Option Expr} {f : M D} {fl fh : M (Option Int)} {pos p2 : Pos}
theorem de_slS (h : DE X W e f) (hl : DO X W lo fl) (hh : DO X W hi fh) : DE X W (.Subscript e (.Slice lo hi none p2) pos) (slS f fl fh) := by
  obtain ⟨t, p, r⟩ := h
  obtain ⟨tl, pl, rl⟩ := hl
  obtain ⟨th, ph, rh⟩ := hh
  refine ⟨_, pe_slice sl_str p pl ph, fun w H σ s Q R z => ?_⟩
  refine r.bnd R z fun d s1 w1 H1 v1 l1 R1 r1 p1 => ?_
  refine rl.bnd R1 p1 fun a s2 w2 H2 v2 l2 R2 r2 p2 => ?_
  refine rh.bnd R2 p2 fun b s3 w3 H3 v3 l3 R3 r3 p3 => ?_
  cases r2; cases r3
  cases r1 with
  | str x =>
    dsimp only at p3
    split at p3
    · next k => exact ⟨x, rfl, of_decide_eq_true k, Post.here p3 R3 (Rep.str _)⟩
    · exact p3.elim
  | _ => exact p3.elim
theorem dn_slL (h : DE X W e f) (hl : DO X W lo fl) (hh : DO X W hi fh) : DN X W (.Subscript e (.Slice lo hi none p2) pos) (slL f fl fh) := by
  obtain ⟨t, p, r⟩ := h
  obtain ⟨tl, pl, rl⟩ := hl
  obtain ⟨th, ph, rh⟩ := hh
  refine ⟨_, pe_slice sl_list p pl ph, fun w H σ s Q R z => ?_⟩
  refine r.bnd R z fun d s1 w1 H1 v1 l1 R1 r1 p1 => ?_
  refine rl.bnd R1 p1 fun a s2 w2 H2 v2 l2 R2 r2 p2 => ?_
  refine rh.bnd R2 p2 fun b s3 w3 H3 v3 l3 R3 r3 p3 => ?_
  cases r2; cases r3
  split at p3
  · next ds hd =>
    obtain ⟨a', vs, rfl, h1, h2⟩ := R3.list (Rep.up l3 (Rep.up l2 r1)) hd
    refine ⟨a', vs, rfl, h1, fun q hq => ?_⟩
    exact p3 w3 _ _ (Le.laid hq) (R3.laid hq) ⟨q, rfl, (R3.fresh hq).1, (R3.fresh hq).2, ⟨_, upd_same, h2.cut a b⟩, hq⟩
  · exact p3.elim
end
/-! ### list(..), tuple(..), ord, str of an int, abs, min, max of two -/
def listN : List D → M Cell
  | [d] => fun s => match d with
    | .tup ds => .ok (.lst ds) s
    | d => match lstOf s d with
      | some ds => .ok (.lst ds) s
      | none => .bad
  | _ => fun _ => .bad
theorem rc_list : RCalN X (fun xs H Q => ∃ p ys, xs = [.ref p] ∧ (SqL X.K H p ys ∨ SqT X.K H p ys) ∧ ∀ l, H l = none → Q (.ref l) (upd H l (.lst ys))) listN := by
  intro W w H σ s vs ds Q R r p
  unfold listN at p
  split at p
  · next d =>
    obtain ⟨v, rfl, rv⟩ := one_of r
    split at p
    · next es =>
      obtain ⟨a, us, rfl, h1, h2⟩ := R.tuple rv (ds := es) rfl
      exact ⟨a, us, rfl, .inr h1, fun q hq => p w _ _ (Le.laid hq) (R.laid hq) ⟨q, rfl, (R.fresh hq).1, (R.fresh hq).2, ⟨_, upd_same, h2⟩, hq⟩⟩
    · split at p
      · next es he =>
        obtain ⟨a, us, rfl, h1, h2⟩ := R.list rv he
        exact ⟨a, us, rfl, .inl h1, fun q hq => p w _ _ (Le.laid hq) (R.laid hq) ⟨q, rfl, (R.fresh hq).1, (R.fresh hq).2, ⟨_, upd_same, h2⟩, hq⟩⟩
      · exact p.elim
  · exact p.elim
def tupleM : List D → M D
  | [d] => fun s => match d with
    | .tup ds => .ok (.tup ds) s
    | d => match lstOf s d with
      | some ds => .ok (.tup ds) s
      | none => .bad
  | _ => fun _ => .bad
theorem rc_tuple : RCal X (fun xs H Q => ∃ p ys, xs = [.ref p] ∧ ((SqL X.K H p ys ∧ ∀ l, H l = none → Q (.ref l) (upd H l (.tup ys))) ∨ (SqT X.K H p ys ∧ Q (.ref p) H))) tupleM := by
  intro W w H σ s vs ds Q R r p
  unfold tupleM at p
  split at p
  · next d =>
    obtain ⟨v, rfl, rv⟩ := one_of r
    split at p
    · next es =>
      obtain ⟨a, us, rfl, h1, h2⟩ := R.tuple rv (ds := es) rfl
      exact ⟨a, us, rfl, .inr ⟨h1, Post.here p R rv⟩⟩
    · split at p
      · next es he =>
        obtain ⟨a, us, rfl, h1, h2⟩ := R.list rv he
        refine ⟨a, us, rfl, .inl ⟨h1, fun q hq => ?_⟩⟩
        obtain ⟨l3, R3, r3⟩ := R.newT hq h2
        exact p _ _ _ l3 R3 r3
      · exact p.elim
  · exact p.elim
def ordM : List D → M D
  | [.str x] => if x.length = 1 then ret (.int (x.cps.getD 0 0 : Nat)) else fail
  | _ => fail
theorem rc_ord : RCal X (fun xs H Q => ∃ x, xs = [.str x] ∧ x.length = 1 ∧ Q (.int (x.cps.getD 0 0 : Nat)) H) ordM := by
  intro W w H σ s vs ds Q R r p
  unfold ordM at p
  split at p
  · next x =>
    obtain ⟨v, rfl, rv⟩ := one_of r
    cases rv
    split at p
    · next k => exact ⟨x, rfl, k, Post.here p R (Rep.int _)⟩
    · exact p.elim
  · exact p.elim
def strM : List D → M D
  | [.int i] => if i.natAbs.log2 < 1920 then ret (.str (toString i)) else fail
  | _ => fail
theorem rc_str : RCal X (fun xs H Q => ∃ i, xs = [.int i] ∧ i.natAbs.log2 < 1920 ∧ Q (.str (toString i)) H) strM := by
  intro W w H σ s vs ds Q R r p
  unfold strM at p
  split at p
  · next x =>
    obtain ⟨v, rfl, rv⟩ := one_of r
    cases rv
    split at p
    · next k => exact ⟨x, rfl, k, Post.here p R (Rep.str _)⟩
    · exact p.elim
  · exact p.elim
def absM : List D → M D
  | [.int i] => ret (.int (if i < 0 then -i else i))
  | _ => fail
theorem rc_abs : RCal X (fun xs H Q => ∃ i, xs = [.int i] ∧ Q (.int (if i < 0 then -i else i)) H) absM := by
  intro W w H σ s vs ds Q R r p
  unfold absM at p
  split at p
  · obtain ⟨v, rfl, rv⟩ := one_of r
    cases rv
    exact ⟨_, rfl, Post.here p R (Rep.int _)⟩
  · exact p.elim
def max2M : List D → M D
  | [.int i, .int j] => ret (.int (if j > i then j else i))
  | _ => fail
def min2M : List D → M D
  | [.int i, .int j] => ret (.int (if j < i then j else i))
  | _ => fail
theorem rc_max2 : RCal X (fun xs H Q => ∃ i j, xs = [.int i, .int j] ∧ Q (.int (if j > i then j else i)) H) max2M := by
  intro W w H σ s vs ds Q R r p
  unfold max2M at p
  split at p
  · obtain ⟨v, u, rfl, rv, ru⟩ := two_of r
    cases rv; cases ru
    exact ⟨_, _, rfl, Post.here p R (Rep.int _)⟩
  · exact p.elim
theorem rc_min2 : RCal X (fun xs H Q => ∃ i j, xs = [.int i, .int j] ∧ Q (.int (if j < i then j else i)) H) min2M := by
  intro W w H σ s vs ds Q R r p
  unfold min2M at p
  split at p
  · obtain ⟨v, u, rfl, rv, ru⟩ := two_of r
    cases rv; cases ru
    exact ⟨_, _, rfl, Post.here p R (Rep.int _)⟩
  · exact p.elim
def negM : D → M D
  | .int i => ret (.int (-i))
  | _ => fail
theorem de_neg {e : Expr} {f : M D} {pos : Pos} (h : DE X W e f) : DE X W (.UnaryOp .USub e pos) (bnd f negM) := by
  obtain ⟨t, p, r⟩ := h
  refine ⟨_, pe_un un_neg p, fun w H σ s Q R z => ?_⟩
  refine r.bnd R z fun d s1 w1 H1 v l1 R1 r1 p1 => ?_
  cases r1 with
  | int i => exact ⟨i, rfl, Post.here p1 R1 (Rep.int _)⟩
  | _ => exact p1.elim
/-! ### methods of lists and texts -/
def isTy (T : String) (s : S) (d : D) : Bool := match d with
  | .str _ => T == "str"
  | d => (T == "list" && (lstOf s d).isSome) || (T == "dict" && (dctOf s d).isSome)
theorem tyV_of {K : PySem.W.Frag} {w : Wd} {H : Hp} {σ : L2.St} {s : S} {v : V} {d : D} {T : String} (R : RS K w H σ s) (r : Rep K w v d) (h : isTy T s d = true) : tyV K T v H := by
  unfold isTy at h
  split at h
  · cases r
    show T = "str"
    simpa using h
  · rw [Bool.or_eq_true, Bool.and_eq_true, Bool.and_eq_true] at h
    rcases h with ⟨h1, h2⟩ | ⟨h1, h2⟩
    · obtain ⟨ds, hd⟩ := Option.isSome_iff_exists.mp h2
      obtain ⟨a, vs, rfl, h3, _⟩ := R.list r hd
      exact .inl ⟨by simpa using h1, vs, h3⟩
    · obtain ⟨ds, hd⟩ := Option.isSome_iff_exists.mp h2
      obtain ⟨a, vs, rfl, h3, _⟩ := R.dict r hd
      exact .inr (.inr (.inl ⟨by simpa using h1, .inl ⟨vs, h3⟩⟩))
def methM (T : String) (f : M D) (fs : M (List D)) (g : D → List D → M D) : M D := bnd f fun d s => if isTy T s d = true then bnd fs (fun ds => g d ds) s else .bad
def meth0M (T : String) (f : M D) (g : D → M D) : M D := bnd f fun d s => if isTy T s d = true then g d s else .bad
def RMt (X : Cx) (r : V → List V → Hp → VK → Prop) (g : D → List D → M D) : Prop := ∀ (W : WX) w H σ s v vs d ds Q, RS X.K w H σ s → Rep X.K w v d → RepL X.K w vs ds → Post X.K W (pD X.K) w H σ (g d ds s) Q → r v vs H Q
theorem de_meth {o e : Expr} {es : List Expr} {f : M D} {fs : M (List D)} {g : D → List D → M D} {name : Str} {ap pos : Pos} {T id : String} {r : V → List V → Hp → VK → Prop} (hr : RMt X r g) (pa : PlainAttrs T) (slot : Slot T name id) (hty : typeOf (.builtin id) = pure (.type "method_descriptor")) (hm : MtR X id r)
    (ho : DE X W o f) (ha : DA X W (e :: es) fs) (hbase : attributeBase o name X.env (eval o X.env) = eval o X.env := by rfl)
    (hfew : ((backTo pos (starEach (e :: es) X.env)).all (fun x => !x.1) && (backToKw pos (keywordEach [] X.env)).all (fun x => x.1.isSome)
      && decide ((e :: es).length + ([] : List Keyword).length + (if ([] : List Keyword).isEmpty then 0 else 1) < 30)) = true := by rfl)
    (hline : (ap.endLine == pos.line) = true := by rfl) (hs : starEach (e :: es) X.env = (false, eval e X.env) :: starEach es X.env := by rfl) (hplain : (backTo pos (starEach es X.env)).any (·.1) = false := by rfl) :
    DE X W (.Call (.Attribute o name ap) (e :: es) [] pos) (methM T f fs g) := by
  obtain ⟨to, po, ro⟩ := ho
  obtain ⟨ta, qa, ra⟩ := ha
  refine ⟨_, pe_bm pa slot hty hm po qa hbase hfew hline hs hplain, fun w H σ s Q R z => ?_⟩
  refine ro.bnd R z fun d s1 w1 H1 v l1 R1 r1 p1 => ?_
  split at p1
  · next k =>
    refine ⟨tyV_of R1 r1 k, ?_⟩
    refine ra.bnd R1 p1 fun ds s2 w2 H2 vs l2 R2 r2 p2 => ?_
    exact hr W w2 H2 σ s2 v vs d ds Q R2 (Rep.up l2 r1) r2 p2
  · exact p1.elim
theorem de_meth0 {o : Expr} {f : M D} {g : D → M D} {name : Str} {ap pos : Pos} {T id : String} {r : V → List V → Hp → VK → Prop} (hr : RMt X r fun d _ => g d) (pa : PlainAttrs T) (slot : Slot T name id) (hty : typeOf (.builtin id) = pure (.type "method_descriptor")) (hm : MtR X id r)
    (ho : DE X W o f) (hbase : attributeBase o name X.env (eval o X.env) = eval o X.env := by rfl) (hline : (ap.endLine == pos.line) = true := by rfl) :
    DE X W (.Call (.Attribute o name ap) [] [] pos) (meth0M T f g) := by
  obtain ⟨to, po, ro⟩ := ho
  refine ⟨_, pe_bm0 pa slot hty hm po hbase hline, fun w H σ s Q R z => ?_⟩
  refine ro.bnd R z fun d s1 w1 H1 v l1 R1 r1 p1 => ?_
  split at p1
  · next k => exact ⟨tyV_of R1 r1 k, hr W w1 H1 σ s1 v [] d [] Q R1 r1 .nil p1⟩
  · exact p1.elim
/-- a list that stands by itself is written -/
def wrM (d : D) (g : List D → M (List D × D)) : M D := fun s => match d with
  | .cell n => match s.vh[n]? with
    | some (.lst ds) => match g ds s with
      | .ok (es, y) s' => .ok y { s' with vh := s'.vh.set n (.lst es) }
      | _ => .bad
    | _ => .bad
  | _ => .bad
def appM (d : D) : List D → M D
  | [e] => wrM d fun ds s => if ds.length < sizeLine then .ok (ds ++ [e], .non) s else .bad
  | _ => fail
theorem RS.wr {K : PySem.W.Frag} {w : Wd} {H : Hp} {σ : L2.St} {s : S} {v : V} {d : D} {g : List D → M (List D × D)} {Q : V → Hp → Prop} (R : RS K w H σ s) (r : Rep K w v d) (p : Post K W (pD K) w H σ (wrM d g s) Q) :
    ∃ (a : Addr) (vs : List V) (ds es : List D) (y : D) (s' : S), v = .ref a ∧ H a = some (.lst vs) ∧ RepL K w vs ds ∧ g ds s = .ok (es, y) s' ∧ (s' = s → ∀ us u, RepL K w us es → Rep K w u y → Q u (upd H a (.lst us))) := by
  unfold wrM at p
  cases r with
  | @cell a n h1 =>
    obtain ⟨c, e, hc⟩ := R.cellOf h1
    dsimp only at p
    rw [e] at p
    cases c with
    | dct _ => exact p.elim
    | lst ds =>
      obtain ⟨vs, h2, h3⟩ := hc
      dsimp only at p
      cases hg : g ds s with
      | exc _ _ => rw [hg] at p; exact p.elim
      | bad => rw [hg] at p; exact p.elim
      | ok q s' =>
        rw [hg] at p
        obtain ⟨es, y⟩ := q
        refine ⟨a, vs, ds, es, y, s', rfl, h2, h3, hg, fun e us u r1 r2 => ?_⟩
        subst e
        exact p w _ u (Le.write (List.mem_of_getElem? h1)) (R.setCell h1 ⟨us, upd_same, r1⟩) r2
  | _ => exact p.elim
theorem rm_append : RMt X rAppend appM := by
  intro W w H σ s v vs d ds Q R r rs p
  unfold appM at p
  split at p
  · next e =>
    obtain ⟨u, rfl, ru⟩ := one_of rs
    obtain ⟨a, us, ds, es, y, s', rfl, h1, h2, h3, h4⟩ := R.wr r p
    split at h3
    · next k =>
      cases h3
      exact ⟨a, us, u, rfl, rfl, h1, by rw [RepL.length h2]; exact k, h4 rfl _ _ (RepL.append h2 (.cons ru .nil)) Rep.non⟩
    · cases h3
  · exact p.elim
theorem de_append {o e : Expr} {f : M D} {fs : M (List D)} {ap pos : Pos} (ho : DE X W o f) (ha : DA X W [e] fs) (hbase : attributeBase o "append" X.env (eval o X.env) = eval o X.env := by rfl)
    (hfew : ((backTo pos (starEach [e] X.env)).all (fun x => !x.1) && (backToKw pos (keywordEach [] X.env)).all (fun x => x.1.isSome)
      && decide (([e] : List Expr).length + ([] : List Keyword).length + (if ([] : List Keyword).isEmpty then 0 else 1) < 30)) = true := by rfl)
    (hline : (ap.endLine == pos.line) = true := by rfl) (hs : starEach [e] X.env = (false, eval e X.env) :: starEach [] X.env := by rfl) (hplain : (backTo pos (starEach [] X.env)).any (·.1) = false := by rfl) :
    DE X W (.Call (.Attribute o "append" ap) [e] [] pos) (methM "list" f fs appM) :=
  de_meth rm_append PySem.F.plainAttrs_list PySem.F.slot_list_append PySem.F.type_list_append mt_append ho ha hbase hfew hline hs hplain
/-! sep.join(list of texts) -/
def strsOf : List D → Option (List Str)
  | [] => some []
  | .str x :: r => (strsOf r).map (x :: ·)
  | _ => none
def joinOk (a : Str) (ys : List Str) : Bool := decide ((ys.map (·.length)).sum + ys.length * a.length ≤ 16777216)
def seqOf (s : S) : D → Option (List D)
  | .tup ds => some ds
  | d => lstOf s d
def joinM (d : D) : List D → M D
  | [e] => fun s => match d with
    | .str a => match seqOf s e with
      | some ds => match strsOf ds with
        | some ys => if joinOk a ys = true then .ok (.str (Txt.join a ys)) s else .bad
        | none => .bad
      | none => .bad
    | _ => .bad
  | _ => fail
theorem strs_rep {K : PySem.W.Frag} {w : Wd} : ∀ {vs : List V} {ds : List D} {ys : List Str}, RepL K w vs ds → strsOf ds = some ys → vs = ys.map V.str
  | _, _, ys, .nil, h => by cases h; rfl
  | _, _, ys, .cons (d := d) (ds := ds) r t, h => by
    cases r with
    | str x =>
      unfold strsOf at h
      cases e : strsOf ds with
      | none => rw [e] at h; cases h
      | some zs => rw [e] at h; cases h; rw [strs_rep t e]; rfl
    | _ => cases h
theorem rm_join : RMt X (fun x xs H Q => ∃ a p, ∃ ys : List Str, x = .str a ∧ xs = [.ref p] ∧ (SqL X.K H p (ys.map V.str) ∨ SqT X.K H p (ys.map V.str)) ∧
    (ys.map (·.length)).sum + ys.length * a.length ≤ 16777216 ∧ Q (.str (Txt.join a ys)) H) joinM := by
  intro W w H σ s v vs d ds Q R r rs p
  unfold joinM at p
  split at p
  · next e =>
    obtain ⟨u, rfl, ru⟩ := one_of rs
    split at p
    · next a =>
      cases r
      split at p
      · next es he =>
        split at p
        · next ys hy =>
          split at p
          · next k =>
            have hk : (ys.map (·.length)).sum + ys.length * a.length ≤ 16777216 := of_decide_eq_true k
            unfold seqOf at he
            split at he
            · next ts =>
              cases he
              obtain ⟨q, us, rfl, h1, h2⟩ := R.tuple ru (ds := es) rfl
              rw [strs_rep h2 hy] at h1
              exact ⟨a, q, ys, rfl, rfl, .inr h1, hk, Post.here p R (Rep.str _)⟩
            · obtain ⟨q, us, rfl, h1, h2⟩ := R.list ru he
              rw [strs_rep h2 hy] at h1
              exact ⟨a, q, ys, rfl, rfl, .inl h1, hk, Post.here p R (Rep.str _)⟩
          · exact p.elim
        · exact p.elim
      · exact p.elim
    · exact p.elim
  · exact p.elim
def jnM (f g : M D) : M D := bnd f fun d s => match d with
  | .str a => bnd g (fun e => joinM (.str a) [e]) s
  | _ => .bad
theorem de_join {o e : Expr} {f g : M D} {ap pos : Pos} (ho : DE X W o f) (he : DE X W e g) (hs : starEach [e] X.env = [(false, eval e X.env)] := by rfl) (hbase : attributeBase o "join" X.env (eval o X.env) = eval o X.env := by rfl) (hline : (ap.endLine == pos.line) = true := by rfl) :
    DE X W (.Call (.Attribute o "join" ap) [e] [] pos) (jnM f g) := by
  obtain ⟨to, po, ro⟩ := ho
  obtain ⟨te, pe, re⟩ := he
  refine ⟨_, pe_join po pe hs hbase hline, fun w H σ s Q R z => ?_⟩
  refine ro.bnd R z fun d s1 w1 H1 v l1 R1 r1 p1 => ?_
  cases r1 with
  | str a =>
    have p1 : Post X.K W (pD X.K) w1 H1 σ (bnd g (fun e => joinM (.str a) [e]) s1) Q := p1
    refine ⟨⟨a, rfl⟩, ?_⟩
    refine re.bnd R1 p1 fun e s2 w2 H2 u l2 R2 r2 p2 => ?_
    exact rm_join W w2 H2 σ s2 _ [u] (.str a) [e] Q R2 (.str a) (.cons r2 .nil) p2
  | _ => exact p1.elim
/-! ### for the printed texts -/
def isM : D → D → M D := fun d e => match e with | .non => isNonM d | _ => fail
def isnotM : D → D → M D := fun d e => match e with | .non => notNonM d | _ => fail
theorem rop_is : ROp X (fun x y H Q => y = .non ∧ Q (.bl (decide (x = .non))) H) isM := rop_isN
theorem rop_isnot : ROp X (fun x y H Q => y = .non ∧ Q (.bl (!decide (x = .non))) H) isnotM := rop_notN
theorem de_gI' {x : Str} {i : Int} {pos : Pos} (hm : ∃ t, X.mg x = some (.int i t)) (hg : Gl X x := by rfl) (hd : (x == ("__debug__" : Str)) = false := by decide) : DE X W (.Name x pos) (ret (.int i)) := let ⟨_, h⟩ := hm; de_gI hg h hd
theorem de_gS' {x z : Str} {pos : Pos} (hm : ∃ t, X.mg x = some (.str z t)) (hg : Gl X x := by rfl) (hd : (x == ("__debug__" : Str)) = false := by decide) : DE X W (.Name x pos) (ret (.str z)) := let ⟨_, h⟩ := hm; de_gS hg h hd
theorem pg_n {i : Nat} {x : Str} {pos : Pos} (hN : X.N.Nodup) (hi : X.N[i]? = some x := by rfl) (hx : Loc X.env.scope x := by first | exact Or.inl rfl | exact Or.inr rfl) (hf : X.fn x = true ∨ X.env.scope.names.lookup x = some .local := by first | exact .inl rfl | exact .inr rfl) : PG X (.Name x pos) (gName i) := pg_name hN hi hx hf
/-- a def as the top leaves it -/
structure Top (K : PySem.W.Frag) (mg : Str → Option Value) (x : Str) (st : Stmt) (ps : List Str) : Prop where
  ex : ∃ (f : Addr) (fd : FuncData), Fun K x x st f fd ∧ mg x = some (.ref f) ∧ Binds K fd ps [] ∧ ∀ (s : Shared) (us : List Value), us.length = ps.length → BindsTo s fd ⟨us, []⟩ (ps.zip us)
theorem top_mk {K : PySem.W.Frag} {h : Heap} {mg : Str → Option Value} (X : K.In h) (G : h.Ns mainGlobals mg) {x : Str} {st : Stmt} {ps : List Str} {f : Addr} {oc : Value} {od an : Option Addr} {osl : Array (Option Value)} {kV doc pm cdv ct : Value} (a : PySem.W.nsIn K mainGlobals x = some (some (.ref f)))
    (l : K.lookup f = some ⟨oc, od, .func (PySem.W.fnOf x x (defArgs st) (defBody st) (defScope st) .none kV doc pm an cdv ct), osl⟩) (c : PySem.W.codeIn K cdv x = true) (k : PySem.W.keepIn K (.ref f) = true)
    (b : ∀ (kV doc pm : Value) (an : Option Addr) (cdv ct : Value) (us : List Value), us.length = ps.length → bindArgs (PySem.W.fnOf x x (defArgs st) (defBody st) (defScope st) .none kV doc pm an cdv ct) ⟨us, []⟩ = pure (ps.zip us)) : Top K mg x st ps :=
  have F := fun_mk (st := st) l c k
  ⟨f, _, F, PySem.W.mg_of X G a, F.binds b, fun s us hl => .of_eq (b _ _ _ _ _ _ us hl)⟩
theorem Top.fn {P : Program} {wd : World} {K : PySem.W.Frag} {mg : Str → Option Value} {base : Heap} {x : Str} {st : Stmt} {N ps : List Str} {k : Nat} {g : M Out} (T : Top K mg x st ps) (Sc : FnScope N ps (defScope st)) (hle : ps.length ≤ N.length)
    (body : ∀ (f : Addr) (cdv : Value) (A : Around) (outer : List Env) (s : Shared) (H : Hp) (E : XK), Room k (A.deeper (envOfC x (defScope st) s.heap.objs.size f cdv)) →
      DSs (cxOf CX0 P wd K mg base N x (defScope st) f cdv A outer s H E).nox W0 (defBody st) g) : FnP P wd K mg base x ps.length (k + 1) (runP N.length g) :=
  let ⟨f, fd, F, m, b, _⟩ := T.ex
  ⟨f, fd, ps, rfl, m, F.kp, b, fn_pure F Sc hle fun cdv A outer s H E hr => body f cdv A outer s H E hr⟩
theorem Top.law {P : Program} {wd : World} {K : PySem.W.Frag} {mg : Str → Option Value} {x y : Str} {st : Stmt} {N : List Str} {k : Nat} {g : M Out} (T : Top K mg x st [y]) (Sc : FnScope N [y] (defScope st)) (hle : 1 ≤ N.length)
    (body : ∀ (base : Heap), K.In base → base.Ns mainGlobals mg → ∀ (f : Addr) (cdv : Value) (A : Around) (outer : List Env) (s : Shared) (H : Hp) (E : XK), Room k (A.deeper (envOfC x (defScope st) s.heap.objs.size f cdv)) →
      DSs (cxOf CX0 P wd K mg base N x (defScope st) f cdv A outer s H E).nox W0 (defBody st) g) :
    ∃ (fa : Addr) (fd : FuncData), mg x = some (.ref fa) ∧ (∀ (s : Shared) (u : Value), BindsTo s fd ⟨[u], []⟩ [(y, u)]) ∧ ∀ base : Heap, K.In base → base.Ns mainGlobals mg → FnOk P wd K mg base CX0 (k + 1) fa fd [y] (SpP K 1 (runP N.length g)) :=
  let ⟨f, fd, F, m, _, b⟩ := T.ex
  ⟨f, fd, m, fun s u => b s [u] rfl, fun base X G => fn_pure F Sc hle fun cdv A outer s H E hr => body base X G f cdv A outer s H E hr⟩
theorem ints_rep {K : PySem.W.Frag} {w : Wd} : ∀ ns : List Int, RepL K w (ns.map V.int) (ns.map D.int)
  | [] => .nil
  | n :: r => .cons (.int n) (ints_rep r)
/-- the law's def: from the script to True -/
theorem law_end {l : PySem.W.OpenLaw} {q : Program} {loose : List Str} {XP : (Str → Option Value) → Heap → Prop} {YP : World → Heap → Prop} {d : DefRec} {K : Params → PySem.W.Frag} {x : Str} {k : Nat} {F : Pf} (hn : l.most = some 63) (hdf : d.params.defaults = []) (hd : d.name = "law") (hr : Room k callerA)
    (hY : ∀ (w : World) (h : Heap), YP w h → (K w.params).In h)
    (W : ∀ (w : World) (mg : Str → Option Value) (h : Heap), (K w.params).In h → h.Ns mainGlobals mg → (∃ (fa : Addr) (fd : FuncData), mg "law" = some (.ref fa) ∧ (∀ (s : Shared) (u : Value), BindsTo s fd ⟨[u], []⟩ [(x, u)]) ∧
      ∀ base : Heap, (K w.params).In base → base.Ns mainGlobals mg → FnOk l.prog w (K w.params) mg base CX0 k fa fd [x] (SpP (K w.params) 1 F)))
    (hF : ∀ ns : List Int, ns.length ≤ 63 → (∀ z ∈ ns, Builtin.Int.intBits z ≤ 1048576) → F [.lst (ns.map D.int)] [] = some (.bl true)) :
    PySem.W.WalkO q loose XP YP l.row.toRowW d [] (fun f vs => PySem.call f vs) := by
  refine L2.walk_ofB (n := 63) (k := k) (x := x) (CX := fun _ => CX0) (sp := fun w => SpP (K w.params) 1 F) hn (by decide) hdf hr hY (fun w mg fa h X G hmg => ?_) (fun w H a ns hl hb _ hS => ?_) fun _ _ _ _ _ z => z
  · obtain ⟨fa', fd, e, b, G'⟩ := W w mg h X G
    rw [hd, e] at hmg
    cases hmg
    exact ⟨fd, b, G'⟩
  · refine ⟨rfl, ⟨[], H⟩, [], ⟨[], []⟩, [.lst (ns.map D.int)], .bl true, ⟨fun _ _ h => h, rfl, fun i d h => by simp at h, rfl, .nil, fun _ h => by simp at h, fun n a c e => by simp at e⟩, .cons (.lst hS (ints_rep ns)) .nil, hF ns hl hb, fun w' H' v _ _ r => ?_⟩
    cases r
    rfl
end Fx

namespace Fx
open PySem PySem.Spec PyProof.Rows L2
variable {X : Cx} {W : WX}
/-! ### a < b of numbers, texts, alike data -/
def rLtData (K : PySem.W.Frag) : R2 := fun x y H Q => ∃ d e, Dp K H x d ∧ Dp K H y e ∧ PySem.W.alike d e = true ∧ d ≠ .none ∧ d.depth ≤ 64 ∧ Q (.bl (PySem.W.dataLt d e)) H
theorem op_ltData (hu : X.A.units + 64 < cLine) : OpR X (compareOp .Lt) (rLtData X.K) := by
  intro pins s σ H x y v u Q I rx ry h
  obtain ⟨d, e, hd, he, al, dn, sd, q⟩ := h
  obtain ⟨as, r1⟩ := Dp.reads I d x v hd rx
  obtain ⟨bs, r2⟩ := Dp.reads I e y u he ry
  exact PySem.W.lt_data r1 r2 al dn (Nat.lt_of_le_of_lt (Nat.add_le_add_left (Nat.le_trans (Nat.min_le_left _ _) sd) _) hu) ⟨.bl _, H, I, rfl, q⟩
def rLtA (K : PySem.W.Frag) : R2 := fun x y H Q => rI0 (fun i j => .bl (decide (i < j))) x y H Q ∨ (∃ i j, x = .str i ∧ y = .str j ∧ Q (.bl (decide (i.cps.toList < j.cps.toList))) H) ∨ rLtData K x y H Q
theorem op_ltA (hu : X.A.units + 64 < cLine) : OpR X (compareOp .Lt) (rLtA X.K) := opr_or op_lt (opr_or op_lt_str (op_ltData hu))
def ltAM : D → D → M D
  | .int i, .int j => ret (.bl (decide (i < j)))
  | .str a, .str b => ret (.bl (decide (a.cps.toList < b.cps.toList)))
  | .tup a, .tup b => fun s => match pyD s (.tup a), pyD s (.tup b) with
    | some p, some q => if (PySem.W.alike p q && decide (p.depth ≤ 64)) = true then .ok (.bl (PySem.W.dataLt p q)) s else .bad
    | _, _ => .bad
  | _, _ => fail
theorem rop_ltA : ROp X (rLtA X.K) ltAM := by
  intro W w H σ s x y d e Q R rx ry p
  unfold ltAM at p
  split at p
  · cases rx; cases ry; exact .inl ⟨_, _, rfl, rfl, Post.here p R (Rep.bl _)⟩
  · cases rx; cases ry; exact .inr (.inl ⟨_, _, rfl, rfl, Post.here p R (Rep.bl _)⟩)
  · next a b =>
    split at p
    · next p1 q1 h1 h2 =>
      split at p
      · next k =>
        rw [Bool.and_eq_true, decide_eq_true_eq] at k
        refine .inr (.inr ⟨p1, q1, R.py rx h1, R.py ry h2, k.1, ?_, k.2, Post.here p R (Rep.bl _)⟩)
        intro z
        subst z
        unfold pyD at h1
        dsimp only at h1
        unfold pyT at h1
        cases h3 : pyL a with
        | none => rw [h3] at h1; cases h1
        | some y => rw [h3] at h1; cases h1
      · exact p.elim
    · exact p.elim
  · exact p.elim
/-! ### a slice of a text, a list, a tuple (not the whole of it) -/
theorem slr_or {r1 r2 : V → Option Int → Option Int → Hp → VK → Prop} (h1 : SlR X r1) (h2 : SlR X r2) : SlR X (fun x l u H Q => r1 x l u H Q ∨ r2 x l u H Q) := by
  intro pins s σ H x v vl vu lo hi sl Q I rx hs pl pu h
  rcases h with h | h
  · exact h1 pins s σ H x v vl vu lo hi sl Q I rx hs pl pu h
  · exact h2 pins s σ H x v vl vu lo hi sl Q I rx hs pl pu h
def whole (n : Nat) (l u : Option Int) : Bool := decide (HT.sIx n 0 l = 0) && decide (HT.sIx n n u = n)
def slV (d : D) (l u : Option Int) : M D := fun s => match d with
  | .str x => if lenOk x.length = true then .ok (.str (cutS x l u)) s else .bad
  | .tup ds => if whole ds.length l u = true then .bad else .ok (.tup (cutD ds l u)) s
  | d => match lstOf s d with
    | some ds => .ok (.lst (cutD ds l u)) s
    | none => .bad
def slM (f : M D) (lo hi : M (Option Int)) : M D := bnd f fun d => bnd lo fun l => bnd hi fun u => slV d l u
theorem de_sl {e : Expr} {lo hi : Option Expr} {f : M D} {fl fh : M (Option Int)} {pos p2 : Pos} (h : DE X W e f) (hl : DO X W lo fl) (hh : DO X W hi fh) : DE X W (.Subscript e (.Slice lo hi none p2) pos) (slM f fl fh) := by
  obtain ⟨t, p, r⟩ := h
  obtain ⟨tl, pl, rl⟩ := hl
  obtain ⟨th, ph, rh⟩ := hh
  refine ⟨_, pe_slice (slr_or sl_str (slr_or sl_list sl_tup)) p pl ph, fun w H σ s Q R z => ?_⟩
  refine r.bnd R z fun d s1 w1 H1 v1 l1 R1 r1 p1 => ?_
  refine rl.bnd R1 p1 fun a s2 w2 H2 v2 l2 R2 r2 p2 => ?_
  refine rh.bnd R2 p2 fun b s3 w3 H3 v3 l3 R3 r3 p3 => ?_
  cases r2; cases r3
  replace r1 := Rep.up l3 (Rep.up l2 r1)
  unfold slV at p3
  split at p3
  · next x =>
    cases r1
    split at p3
    · next k => exact .inl ⟨x, rfl, of_decide_eq_true k, Post.here p3 R3 (Rep.str _)⟩
    · exact p3.elim
  · next ds =>
    split at p3
    · exact p3.elim
    · next k =>
      obtain ⟨a', vs, rfl, h1, h2⟩ := R3.tuple r1 (ds := ds) rfl
      refine .inr (.inr ⟨a', vs, rfl, h1, fun z => k ?_, fun q hq => ?_⟩)
      · unfold whole
        rw [← RepL.length h2, decide_eq_true z.1, decide_eq_true z.2]
        rfl
      · obtain ⟨l4, R4, r4⟩ := R3.newT hq (h2.cut a b)
        exact p3 _ _ _ l4 R4 r4
  · split at p3
    · next ds hd =>
      obtain ⟨a', vs, rfl, h1, h2⟩ := R3.list r1 hd
      refine .inr (.inl ⟨a', vs, rfl, h1, fun q hq => ?_⟩)
      obtain ⟨l4, R4, r4⟩ := R3.newL hq (h2.cut a b)
      exact p3 _ _ _ l4 R4 r4
    · exact p3.elim
end Fx

/-! the equations by which a printed text is reckoned -/
namespace Fx
open PySem PySem.Spec PyProof.Rows L2
/-- an equation that simp is to use as a step of its own -/
theorem nr {α : Sort _} {a b : α} (h : a = b) : a = b := h
theorem runP_of {n : Nat} {g : M Out} {ds : List D} {vh : List Cell} {d : D} (h : ∃ l, g (initS n ds vh) = .ok (.rt d) ⟨l, vh⟩) (hn : nc vh.length d = true) : runP n g ds vh = some d := by
  obtain ⟨l, h⟩ := h
  unfold runP
  rw [h]
  show fin vh ⟨l, vh⟩ d = some d
  unfold fin
  rw [if_pos (by exact List.take_length)]
  unfold thaw
  rw [if_pos hn]
/-- a list that was made cell by cell is handed back -/
theorem runP_cell {n : Nat} {g : M Out} {ds : List D} {vh more : List Cell} {es : List D} {k : Nat} (h : ∃ l, g (initS n ds vh) = .ok (.rt (.cell (vh.length + k))) ⟨l, vh ++ more⟩) (hk : more[k]? = some (.lst es)) (hn : ncL vh.length es = true) : runP n g ds vh = some (.lst es) := by
  obtain ⟨l, h⟩ := h
  have hm : ∀ es : List D, ncL vh.length es = true → mapO (thaw (vh ++ more) vh.length 7) es = some es := fun es => by
    induction es with
    | nil => intro _; rfl
    | cons x xs ih =>
      intro h
      have h : (nc vh.length x && ncL vh.length xs) = true := h
      rw [Bool.and_eq_true] at h
      unfold mapO
      rw [ih h.2]
      have : thaw (vh ++ more) vh.length 7 x = some x := by unfold thaw; rw [if_pos h.1]
      rw [this]
  unfold runP
  rw [h]
  show fin vh ⟨l, vh ++ more⟩ _ = _
  unfold fin
  rw [if_pos (by show (vh ++ more).take vh.length = vh; exact List.take_left)]
  unfold thaw
  rw [if_neg (by simp [nc])]
  show (match (vh ++ more)[vh.length + k]? with | some (.lst ds) => (mapO (thaw (vh ++ more) vh.length 7) ds).map D.lst | _ => none) = _
  rw [List.getElem?_append_right (by omega), Nat.add_sub_cancel_left, hk]
  show (mapO (thaw (vh ++ more) vh.length 7) es).map D.lst = _
  rw [hm es hn]; rfl
def Res.then' {α β : Type} (r : Res α) (k : α → M β) : Res β := match r with
  | .ok a s => k a s
  | .exc e s => .exc e s
  | .bad => .bad
def Res.andThen (r : Res Out) (q : M Out) : Res Out := match r with
  | .ok .nx s' => q s'
  | r => r
section
variable {α β : Type}
theorem x_bnd {m : M α} {k : α → M β} {s : S} : bnd m k s = (m s).then' k := nr rfl
theorem x_ok {a : α} {s : S} {k : α → M β} : (Res.ok a s).then' k = k a s := nr rfl
theorem x_ret {a : α} {s : S} : ret a s = .ok a s := nr rfl
theorem x_fail {s : S} : (fail : M α) s = .bad := nr rfl
theorem x_ite {c : Prop} [Decidable c] {a b : Res α} {k : α → M β} : (if c then a else b).then' k = if c then a.then' k else b.then' k := by split <;> rfl
theorem x_iteM {c : Prop} [Decidable c] {a b : M α} {s : S} : (if c then a else b) s = if c then a s else b s := by split <;> rfl
theorem x_bad {k : α → M β} : (Res.bad : Res α).then' k = .bad := nr rfl
end
def look (o : Option (Option D)) (s : S) : Res D := match o with
  | some (some d) => .ok d s
  | _ => .bad
theorem x_get {i : Nat} {s : S} : getL i s = look s.loc[i]? s := nr rfl
theorem x_look {d : D} {s : S} : look (some (some d)) s = .ok d s := nr rfl
theorem x_set {i : Nat} {s : S} {d : D} : setL i d s = .ok .nx ⟨s.loc.set i (some d), s.vh⟩ := nr rfl
theorem x_seq {p q : M Out} {s : S} : seqM p q s = (p s).andThen q := by unfold seqM Res.andThen; rfl
theorem x_nx {s : S} {q : M Out} : (Res.ok Out.nx s).andThen q = q s := nr rfl
theorem x_rt {d : D} {s : S} {q : M Out} : (Res.ok (Out.rt d) s).andThen q = .ok (.rt d) s := nr rfl
theorem x_brk {s : S} {q : M Out} : (Res.ok Out.brk s).andThen q = .ok .brk s := nr rfl
theorem x_cnt {s : S} {q : M Out} : (Res.ok Out.cnt s).andThen q = .ok .cnt s := nr rfl
theorem x_bad2 {q : M Out} : (Res.bad : Res Out).andThen q = .bad := nr rfl
theorem x_ite2 {c : Prop} [Decidable c] {a b : Res Out} {q : M Out} : (if c then a else b).andThen q = if c then a.andThen q else b.andThen q := by split <;> rfl
theorem x_asg {p : M D} {t : D → M Out} {s : S} : asgM p t s = (p s).then' t := nr rfl
theorem x_retM {p : M D} {s : S} : retM p s = (p s).then' fun d => ret (.rt d) := nr rfl
theorem x_drop {p : M D} {s : S} : dropM p s = (p s).then' fun _ => ret .nx := nr rfl
theorem x_if {c : M Bool} {p q : M Out} {s : S} : ifM c p q s = (c s).then' fun b => if b = true then p else q := nr rfl
theorem x_itM {c : M Bool} {p q : M D} {s : S} : iteM c p q s = (c s).then' fun b => if b = true then p else q := nr rfl
theorem x_asB {b : Bool} {s : S} : asB (.bl b) s = .ok b s := nr rfl
theorem x_bin {op : D → D → M D} {a b : M D} {s : S} : bin op a b s = (a s).then' fun d => bnd b fun e => op d e := nr rfl
theorem x_tst {a : M D} {s : S} : tst a s = (a s).then' asB := nr rfl
theorem x_and {p q : M D} {s : S} : andV p q s = (p s).then' fun d => bnd (asB d) fun c => if c = true then q else ret (.bl false) := nr rfl
theorem x_or {p q : M D} {s : S} : orV p q s = (p s).then' fun d => bnd (asB d) fun c => if c = true then ret (.bl true) else q := nr rfl
theorem x_not {p : M D} {s : S} : notV p s = (p s).then' fun d => bnd (asB d) fun c => ret (.bl (!c)) := nr rfl
theorem x_andT {p q : M Bool} {s : S} : andT p q s = (p s).then' fun c => if c = true then q else ret false := nr rfl
theorem x_orT {p q : M Bool} {s : S} : orT p q s = (p s).then' fun c => if c = true then ret true else q := nr rfl
theorem x_notT {p : M Bool} {s : S} : notT p s = (p s).then' fun c => ret (!c) := nr rfl
theorem x_cons {p : M D} {q : M (List D)} {s : S} : consM p q s = (p s).then' fun d => bnd q fun ds => ret (d :: ds) := nr rfl
def callR (o : Option D) (s : S) : Res D := match o with
  | some d => .ok d s
  | none => .bad
theorem x_call {n : Nat} {F : Pf} {ds : List D} {s : S} : callP n F ds s = if ds.length = n then callR (F ds s.vh) s else .bad := nr rfl
theorem x_callR {d : D} {s : S} : callR (some d) s = .ok d s := nr rfl
theorem x_isa {T : String} {d : D} {s : S} : isaM T d s = match tyName s d with | some a => .ok (.bl (isaT T a)) s | none => .bad := nr rfl
theorem x_sub {i j : Int} {s : S} : subM (.int i) (.int j) s = .ok (.int (i - j)) s := nr rfl
theorem x_add {i j : Int} {s : S} : addM (.int i) (.int j) s = .ok (.int (i + j)) s := nr rfl
theorem x_addS {i j : Str} {s : S} : addM (.str i) (.str j) s = if lenOk (i.length + j.length) = true then .ok (.str (i ++ j)) s else .bad := by
  show (if lenOk (i.length + j.length) = true then ret (D.str (i ++ j)) else fail) s = _
  split <;> rfl
theorem x_mod {i j : Int} {s : S} (h : 0 < j) : modM (.int i) (.int j) s = .ok (.int (i % j)) s := by
  show (if decide (0 < j) = true then ret _ else fail) s = _
  rw [if_pos (decide_eq_true h)]; rfl
theorem x_div {i j : Int} {s : S} (h : 0 < j) (h2 : j.natAbs.log2 < 9000) : divM (.int i) (.int j) s = .ok (.int (i / j)) s := by
  show (if (decide (0 < j) && decide (j.natAbs.log2 < 9000)) = true then ret _ else fail) s = _
  rw [if_pos (by rw [decide_eq_true h, decide_eq_true h2]; rfl)]; rfl
theorem x_mul {i j : Int} {s : S} (h : i.natAbs.log2 + j.natAbs.log2 < 100000000) : mulM (.int i) (.int j) s = .ok (.int (i * j)) s := by
  show (if decide (i.natAbs.log2 + j.natAbs.log2 < 100000000) = true then ret _ else fail) s = _
  rw [if_pos (decide_eq_true h)]; rfl
theorem x_pow {i j : Int} {s : S} (h : 0 ≤ j) (h2 : j ≤ 1000000) (h3 : i.natAbs < 2 ^ 64) : powM (.int i) (.int j) s = .ok (.int (i ^ j.toNat)) s := by
  show (if (decide (0 ≤ j) && (decide (j ≤ 1000000) && decide (i.natAbs < 2 ^ 64))) = true then ret _ else fail) s = _
  rw [if_pos (by rw [decide_eq_true h, decide_eq_true h2, decide_eq_true h3]; rfl)]; rfl
theorem x_shr {i j : Int} {s : S} (h : 0 ≤ j) : shrM (.int i) (.int j) s = .ok (.int (i / 2 ^ j.toNat)) s := by
  show (if decide (0 ≤ j) = true then ret _ else fail) s = _
  rw [if_pos (decide_eq_true h)]; rfl
theorem x_shl {i j : Int} {s : S} (h : 0 ≤ j) (h2 : j ≤ 1000000) (h3 : i.natAbs < 2 ^ 64) : shlM (.int i) (.int j) s = .ok (.int (i * 2 ^ j.toNat)) s := by
  show (if (decide (0 ≤ j) && (decide (j ≤ 1000000) && decide (i.natAbs < 2 ^ 64))) = true then ret _ else fail) s = _
  rw [if_pos (by rw [decide_eq_true h, decide_eq_true h2, decide_eq_true h3]; rfl)]; rfl
theorem x_xor {i j : Int} {s : S} : xorM (.int i) (.int j) s = .ok (.int (Builtin.bitXor i j)) s := nr rfl
theorem x_band {i j : Int} {s : S} : andM (.int i) (.int j) s = .ok (.int (Builtin.bitAnd i j)) s := nr rfl
theorem x_lt {i j : Int} {s : S} : ltAM (.int i) (.int j) s = .ok (.bl (decide (i < j))) s := nr rfl
theorem x_ltS {i j : Str} {s : S} : ltAM (.str i) (.str j) s = .ok (.bl (decide (i.cps.toList < j.cps.toList))) s := nr rfl
theorem x_le {i j : Int} {s : S} : leM (.int i) (.int j) s = .ok (.bl (decide (i ≤ j))) s := nr rfl
theorem x_gt {i j : Int} {s : S} : gtM (.int i) (.int j) s = .ok (.bl (decide (j < i))) s := nr rfl
theorem x_ge {i j : Int} {s : S} : geM (.int i) (.int j) s = .ok (.bl (decide (j ≤ i))) s := nr rfl
theorem x_eqI {i j : Int} {s : S} : eqM (.int i) (.int j) s = .ok (.bl (decide (i = j))) s := by
  show (if (SeqAt.shaped (PyData.int i) && SeqAt.shaped (PyData.int j)) = true then Res.ok (D.bl (PyData.eqv (.int i) (.int j))) s else .bad) = _
  rw [if_pos (by rfl)]
  simp [PyData.eqv, Bool.beq_eq_decide_eq]
theorem x_neI {i j : Int} {s : S} : neM (.int i) (.int j) s = .ok (.bl (!decide (i = j))) s := by
  show (if (SeqAt.shaped (PyData.int i) && SeqAt.shaped (PyData.int j)) = true then Res.ok (D.bl (!PyData.eqv (.int i) (.int j))) s else .bad) = _
  rw [if_pos (by rfl)]
  simp [PyData.eqv, Bool.beq_eq_decide_eq]
theorem x_true {α : Sort _} {a b : α} : (if true = true then a else b) = a := nr rfl
theorem x_false {α : Sort _} {a b : α} : (if false = true then a else b) = b := nr rfl
theorem x_aug {f : Int → Int → Int} {i : Nat} {p : M D} {s : S} : augI f i p s = (getL i s).then' fun a => bnd p fun b => augF f i a b := nr rfl
theorem x_augF {f : Int → Int → Int} {i : Nat} {x y : Int} {s : S} : augF f i (.int x) (.int y) s = .ok .nx ⟨s.loc.set i (some (.int (f x y))), s.vh⟩ := nr rfl
theorem x_forM {f : M Wk} {t : D → M Out} {b : M Out} {s : S} : forM f t b s = (f s).then' fun it => loopM it.ok t b it.items := nr rfl
theorem x_ran1 {n : Int} {s : S} (h : okB n = true) : ran1I [.int n] s = .ok ⟨ranD 0 n.toNat, fun _ => True⟩ s := by
  show (if okB n = true then _ else _) = _
  rw [if_pos h]
theorem x_ran2 {lo n : Int} {s : S} (h : okB lo = true) (h2 : okB n = true) : ran2I [.int lo, .int n] s = .ok ⟨ranD lo (n - lo).toNat, fun _ => True⟩ s := by
  show (if (okB lo && okB n) = true then _ else _) = _
  rw [if_pos (by rw [h, h2]; rfl)]
theorem okB_of {i : Int} (h : -(2 ^ 62) ≤ i) (h2 : i < 2 ^ 62) : okB i = true := by
  unfold okB
  rw [decide_eq_true h, decide_eq_true h2]; rfl
theorem x_seqL {ds : List D} {s : S} : seqI (.lst ds) s = .ok ⟨ds, fun s' => itemsOf s' (.lst ds) = some ds⟩ s := nr rfl
theorem x_seqT {ds : List D} {s : S} : seqI (.tup ds) s = .ok ⟨ds, fun s' => itemsOf s' (.tup ds) = some ds⟩ s := nr rfl
theorem x_seqS {x : Str} {s : S} : seqI (.str x) s = .ok ⟨signs x, fun s' => itemsOf s' (.str x) = some (signs x)⟩ s := nr rfl
theorem x_frz {m : M Cell} {s : S} : frzM m s = (m s).then' fun c => match c with | .lst ds => ret (.lst ds) | .dct _ => fail := nr rfl
theorem x_own {m : M Cell} {s : S} : ownM m s = (m s).then' fun c s => .ok (.cell s.vh.length) ⟨s.loc, s.vh ++ [c]⟩ := nr rfl
theorem lenOk_of {n : Nat} (h : n ≤ 16777216) : lenOk n = true := decide_eq_true (Nat.le_trans h (by decide))
theorem x_lst {q : M (List D)} {s : S} : lstN q s = (q s).then' fun ds => if lenOk ds.length = true then ret (.lst ds) else fail := nr rfl
theorem x_tup {q : M (List D)} {s : S} : tupM q s = (q s).then' fun ds => if lenOk ds.length = true then ret (.tup ds) else fail := nr rfl
theorem x_lenL {ds : List D} {s : S} : lenM [.lst ds] s = .ok (.int ds.length) s := nr rfl
theorem x_lenT {ds : List D} {s : S} : lenM [.tup ds] s = .ok (.int ds.length) s := nr rfl
theorem x_lenS {x : Str} {s : S} (h : lenOk x.length = true) : lenM [.str x] s = .ok (.int x.length) s := by
  show (if lenOk x.length = true then _ else _) = _
  rw [if_pos h]
def Res.opt {α : Type} (o : Option α) (s : S) : Res α := match o with
  | some y => .ok y s
  | none => .bad
theorem x_opt {α : Type} {y : α} {s : S} : Res.opt (some y) s = .ok y s := nr rfl
theorem x_ixL {ds : List D} {i : Int} {s : S} : ixM (.lst ds) (.int i) s = Res.opt (atI ds i) s := by cases h : atI ds i <;> simp [ixM, lstOf, Res.opt, h]
theorem x_ixT {ds : List D} {i : Int} {s : S} : ixM (.tup ds) (.int i) s = Res.opt (atI ds i) s := by cases h : atI ds i <;> simp [ixM, Res.opt, h]
theorem x_slL {f : M D} {lo hi : M (Option Int)} {s : S} : slL f lo hi s = (f s).then' fun d => bnd lo fun l => bnd hi fun u => fun s => match lstOf s d with | some ds => .ok (.lst (cutD ds l u)) s | none => .bad := nr rfl
theorem x_slM {f : M D} {lo hi : M (Option Int)} {s : S} : slM f lo hi s = (f s).then' fun d => bnd lo fun l => bnd hi fun u => slV d l u := nr rfl
theorem x_slVL {ds : List D} {l u : Option Int} {s : S} : slV (.lst ds) l u s = .ok (.lst (cutD ds l u)) s := nr rfl
theorem x_slVS {x : Str} {l u : Option Int} {s : S} : slV (.str x) l u s = if lenOk x.length = true then .ok (.str (cutS x l u)) s else .bad := nr rfl
theorem x_min2 {i j : Int} {s : S} : min2M [.int i, .int j] s = .ok (.int (if j < i then j else i)) s := nr rfl
theorem x_max2 {i j : Int} {s : S} : max2M [.int i, .int j] s = .ok (.int (if j > i then j else i)) s := nr rfl
theorem x_abs {i : Int} {s : S} : absM [.int i] s = .ok (.int (if i < 0 then -i else i)) s := nr rfl
theorem x_neg {i : Int} {s : S} : negM (.int i) s = .ok (.int (-i)) s := nr rfl
theorem x_part {f : M D} {s : S} : partM f s = (f s).then' fun d => match d with | .int i => ret (some i) | _ => fail := nr rfl
/-! comprehensions, loops -/
/-- every turn gives v d and leaves the cells -/
theorem lc_map {ok : S → Prop} {i : Nat} {c : M Bool} {e : M D} {l0 l : List (Option D)} {vh : List Cell} {q : D → Bool} {v : D → D} (hok : ∀ l, ok ⟨l, vh⟩) : ∀ (ds acc : List D), (acc.length + ds.length ≤ 16777216) →
    (∀ d ∈ ds, ∃ l1, c ⟨l0.set i (some d), vh⟩ = .ok (q d) ⟨l1, vh⟩ ∧ (q d = true → ∃ l2, e ⟨l1, vh⟩ = .ok (v d) ⟨l2, vh⟩)) →
    lcLoop ok i c e l0 l ds acc ⟨l0, vh⟩ = .ok (.lst (acc ++ (ds.filter q).map v)) ⟨l, vh⟩
  | [], acc, _, _ => by
    unfold lcLoop
    rw [if_pos (hok l0)]
    simp
  | d :: ds, acc, hl, h => by
    obtain ⟨l1, h1, h2⟩ := h d (List.mem_cons_self)
    have hlen : acc.length < sizeLine := Nat.lt_of_lt_of_le (show acc.length < 16777216 by simp at hl; omega) (by decide)
    unfold lcLoop
    rw [if_pos ⟨hok l0, hlen⟩]
    cases hq : q d with
    | false =>
      rw [hq] at h1
      have e1 : c { (⟨l0, vh⟩ : S) with loc := l0.set i (some d) } = .ok false ⟨l1, vh⟩ := h1
      rw [e1]
      have := lc_map (l := l) hok ds acc (by simp at hl; omega) (fun d' hd => h d' (List.mem_cons_of_mem _ hd))
      rw [List.filter_cons, if_neg (by rw [hq]; decide)]
      exact this
    | true =>
      rw [hq] at h1
      obtain ⟨l2, h3⟩ := h2 hq
      have e1 : c { (⟨l0, vh⟩ : S) with loc := l0.set i (some d) } = .ok true ⟨l1, vh⟩ := h1
      rw [e1]
      dsimp only
      rw [h3]
      have := lc_map (l := l) hok ds (acc ++ [v d]) (by simp at hl ⊢; omega) (fun d' hd => h d' (List.mem_cons_of_mem _ hd))
      rw [List.filter_cons, if_pos hq, List.map_cons]
      simpa using this
theorem lcM_map {f : M Wk} {i : Nat} {c : M Bool} {e : M D} {l : List (Option D)} {vh : List Cell} {items : List D} {ok : S → Prop} {q : D → Bool} {v : D → D} (hf : f ⟨l, vh⟩ = .ok ⟨items, ok⟩ ⟨l, vh⟩) (hok : ∀ l, ok ⟨l, vh⟩) (hl : items.length ≤ 16777216)
    (h : ∀ d ∈ items, ∃ l1, c ⟨(l.set i none).set i (some d), vh⟩ = .ok (q d) ⟨l1, vh⟩ ∧ (q d = true → ∃ l2, e ⟨l1, vh⟩ = .ok (v d) ⟨l2, vh⟩)) : lcM f i c e ⟨l, vh⟩ = .ok (.lst ((items.filter q).map v)) ⟨l, vh⟩ := by
  unfold lcM
  rw [bnd_ok hf]
  have := lc_map (l := l) hok items [] (by simpa using hl) h
  simpa using this
/-- without a test -/
theorem lcM_all {f : M Wk} {i : Nat} {e : M D} {l : List (Option D)} {vh : List Cell} {items : List D} {ok : S → Prop} {v : D → D} (hf : f ⟨l, vh⟩ = .ok ⟨items, ok⟩ ⟨l, vh⟩) (hok : ∀ l, ok ⟨l, vh⟩) (hl : items.length ≤ 16777216)
    (h : ∀ d ∈ items, ∃ l2, e ⟨(l.set i none).set i (some d), vh⟩ = .ok (v d) ⟨l2, vh⟩) : lcM f i yesM e ⟨l, vh⟩ = .ok (.lst (items.map v)) ⟨l, vh⟩ := by
  have := lcM_map (c := yesM) (q := fun _ => true) (v := v) hf hok hl fun d hd => ⟨_, rfl, fun _ => h d hd⟩
  rw [this, List.filter_eq_self.mpr (fun _ _ => rfl)]
/-- a for loop by what holds between its turns; it may leave by a return where Pv says so -/
theorem loopM_all {ok : S → Prop} {t : D → M Out} {b : M Out} (Pv : Nat → S → Prop) (items : List D) (hok : ∀ i s, Pv i s → ok s)
    (hs : ∀ (i : Nat) d s, items[i]? = some d → Pv i s → ∃ s1, t d s = .ok .nx s1 ∧ ∃ s2, (b s1 = .ok .nx s2 ∨ b s1 = .ok .cnt s2) ∧ Pv (i + 1) s2) : ∀ (k : Nat) s, k ≤ items.length → Pv k s → ∃ s2, loopM ok t b (items.drop k) s = .ok .nx s2 ∧ Pv items.length s2 := by
  intro k s hk hp
  generalize hm : items.length - k = m
  induction m generalizing k s with
  | zero =>
    have e : k = items.length := by omega
    subst e
    refine ⟨s, ?_, hp⟩
    rw [List.drop_length]
    unfold loopM
    rw [if_pos (hok _ _ hp)]
  | succ m ih =>
    have hlt : k < items.length := by omega
    obtain ⟨s1, h1, s2, h2, h3⟩ := hs k items[k] s (List.getElem?_eq_getElem hlt) hp
    obtain ⟨s3, h4, h5⟩ := ih (k + 1) s2 (by omega) h3 (by omega)
    refine ⟨s3, ?_, h5⟩
    rw [List.drop_eq_getElem_cons hlt]
    unfold loopM
    rw [if_pos (hok _ _ hp), h1]
    dsimp only
    rcases h2 with h2 | h2 <;> rw [h2] <;> exact h4
/-- a while by a measure -/
theorem whileM_all {c : M Bool} {b : M Out} (Pv : S → Prop) (μ : S → Nat) (hs : ∀ s, Pv s → (∃ s1, c s = .ok true s1 ∧ ∃ s2, (b s1 = .ok .nx s2 ∨ b s1 = .ok .cnt s2) ∧ Pv s2 ∧ μ s2 < μ s) ∨ ∃ s1, c s = .ok false s1 ∧ Pv s1 ∧ c s1 = .ok false s1) :
    ∀ (n : Nat) s, Pv s → μ s < n → ∃ s2 s3, whileM c b n s = .ok .nx s2 ∧ Pv s2 ∧ c s3 = .ok false s2 := by
  intro n
  induction n with
  | zero => intro s _ h; omega
  | succ n ih =>
    intro s hp hm
    rcases hs s hp with ⟨s1, h1, s2, h2, h3, h4⟩ | ⟨s1, h1, h2, h3⟩
    · obtain ⟨s3, s4, h5, h6, h7⟩ := ih s2 h3 (by omega)
      refine ⟨s3, s4, ?_, h6, h7⟩
      unfold whileM
      rw [h1]
      dsimp only
      rcases h2 with h2 | h2 <;> rw [h2] <;> exact h5
    · refine ⟨s1, s, ?_, h2, h1⟩
      unfold whileM
      rw [h1]
end Fx
namespace Fx
open PySem PySem.Spec PyProof.Rows L2
theorem atI_ofNat {α : Type} {xs : List α} {i : Nat} (h : i < xs.length) : atI xs (i : Int) = xs[i]? := by
  unfold atI ixN
  rw [if_pos (by omega), if_pos (by omega)]
  simp
theorem log2_of {x : Int} {k : Nat} (h0 : 0 < k) (h : x.natAbs < 2 ^ k) : x.natAbs.log2 < k := PySem.Flt.log2_lt_of h0 h
theorem cut_all {xs : List D} {k : Int} {n : Nat} (hk : k = (n : Int)) : cutD xs none (some k) = xs.take n := by
  subst hk
  unfold cutD
  rw [HT.sIx_none, show HT.sIx xs.length xs.length (some (n : Int)) = min n xs.length from HT.sIx_nat xs.length xs.length n]
  rw [List.drop_zero, Nat.sub_zero]
  by_cases h : n ≤ xs.length
  · rw [Nat.min_eq_left h]
  · rw [Nat.min_eq_right (by omega), List.take_of_length_le (by omega), List.take_of_length_le (by omega)]
/-- an int turned by f -/
def onI (f : Int → Int) : D → D
  | .int i => .int (f i)
  | d => d
theorem onI_int (f : Int → Int) (n : Int) : onI f (.int n) = .int (f n) := rfl
theorem onI_map (f : Int → Int) (ns : List Int) : (ns.map D.int).map (onI f) = (ns.map f).map D.int := by
  rw [List.map_map, List.map_map]; rfl
theorem mem_ints {ns : List Int} {d : D} (h : d ∈ ns.map D.int) : ∃ n, n ∈ ns ∧ d = .int n := by
  obtain ⟨n, a, b⟩ := List.mem_map.mp h
  exact ⟨n, a, b.symm⟩
theorem x_catL {xs ys : List D} {s : S} (h : lenOk (xs.length + ys.length) = true) : addM (.lst xs) (.lst ys) s = .ok (.lst (xs ++ ys)) s := by
  show (if lenOk (xs.length + ys.length) = true then _ else _) = _
  rw [if_pos h]
theorem at_ints {ns : List Int} {i : Nat} (h : i < ns.length) : atI (ns.map D.int) (i : Int) = some (.int ns[i]) := by
  rw [atI_ofNat (by rw [List.length_map]; exact h), List.getElem?_map, List.getElem?_eq_getElem h]; rfl
theorem ranD_at {lo : Int} {n i : Nat} {d : D} (h : (ranD lo n)[i]? = some d) : i < n ∧ d = .int (lo + (i : Int)) := by
  have hi : i < n := by
    have := (List.getElem?_eq_some_iff.mp h).1
    rw [ranD_len] at this; exact this
  rw [ranD_get hi] at h
  cases h
  exact ⟨hi, rfl⟩
/-- the whole loop -/
theorem loopM_run {ok : S → Prop} {t : D → M Out} {b : M Out} (Pv : Nat → S → Prop) (items : List D) (s : S) (hok : ∀ i s, Pv i s → ok s)
    (hs : ∀ (i : Nat) d s, items[i]? = some d → Pv i s → ∃ s1, t d s = .ok .nx s1 ∧ ∃ s2, (b s1 = .ok .nx s2 ∨ b s1 = .ok .cnt s2) ∧ Pv (i + 1) s2) (h0 : Pv 0 s) : ∃ s2, loopM ok t b items s = .ok .nx s2 ∧ Pv items.length s2 :=
  loopM_all Pv items hok hs 0 s (Nat.zero_le _) h0
end Fx

/-! texts by their codes, plain values -/
namespace Fx
open PySem PySem.Spec PyProof.Rows L2 TL
/-- the text of these codes -/
def tx (cs : List Nat) : Str := ⟨cs.toArray⟩
theorem tx_len (cs : List Nat) : (tx cs).length = cs.length := by
  show cs.toArray.size = cs.length
  exact List.size_toArray
theorem tx_tl (cs : List Nat) : (tx cs).cps.toList = cs := by
  show cs.toArray.toList = cs
  simp
theorem tx_of (x : Str) : tx x.cps.toList = x := by
  cases x
  simp [tx]
theorem tx_app (a b : List Nat) : tx a ++ tx b = tx (a ++ b) := by
  have h : tl (tx a ++ tx b) = tl (tx a) ++ tl (tx b) := tl_append _ _
  rw [show tl (tx a) = a from tx_tl a, show tl (tx b) = b from tx_tl b] at h
  rw [← tx_of (tx a ++ tx b)]
  show tx (tl (tx a ++ tx b)) = _
  rw [h]
theorem tx_inj {a b : List Nat} (h : tx a = tx b) : a = b := by
  have := congrArg (fun x : Str => x.cps.toList) h
  simpa [tx_tl] using this
theorem tx_one (c : Nat) : (⟨#[c]⟩ : Str) = tx [c] := rfl
theorem tx_nil : Str.ofString "" = tx [] := by decide +kernel
theorem joinL_nil : ∀ ps : List (List Nat), joinL [] ps = ps.flatten
  | [] => rfl
  | [p] => by simp [joinL]
  | p :: q :: r => by
    show p ++ ([] ++ joinL [] (q :: r)) = _
    rw [joinL_nil (q :: r)]
    simp
theorem flat_one (cs : List Nat) : (cs.map fun c => [c]).flatten = cs := by
  induction cs with
  | nil => rfl
  | cons c r ih => simp [ih]
theorem join_tx (ps : List (List Nat)) : Txt.join (tx []) (ps.map tx) = tx ps.flatten := by
  rw [join_eq, ← tx_of (Str.join _ _)]
  show tx (tl (Str.join (tx []) (ps.map tx))) = _
  rw [tl_join, show tl (tx []) = [] from tx_tl [], joinL_nil, List.map_map]
  congr 1
  congr 1
  rw [show (tl ∘ tx) = id from funext fun cs => tx_tl cs, List.map_id]
theorem strsOf_map : ∀ ps : List (List Nat), strsOf (ps.map fun p => D.str (tx p)) = some (ps.map tx)
  | [] => rfl
  | p :: r => by
    show (strsOf (r.map fun p => D.str (tx p))).map (tx p :: ·) = _
    rw [strsOf_map r]; rfl
/-- joined without a sign between -/
theorem x_join {f g : M D} {s : S} : jnM f g s = (f s).then' fun d s => match d with | .str a => bnd g (fun e => joinM (.str a) [e]) s | _ => .bad := nr rfl
theorem join_ok (ps : List (List Nat)) (s : S) (h : (ps.map List.length).sum ≤ 16777216) : joinM (.str (tx [])) [.lst (ps.map fun p => D.str (tx p))] s = .ok (.str (tx ps.flatten)) s := by
  show (match strsOf (ps.map fun p => D.str (tx p)) with | some ys => if joinOk (tx []) ys = true then Res.ok (D.str (Txt.join (tx []) ys)) s else .bad | none => .bad) = _
  rw [strsOf_map]
  show (if joinOk (tx []) (ps.map tx) = true then Res.ok (D.str (Txt.join (tx []) (ps.map tx))) s else .bad) = _
  rw [if_pos, join_tx]
  unfold joinOk
  refine decide_eq_true ?_
  rw [tx_len, List.length_nil, Nat.mul_zero, Nat.add_zero, List.map_map, show ((fun x : Str => x.length) ∘ tx) = List.length from funext fun cs => tx_len cs]
  exact h
theorem sum_ones (cs : List Nat) : ((cs.map fun c => [c]).map List.length).sum = cs.length := by
  induction cs with
  | nil => rfl
  | cons c r ih => simp at ih ⊢; omega
theorem join_signs (cs : List Nat) (s : S) (h : cs.length ≤ 16777216) : joinM (.str (tx [])) [.lst (cs.map fun c => D.str (tx [c]))] s = .ok (.str (tx cs)) s := by
  have := join_ok (cs.map fun c => [c]) s (by rw [sum_ones]; exact h)
  rw [flat_one, List.map_map] at this
  exact this
theorem x_ixS {cs : List Nat} {i : Int} {s : S} (h : cs.length ≤ 16777216) : ixM (.str (tx cs)) (.int i) s = Res.opt ((atI cs i).map fun c => D.str (tx [c])) s := by
  show (if lenOk (tx cs).length = true then (match atI (tx cs).cps.toList i with | some c => Res.ok (D.str ⟨#[c]⟩) s | none => .bad) else .bad) = _
  rw [tx_len, if_pos (lenOk_of h), tx_tl]
  cases atI cs i <;> rfl
theorem cutS_take (cs : List Nat) (n : Nat) : cutS (tx cs) none (some (n : Int)) = tx (cs.take n) := by
  unfold cutS
  rw [tx_tl, tx_len, HT.sIx_none, show HT.sIx cs.length cs.length (some (n : Int)) = min n cs.length from HT.sIx_nat _ _ n, List.drop_zero, Nat.sub_zero]
  show tx (cs.take (min n cs.length)) = _
  congr 1
  by_cases h : n ≤ cs.length
  · rw [Nat.min_eq_left h]
  · rw [Nat.min_eq_right (by omega), List.take_of_length_le (by omega), List.take_of_length_le (by omega)]
theorem cutS_drop (cs : List Nat) (n : Nat) : cutS (tx cs) (some (n : Int)) none = tx (cs.drop n) := by
  unfold cutS
  rw [tx_tl, tx_len, HT.sIx_none, show HT.sIx cs.length 0 (some (n : Int)) = min n cs.length from HT.sIx_nat _ _ n]
  show tx ((cs.drop (min n cs.length)).take (cs.length - min n cs.length)) = _
  congr 1
  by_cases h : n ≤ cs.length
  · rw [Nat.min_eq_left h, List.take_of_length_le (by rw [List.length_drop]; exact Nat.le_refl _)]
  · rw [Nat.min_eq_right (by omega), List.drop_of_length_le (Nat.le_refl _), List.drop_of_length_le (by omega)]
    simp
theorem x_slS {f : M D} {lo hi : M (Option Int)} {s : S} : slS f lo hi s = (f s).then' fun d => bnd lo fun l => bnd hi fun u => match d with | .str x => if lenOk x.length = true then ret (.str (cutS x l u)) else fail | _ => fail := nr rfl
theorem tx_eq {a b : List Nat} : decide (tx a = tx b) = decide (a = b) := by
  by_cases h : a = b
  · subst h; simp
  · rw [decide_eq_false h]
    exact decide_eq_false fun e => h (tx_inj e)
theorem x_eqS {a b : List Nat} {s : S} : eqM (.str (tx a)) (.str (tx b)) s = .ok (.bl (decide (a = b))) s := by
  show Res.ok (D.bl (decide (tx a = tx b))) s = _
  rw [tx_eq]
theorem x_neS {a b : List Nat} {s : S} : neM (.str (tx a)) (.str (tx b)) s = .ok (.bl (!decide (a = b))) s := by
  show Res.ok (D.bl (!decide (tx a = tx b))) s = _
  rw [tx_eq]
theorem x_eqB {a b : Bool} {s : S} : eqM (.bl a) (.bl b) s = .ok (.bl (decide (a = b))) s := by
  show (if (SeqAt.shaped (PyData.bool a) && SeqAt.shaped (PyData.bool b)) = true then Res.ok (D.bl (PyData.eqv (.bool a) (.bool b))) s else .bad) = _
  rw [if_pos (by rfl)]
  cases a <;> cases b <;> simp [PyData.eqv]
theorem x_neB {a b : Bool} {s : S} : neM (.bl a) (.bl b) s = .ok (.bl (!decide (a = b))) s := by
  show (if (SeqAt.shaped (PyData.bool a) && SeqAt.shaped (PyData.bool b)) = true then Res.ok (D.bl (!PyData.eqv (.bool a) (.bool b))) s else .bad) = _
  rw [if_pos (by rfl)]
  cases a <;> cases b <;> simp [PyData.eqv]
/-! plain values -/
inductive Pl where
  | non | int (i : Int) | str (cs : List Nat)
def Pl.d : Pl → D
  | .non => .non
  | .int i => .int i
  | .str cs => .str (tx cs)
/-- the order of plain values -/
def Pl.lt : Pl → Pl → Bool
  | .non, .non => false
  | .non, _ => true
  | _, .non => false
  | .int i, .int j => decide (i < j)
  | .int _, .str _ => true
  | .str _, .int _ => false
  | .str a, .str b => decide (a < b)
theorem Pl.nc (b : Nat) (p : Pl) : Fx.nc b p.d = true := by cases p <;> rfl
theorem Pl.ncL (b : Nat) (ps : List Pl) : Fx.ncL b (ps.map Pl.d) = true := by
  induction ps with
  | nil => rfl
  | cons p r ih =>
    show (Fx.nc b p.d && Fx.ncL b (r.map Pl.d)) = true
    rw [Pl.nc, ih]; rfl
theorem mem_pls {ps : List Pl} {d : D} (h : d ∈ ps.map Pl.d) : ∃ p, p ∈ ps ∧ d = p.d := by
  obtain ⟨n, a, b⟩ := List.mem_map.mp h
  exact ⟨n, a, b.symm⟩
theorem isa_int_NoneType : isaT "int" "NoneType" = false := by decide
theorem isa_int_bool : isaT "int" "bool" = true := by decide
theorem isa_int_int : isaT "int" "int" = true := by decide
theorem isa_int_str : isaT "int" "str" = false := by decide
theorem isa_int_tuple : isaT "int" "tuple" = false := by decide
theorem isa_int_list : isaT "int" "list" = false := by decide
theorem isa_int_dict : isaT "int" "dict" = false := by decide
theorem isa_bool_NoneType : isaT "bool" "NoneType" = false := by decide
theorem isa_bool_bool : isaT "bool" "bool" = true := by decide
theorem isa_bool_int : isaT "bool" "int" = false := by decide
theorem isa_bool_str : isaT "bool" "str" = false := by decide
theorem isa_bool_tuple : isaT "bool" "tuple" = false := by decide
theorem isa_bool_list : isaT "bool" "list" = false := by decide
theorem isa_bool_dict : isaT "bool" "dict" = false := by decide
theorem isa_str_NoneType : isaT "str" "NoneType" = false := by decide
theorem isa_str_bool : isaT "str" "bool" = false := by decide
theorem isa_str_int : isaT "str" "int" = false := by decide
theorem isa_str_str : isaT "str" "str" = true := by decide
theorem isa_str_tuple : isaT "str" "tuple" = false := by decide
theorem isa_str_list : isaT "str" "list" = false := by decide
theorem isa_str_dict : isaT "str" "dict" = false := by decide
theorem isa_tuple_NoneType : isaT "tuple" "NoneType" = false := by decide
theorem isa_tuple_bool : isaT "tuple" "bool" = false := by decide
theorem isa_tuple_int : isaT "tuple" "int" = false := by decide
theorem isa_tuple_str : isaT "tuple" "str" = false := by decide
theorem isa_tuple_tuple : isaT "tuple" "tuple" = true := by decide
theorem isa_tuple_list : isaT "tuple" "list" = false := by decide
theorem isa_tuple_dict : isaT "tuple" "dict" = false := by decide
theorem isa_list_NoneType : isaT "list" "NoneType" = false := by decide
theorem isa_list_bool : isaT "list" "bool" = false := by decide
theorem isa_list_int : isaT "list" "int" = false := by decide
theorem isa_list_str : isaT "list" "str" = false := by decide
theorem isa_list_tuple : isaT "list" "tuple" = false := by decide
theorem isa_list_list : isaT "list" "list" = true := by decide
theorem isa_list_dict : isaT "list" "dict" = false := by decide
theorem isa_dict_NoneType : isaT "dict" "NoneType" = false := by decide
theorem isa_dict_bool : isaT "dict" "bool" = false := by decide
theorem isa_dict_int : isaT "dict" "int" = false := by decide
theorem isa_dict_str : isaT "dict" "str" = false := by decide
theorem isa_dict_tuple : isaT "dict" "tuple" = false := by decide
theorem isa_dict_list : isaT "dict" "list" = false := by decide
theorem isa_dict_dict : isaT "dict" "dict" = true := by decide
theorem x_is1 {s : S} : isM .non .non s = .ok (.bl true) s := nr rfl
theorem x_is2 {i : Int} {s : S} : isM (.int i) .non s = .ok (.bl false) s := nr rfl
theorem x_is3 {i : Str} {s : S} : isM (.str i) .non s = .ok (.bl false) s := nr rfl
theorem x_is4 {i : List D} {s : S} : isM (.lst i) .non s = .ok (.bl false) s := nr rfl
theorem x_is5 {i : List D} {s : S} : isM (.tup i) .non s = .ok (.bl false) s := nr rfl
theorem x_isn1 {s : S} : isnotM .non .non s = .ok (.bl false) s := nr rfl
theorem x_isn2 {i : Int} {s : S} : isnotM (.int i) .non s = .ok (.bl true) s := nr rfl
theorem x_isn3 {i : Str} {s : S} : isnotM (.str i) .non s = .ok (.bl true) s := nr rfl
theorem x_isn4 {i : List D} {s : S} : isnotM (.lst i) .non s = .ok (.bl true) s := nr rfl
theorem x_isn5 {i : List D} {s : S} : isnotM (.tup i) .non s = .ok (.bl true) s := nr rfl
/-! append to the list that is the last cell -/
theorem x_meth {T : String} {f : M D} {fs : M (List D)} {g : D → List D → M D} {s : S} : methM T f fs g s = (f s).then' fun d s => if isTy T s d = true then bnd fs (fun ds => g d ds) s else .bad := nr rfl
theorem last_cell {vh : List Cell} {c : Cell} : (vh ++ [c])[vh.length]? = some c := by simp
theorem isTy_last {l : List (Option D)} {vh : List Cell} {ds : List D} : isTy "list" ⟨l, vh ++ [.lst ds]⟩ (.cell vh.length) = true := by
  unfold isTy lstOf
  simp [last_cell]
theorem x_appL {l : List (Option D)} {vh : List Cell} {ds : List D} {e : D} (h : ds.length < 16777216) : appM (.cell vh.length) [e] ⟨l, vh ++ [.lst ds]⟩ = .ok .non ⟨l, vh ++ [.lst (ds ++ [e])]⟩ := by
  have hz : ds.length < sizeLine := Nat.lt_of_lt_of_le h (by decide)
  unfold appM wrM
  simp [last_cell, hz]
/-- the codes of a written text -/
def cd (s : String) : List Nat := (Str.ofString s).cps.toList
theorem lit (s : String) : Str.ofString s = tx (cd s) := (tx_of _).symm
theorem cd_nil : cd "" = [] := by decide +kernel
theorem atI_mod {α : Type} {xs : List α} {n m : Int} (d : α) (h0 : 0 < m) (hm : m = (xs.length : Int)) : atI xs (n % m) = some (xs.getD (n % m).toNat d) := by
  have h1 := Int.emod_nonneg n (by omega : m ≠ 0)
  have h2 := Int.emod_lt_of_pos n h0
  have e : n % m = (((n % m).toNat : Nat) : Int) := (Int.toNat_of_nonneg h1).symm
  have h3 : (n % m).toNat < xs.length := by omega
  rw [e, atI_ofNat h3, Int.toNat_natCast, List.getD_eq_getElem?_getD, List.getElem?_eq_getElem h3]
  rfl
/-- ranks -/
def Pl.rank : Pl → D
  | .non => .tup [.int 0, .int 0, .str (tx [])]
  | .int i => .tup [.int 1, .int i, .str (tx [])]
  | .str cs => .tup [.int 2, .int 0, .str (tx cs)]
theorem lex3 (a b c d : Int) (x y : Str) : PySem.W.dataLt (.tuple [.int a, .int b, .str x]) (.tuple [.int c, .int d, .str y]) = if a = c then (if b = d then decide (x.cps.toList < y.cps.toList) else decide (b < d)) else decide (a < c) := by
  rw [PySem.W.dataLt_tuple]
  have eI : ∀ a c : Int, PyData.eqv (.int a) (.int c) = decide (a = c) := fun a c => by simp [PyData.eqv, Bool.beq_eq_decide_eq]
  have eS : PyData.eqv (.str x) (.str y) = decide (x = y) := by rw [PyData.eqv]; rfl
  by_cases h1 : a = c
  · rw [if_pos h1, PySem.W.dataLt_all_yes (by rfl) (by rw [eI]; exact decide_eq_true h1)]
    by_cases h2 : b = d
    · rw [if_pos h2, PySem.W.dataLt_all_yes (by rfl) (by rw [eI]; exact decide_eq_true h2)]
      by_cases h3 : x = y
      · rw [PySem.W.dataLt_all_yes (by rfl) (by rw [eS]; exact decide_eq_true h3)]
        subst h3
        have : ¬ (x.cps.toList < x.cps.toList) := List.lt_irrefl _
        rw [decide_eq_false this]
        rfl
      · rw [PySem.W.dataLt_all_no (by rfl) (by rw [eS]; exact decide_eq_false h3), PySem.W.dataLt_str]
    · rw [if_neg h2, PySem.W.dataLt_all_no (by rfl) (by rw [eI]; exact decide_eq_false h2), PySem.W.dataLt_int]
  · rw [if_neg h1, PySem.W.dataLt_all_no (by rfl) (by rw [eI]; exact decide_eq_false h1), PySem.W.dataLt_int]
theorem lt3 (a b c d : Int) (x y : Str) (s : S) : ltAM (.tup [.int a, .int b, .str x]) (.tup [.int c, .int d, .str y]) s = .ok (.bl (if a = c then (if b = d then decide (x.cps.toList < y.cps.toList) else decide (b < d)) else decide (a < c))) s := by
  rw [← lex3]
  show (if (PySem.W.alike (PyData.tuple [.int a, .int b, .str x]) (PyData.tuple [.int c, .int d, .str y]) && decide ((PyData.tuple [.int a, .int b, .str x]).depth ≤ 64)) = true then Res.ok (D.bl (PySem.W.dataLt (PyData.tuple [.int a, .int b, .str x]) (PyData.tuple [.int c, .int d, .str y]))) s else .bad) = _
  rw [if_pos (by rfl)]
theorem rank_lt (a b : Pl) (s : S) : ltAM a.rank b.rank s = .ok (.bl (a.lt b)) s := by
  cases a <;> cases b <;> (unfold Pl.rank; rw [lt3]) <;> simp [Pl.lt, tx_tl] <;> omega
/-! numbers of few bits -/
theorem lg_mono {a b : Nat} (h : a ≤ b) : a.log2 ≤ b.log2 := by
  by_cases ha : a = 0
  · subst ha; simp
  · exact (Nat.le_log2 (by omega)).mpr (Nat.le_trans (Nat.log2_self_le ha) h)
def Sm (c : Int) : Prop := c.natAbs.log2 ≤ 2000000
theorem Sm.div {c k : Int} (h : Sm c) (hk : 0 < k) : Sm (c / k) := by
  unfold Sm at h ⊢
  refine Nat.le_trans (lg_mono ?_) h
  have e1 : k * (c / k) + c % k = c := Int.mul_ediv_add_emod c k
  have e2 := Int.emod_nonneg c (by omega : k ≠ 0)
  have e3 := Int.emod_lt_of_pos c hk
  rcases Int.lt_or_le (c / k) 0 with h1 | h1
  · have h2 : c / k ≥ c := by
      have : (k - 1) * (c / k) ≤ 0 := Int.mul_nonpos_of_nonneg_of_nonpos (by omega) (by omega)
      have e4 : (k - 1) * (c / k) = k * (c / k) - c / k := by rw [Int.sub_mul, Int.one_mul]
      have h3 : c < 0 := by
        rcases Int.lt_or_le c 0 with z | z
        · exact z
        · have := Int.ediv_nonneg z (Int.le_of_lt hk); omega
      -- c = k q + r, r < k, q ≤ -1
      have h5 : k * (c / k) + k > c := by omega
      have h6 : (k - 1) * (c / k + 1) ≤ 0 := Int.mul_nonpos_of_nonneg_of_nonpos (by omega) (by omega)
      have e7 : (k - 1) * (c / k + 1) = k * (c / k) + k - (c / k) - 1 := by rw [Int.sub_mul, Int.one_mul, Int.mul_add, Int.mul_one]; omega
      omega
    omega
  · have h2 : c / k ≤ c := by
      have : 0 ≤ (k - 1) * (c / k) := Int.mul_nonneg (by omega) h1
      have e4 : (k - 1) * (c / k) = k * (c / k) - c / k := by rw [Int.sub_mul, Int.one_mul]
      omega
    omega
theorem Sm.of_bits {c : Int} (h : Builtin.Int.intBits c ≤ 1048576) : Sm c := by
  unfold Sm
  unfold Builtin.Int.intBits at h
  split at h <;> first | (have : c.natAbs.log2 ≤ 1048576 := by omega); omega | (next k => (have e : c = 0 := by simpa using k); subst e; decide)
theorem Sm.mul {c : Int} (h : Sm c) (k : Int) (hk : k.natAbs.log2 < 10000000) : c.natAbs.log2 + k.natAbs.log2 < 100000000 := by
  unfold Sm at h; omega
theorem x_lenTx {cs : List Nat} {s : S} (h : cs.length ≤ 16777216) : lenM [.str (tx cs)] s = .ok (.int cs.length) s := by rw [x_lenS (by rw [tx_len]; exact lenOk_of h), tx_len]
theorem x_addTx {a b : List Nat} {s : S} (h : a.length + b.length ≤ 16777216) : addM (.str (tx a)) (.str (tx b)) s = .ok (.str (tx (a ++ b))) s := by rw [x_addS, tx_len, tx_len, if_pos (lenOk_of h), tx_app]
theorem x_slVTx {cs : List Nat} {l u : Option Int} {s : S} (h : cs.length ≤ 16777216) : slV (.str (tx cs)) l u s = .ok (.str (cutS (tx cs) l u)) s := by rw [x_slVS, tx_len, if_pos (lenOk_of h)]
theorem cutS_drop1 (cs : List Nat) (n : Nat) : cutS (tx cs) (some ((n : Int) + 1)) none = tx (cs.drop (n + 1)) := cutS_drop cs (n + 1)
end Fx

/-! Fx: more for reckoning -/
namespace Fx
open PySem PySem.Spec PyProof.Rows L2
/-- a def that made cells of its own and hands back a datum without them -/
theorem runP_more {n : Nat} {g : M Out} {ds : List D} {vh : List Cell} {d : D} (h : ∃ l more, g (initS n ds vh) = .ok (.rt d) ⟨l, vh ++ more⟩) (hn : nc vh.length d = true) : runP n g ds vh = some d := by
  obtain ⟨l, more, h⟩ := h
  unfold runP
  rw [h]
  show fin vh ⟨l, vh ++ more⟩ d = some d
  unfold fin
  rw [if_pos (by show (vh ++ more).take vh.length = vh; exact List.take_left)]
  unfold thaw
  rw [if_pos hn]
end Fx

/-! ### the text, by gen.py -/
namespace Wktwigtable_k11_a_level
open PySem PySem.Spec PyProof.Rows L2 Fx
def topS (i : Nat) : Stmt := PySem.Challenge.pw_twigtable_k11_a_level.main.body.getD i (.Pass ⟨0, 0, 0, 0⟩)
structure Txt (mg : Str → Option Value) : Prop where
  b_bool : mg "bool" = none
  b_int : mg "int" = none
  b_isinstance : mg "isinstance" = none
  b_len : mg "len" = none
  b_ord : mg "ord" = none
  b_range : mg "range" = none
  b_str : mg "str" = none
  c_GREAT : ∃ t, mg "GREAT" = some (.int 2147483647 t)
abbrev s_mixed : Stmt := topS 2
theorem sc_mixed : FnScope ["key", "found", "sign"] ["key"] (defScope s_mixed) := ⟨rfl, rfl, rfl, by decide +kernel, rfl, by decide +kernel, by decide +kernel⟩
noncomputable def b_mixed_1 : M Out :=
    (asgM (bin modM (bin addM (bin mulM (getL 1) (ret (.int 131))) (bnd (consM (getL 2) (ret [])) ordM)) (ret (.int 2147483647))) (setL 1))
noncomputable def g_mixed : M Out :=
    (seqM (ifM (tst (bnd (getL 0) (isaM "str"))) (seqM (asgM (ret (.int 7)) (setL 1))
    (forM (bnd (getL 0) seqI) (setL 2) b_mixed_1)) (asgM (bin modM (bin addM (bin mulM (getL 0) (ret (.int 48271))) (ret (.int 11))) (ret (.int 2147483647))) (setL 1)))
    (retM (bin xorM (getL 1) (bin shrM (getL 1) (ret (.int 15))))))
noncomputable def F_mixed : Pf := runP 3 g_mixed
theorem ok_mixed {P : Program} {wd : World} {K : PySem.W.Frag} {mg : Str → Option Value} {base : Heap} (T : Txt mg) (F : Top K mg "mixed" s_mixed ["key"])  :
    FnP P wd K mg base "mixed" 1 1 F_mixed :=
  F.fn sc_mixed (by decide) fun f cdv A outer s H E hr =>
    ((dss_cons (ds_if (dt_val (de_isa "str" T.b_isinstance T.b_str (de_v 0) (by decide +kernel))) (dss_cons (ds_set 1 de_int sc_mixed.nd)
    (dss_one (ds_for PassesOwn.never rfl (di_seq (de_v 0)) (dg_name sc_mixed.nd) (dss_one (ds_set 1 (de_mod (de_add (de_mul (de_v 1) de_int) (de_callB call_ord rc_ord T.b_ord (da_cons (de_v 2) da_nil) (by decide +kernel))) (de_gI' T.c_GREAT)) sc_mixed.nd))))) (dss_one (ds_set 1 (de_mod (de_add (de_mul (de_v 0) de_int) de_int) (de_gI' T.c_GREAT)) sc_mixed.nd)))
    (dss_one (ds_ret (de_bxor (de_v 1) (de_shr (de_v 1) de_int))))) : DSs _ W0 (defBody s_mixed) g_mixed)
abbrev s_level_of : Stmt := topS 3
theorem sc_level_of : FnScope ["key", "left", "level"] ["key"] (defScope s_level_of) := ⟨rfl, rfl, rfl, by decide +kernel, rfl, by decide +kernel, by decide +kernel⟩
noncomputable def b_level_of_1 : M Out :=
    (seqM (asgM (bin shrM (getL 1) (ret (.int 2))) (setL 1))
    (augI (fun i j => i + j) 2 (ret (.int 1))))
noncomputable def g_level_of : M Out :=
    (seqM (asgM (bnd (consM (getL 0) (ret [])) (callP 1 F_mixed)) (setL 1))
    (seqM (asgM (ret (.int 0)) (setL 2))
    (seqM (whileM (andT (tst (bin ltAM (getL 2) (ret (.int 6)))) (tst (bin eqM (bin andM (getL 1) (ret (.int 3))) (ret (.int 0))))) b_level_of_1 1000000)
    (retM (getL 2)))))
noncomputable def F_level_of : Pf := runP 3 g_level_of
theorem ok_level_of {P : Program} {wd : World} {K : PySem.W.Frag} {mg : Str → Option Value} {base : Heap} (T : Txt mg) (F : Top K mg "level_of" s_level_of ["key"]) (c_mixed : FnP P wd K mg base "mixed" 1 1 F_mixed) :
    FnP P wd K mg base "level_of" 1 2 F_level_of :=
  F.fn sc_level_of (by decide) fun f cdv A outer s H E hr =>
    ((dss_cons (ds_set 1 (de_callP c_mixed (hr.mono (by decide)) (da_cons (de_v 0) da_nil)) sc_level_of.nd)
    (dss_cons (ds_set 2 de_int sc_level_of.nd)
    (dss_cons (ds_while 1000000 PassesOwn.never (dt_w (dw_and (dt_cmp (op_ltA (units_of hr)) rop_ltA (de_v 2) de_int) (dw_and1 (dt_cmp (op_eqA (units_of hr)) rop_eq (de_band (de_v 1) de_int) de_int)))) (dss_cons (ds_set 1 (de_shr (de_v 1) de_int) sc_level_of.nd)
    (dss_one (ds_augI 2 ip_add de_int sc_level_of.nd))))
    (dss_one (ds_ret (de_v 2)))))) : DSs _ W0 (defBody s_level_of) g_level_of)
abbrev s_l_cell : Stmt := topS 5
theorem sc_l_cell : FnScope ["_law_script", "_law_k"] ["_law_script", "_law_k"] (defScope s_l_cell) := ⟨rfl, rfl, rfl, by decide +kernel, rfl, by decide +kernel, by decide +kernel⟩
noncomputable def g_l_cell : M Out :=
    (seqM (ifM (tst (bin ltAM (getL 1) (bnd (consM (getL 0) (ret [])) lenM))) (retM (bin ixM (getL 0) (getL 1))) (ret .nx))
    (retM (ret (.int 0))))
noncomputable def F_l_cell : Pf := runP 2 g_l_cell
theorem ok_l_cell {P : Program} {wd : World} {K : PySem.W.Frag} {mg : Str → Option Value} {base : Heap} (T : Txt mg) (F : Top K mg "_law_cell" s_l_cell ["_law_script", "_law_k"])  :
    FnP P wd K mg base "_law_cell" 2 1 F_l_cell :=
  F.fn sc_l_cell (by decide) fun f cdv A outer s H E hr =>
    ((dss_cons (ds_if (dt_cmp (op_ltA (units_of hr)) rop_ltA (de_v 1) (de_len T.b_len (da_cons (de_v 0) da_nil))) (dss_one (ds_ret (de_ix (de_v 0) (de_v 1)))) dss_nil)
    (dss_one (ds_ret de_int))) : DSs _ W0 (defBody s_l_cell) g_l_cell)
abbrev s_l_whole : Stmt := topS 6
theorem sc_l_whole : FnScope ["_law_found"] ["_law_found"] (defScope s_l_whole) := ⟨rfl, rfl, rfl, by decide +kernel, rfl, by decide +kernel, by decide +kernel⟩
noncomputable def g_l_whole : M Out :=
    (retM (andV (bnd (getL 0) (isaM "int")) (notV (bnd (getL 0) (isaM "bool")))))
noncomputable def F_l_whole : Pf := runP 1 g_l_whole
theorem ok_l_whole {P : Program} {wd : World} {K : PySem.W.Frag} {mg : Str → Option Value} {base : Heap} (T : Txt mg) (F : Top K mg "_law_whole" s_l_whole ["_law_found"])  :
    FnP P wd K mg base "_law_whole" 1 1 F_l_whole :=
  F.fn sc_l_whole (by decide) fun f cdv A outer s H E hr =>
    ((dss_one (ds_ret (de_and (de_isa "int" T.b_isinstance T.b_int (de_v 0) (by decide +kernel)) (de_one (de_not (de_isa "bool" T.b_isinstance T.b_bool (de_v 0) (by decide +kernel))))))) : DSs _ W0 (defBody s_l_whole) g_l_whole)
abbrev s_l_text : Stmt := topS 7
theorem sc_l_text : FnScope ["_law_cell_here", "_law_signs", "_law_mix", "_law_many", "_law_at", "_law_plain", "_law_found", "_law_k"] ["_law_cell_here"] (defScope s_l_text) := ⟨rfl, rfl, rfl, by decide +kernel, rfl, by decide +kernel, by decide +kernel⟩
noncomputable def b_l_text_1 : M Out :=
    (seqM (asgM (bin modM (bin addM (bin mulM (getL 2) (ret (.int 48271))) (ret (.int 12345))) (ret (.int 2147483629))) (setL 2))
    (ifM (andT (tst (getL 5)) (tst (bin neM (getL 7) (getL 4)))) (asgM (bin addM (getL 6) (ret (.str "m"))) (setL 6)) (asgM (bin addM (getL 6) (bin ixM (getL 1) (bin modM (getL 2) (ret (.int 94))))) (setL 6))))
noncomputable def g_l_text : M Out :=
    (seqM (asgM (ret (.str " !\"#$&'()*+,-./0123456789:;<=>?@ABCDEFGHIJKLMNOPQRSTUVWXYZ[\\]^_`")) (setL 1))
    (seqM (asgM (bin addM (getL 1) (ret (.str "abcdefghijklmnopqrstuvwxyz{|}~"))) (setL 1))
    (seqM (asgM (bin modM (bin addM (bin mulM (bin modM (getL 0) (ret (.int 2147483629))) (ret (.int 48271))) (ret (.int 12345))) (ret (.int 2147483629))) (setL 2))
    (seqM (asgM (bin addM (ret (.int 1)) (bin modM (getL 2) (ret (.int 5)))) (setL 3))
    (seqM (ifM (tst (bin eqM (bin modM (bin divM (getL 2) (ret (.int 5))) (ret (.int 4))) (ret (.int 1)))) (asgM (bin addM (ret (.int 1)) (bin modM (bin divM (getL 2) (ret (.int 20))) (ret (.int 40)))) (setL 3)) (ret .nx))
    (seqM (asgM (bin modM (bin divM (getL 2) (ret (.int 800))) (getL 3)) (setL 4))
    (seqM (asgM (bin eqM (bin modM (bin divM (getL 2) (ret (.int 32000))) (ret (.int 2))) (ret (.int 1))) (setL 5))
    (seqM (asgM (ret (.str "")) (setL 6))
    (seqM (forM (bnd (consM (getL 3) (ret [])) ran1I) (setL 7) b_l_text_1)
    (retM (getL 6)))))))))))
noncomputable def F_l_text : Pf := runP 8 g_l_text
theorem ok_l_text {P : Program} {wd : World} {K : PySem.W.Frag} {mg : Str → Option Value} {base : Heap} (T : Txt mg) (F : Top K mg "_law_text" s_l_text ["_law_cell_here"])  :
    FnP P wd K mg base "_law_text" 1 1 F_l_text :=
  F.fn sc_l_text (by decide) fun f cdv A outer s H E hr =>
    ((dss_cons (ds_set 1 de_str sc_l_text.nd)
    (dss_cons (ds_set 1 (de_add (de_v 1) de_str) sc_l_text.nd)
    (dss_cons (ds_set 2 (de_mod (de_add (de_mul (de_mod (de_v 0) de_int) de_int) de_int) de_int) sc_l_text.nd)
    (dss_cons (ds_set 3 (de_add de_int (de_mod (de_v 2) de_int)) sc_l_text.nd)
    (dss_cons (ds_if (dt_cmp (op_eqA (units_of hr)) rop_eq (de_mod (de_div (de_v 2) de_int) de_int) de_int) (dss_one (ds_set 3 (de_add de_int (de_mod (de_div (de_v 2) de_int) de_int)) sc_l_text.nd)) dss_nil)
    (dss_cons (ds_set 4 (de_mod (de_div (de_v 2) de_int) (de_v 3)) sc_l_text.nd)
    (dss_cons (ds_set 5 (de_cmp (op_eqA (units_of hr)) rop_eq (de_mod (de_div (de_v 2) de_int) de_int) de_int) sc_l_text.nd)
    (dss_cons (ds_set 6 de_str sc_l_text.nd)
    (dss_cons (ds_for PassesOwn.never rfl (di_range1 T.b_range (da_cons (de_v 3) da_nil)) (dg_name sc_l_text.nd) (dss_cons (ds_set 2 (de_mod (de_add (de_mul (de_v 2) de_int) de_int) de_int) sc_l_text.nd)
    (dss_one (ds_if (dt_w (dw_and (dt_val (de_v 5)) (dw_and1 (dt_cmp (op_neA (units_of hr)) rop_ne (de_v 7) (de_v 4))))) (dss_one (ds_set 6 (de_add (de_v 6) de_str) sc_l_text.nd)) (dss_one (ds_set 6 (de_add (de_v 6) (de_ix (de_v 1) (de_mod (de_v 2) de_int))) sc_l_text.nd))))))
    (dss_one (ds_ret (de_v 6)))))))))))) : DSs _ W0 (defBody s_l_text) g_l_text)
abbrev s_l_tall : Stmt := topS 8
theorem sc_l_tall : FnScope ["_law_cell_here", "_law_left", "_law_found"] ["_law_cell_here"] (defScope s_l_tall) := ⟨rfl, rfl, rfl, by decide +kernel, rfl, by decide +kernel, by decide +kernel⟩
noncomputable def g_l_tall : M Out :=
    (seqM (asgM (bin shlM (bin modM (bin divM (getL 0) (ret (.int 7))) (ret (.int 100003))) (bin mulM (ret (.int 2)) (bin modM (getL 0) (ret (.int 7))))) (setL 1))
    (seqM (asgM (bin xorM (getL 1) (bin shrM (getL 1) (ret (.int 15)))) (setL 2))
    (retM (bin addM (bin modM (bin mulM (bin subM (getL 2) (ret (.int 11))) (ret (.int 1899818559))) (ret (.int 2147483647))) (bin mulM (ret (.int 2147483647)) (bin modM (bin divM (getL 0) (ret (.int 49))) (bin powM (ret (.int 10)) (ret (.int 19)))))))))
noncomputable def F_l_tall : Pf := runP 3 g_l_tall
theorem ok_l_tall {P : Program} {wd : World} {K : PySem.W.Frag} {mg : Str → Option Value} {base : Heap} (T : Txt mg) (F : Top K mg "_law_tall" s_l_tall ["_law_cell_here"])  :
    FnP P wd K mg base "_law_tall" 1 1 F_l_tall :=
  F.fn sc_l_tall (by decide) fun f cdv A outer s H E hr =>
    ((dss_cons (ds_set 1 (de_shl (de_mod (de_div (de_v 0) de_int) de_int) (de_mul de_int (de_mod (de_v 0) de_int))) sc_l_tall.nd)
    (dss_cons (ds_set 2 (de_bxor (de_v 1) (de_shr (de_v 1) de_int)) sc_l_tall.nd)
    (dss_one (ds_ret (de_add (de_mod (de_mul (de_sub (de_v 2) de_int) de_int) de_int) (de_mul de_int (de_mod (de_div (de_v 0) de_int) (de_pow de_int de_int)))))))) : DSs _ W0 (defBody s_l_tall) g_l_tall)
abbrev s_l_key : Stmt := topS 9
theorem sc_l_key : FnScope ["_law_cell_here", "_law_kind"] ["_law_cell_here", "_law_kind"] (defScope s_l_key) := ⟨rfl, rfl, rfl, by decide +kernel, rfl, by decide +kernel, by decide +kernel⟩
noncomputable def g_l_key : M Out :=
    (seqM (ifM (tst (bin eqM (getL 1) (ret (.int 0)))) (retM (bin subM (bin modM (getL 0) (bin subM (bin mulM (ret (.int 2)) (bin powM (ret (.int 10)) (ret (.int 30)))) (ret (.int 1)))) (bin subM (bin powM (ret (.int 10)) (ret (.int 30))) (ret (.int 1))))) (ret .nx))
    (seqM (ifM (tst (bin eqM (getL 1) (ret (.int 1)))) (retM (bin subM (bin modM (getL 0) (ret (.int 50))) (ret (.int 15)))) (ret .nx))
    (seqM (ifM (tst (bin eqM (getL 1) (ret (.int 2)))) (retM (bnd (consM (getL 0) (ret [])) (callP 1 F_l_text))) (ret .nx))
    (retM (bnd (consM (getL 0) (ret [])) (callP 1 F_l_tall))))))
noncomputable def F_l_key : Pf := runP 2 g_l_key
theorem ok_l_key {P : Program} {wd : World} {K : PySem.W.Frag} {mg : Str → Option Value} {base : Heap} (T : Txt mg) (F : Top K mg "_law_key" s_l_key ["_law_cell_here", "_law_kind"]) (c_l_text : FnP P wd K mg base "_law_text" 1 1 F_l_text) (c_l_tall : FnP P wd K mg base "_law_tall" 1 1 F_l_tall) :
    FnP P wd K mg base "_law_key" 2 2 F_l_key :=
  F.fn sc_l_key (by decide) fun f cdv A outer s H E hr =>
    ((dss_cons (ds_if (dt_cmp (op_eqA (units_of hr)) rop_eq (de_v 1) de_int) (dss_one (ds_ret (de_sub (de_mod (de_v 0) (de_sub (de_mul de_int (de_pow de_int de_int)) de_int)) (de_sub (de_pow de_int de_int) de_int)))) dss_nil)
    (dss_cons (ds_if (dt_cmp (op_eqA (units_of hr)) rop_eq (de_v 1) de_int) (dss_one (ds_ret (de_sub (de_mod (de_v 0) de_int) de_int))) dss_nil)
    (dss_cons (ds_if (dt_cmp (op_eqA (units_of hr)) rop_eq (de_v 1) de_int) (dss_one (ds_ret (de_callP c_l_text (hr.mono (by decide)) (da_cons (de_v 0) da_nil)))) dss_nil)
    (dss_one (ds_ret (de_callP c_l_tall (hr.mono (by decide)) (da_cons (de_v 0) da_nil))))))) : DSs _ W0 (defBody s_l_key) g_l_key)
abbrev s_l_mixed : Stmt := topS 10
theorem sc_l_mixed : FnScope ["_law_key_here", "_law_total", "_law_sign"] ["_law_key_here"] (defScope s_l_mixed) := ⟨rfl, rfl, rfl, by decide +kernel, rfl, by decide +kernel, by decide +kernel⟩
noncomputable def b_l_mixed_1 : M Out :=
    (asgM (bin addM (bin mulM (getL 1) (ret (.int 131))) (bnd (consM (getL 2) (ret [])) ordM)) (setL 1))
noncomputable def g_l_mixed : M Out :=
    (seqM (asgM (ret (.int 7)) (setL 1))
    (seqM (ifM (tst (bnd (getL 0) (isaM "str"))) (forM (bnd (getL 0) seqI) (setL 2) b_l_mixed_1) (asgM (bin addM (bin mulM (getL 0) (ret (.int 48271))) (ret (.int 11))) (setL 1)))
    (seqM (asgM (bin modM (getL 1) (ret (.int 2147483647))) (setL 1))
    (retM (bin xorM (getL 1) (bin divM (getL 1) (ret (.int 32768))))))))
noncomputable def F_l_mixed : Pf := runP 3 g_l_mixed
theorem ok_l_mixed {P : Program} {wd : World} {K : PySem.W.Frag} {mg : Str → Option Value} {base : Heap} (T : Txt mg) (F : Top K mg "_law_mixed" s_l_mixed ["_law_key_here"])  :
    FnP P wd K mg base "_law_mixed" 1 1 F_l_mixed :=
  F.fn sc_l_mixed (by decide) fun f cdv A outer s H E hr =>
    ((dss_cons (ds_set 1 de_int sc_l_mixed.nd)
    (dss_cons (ds_if (dt_val (de_isa "str" T.b_isinstance T.b_str (de_v 0) (by decide +kernel))) (dss_one (ds_for PassesOwn.never rfl (di_seq (de_v 0)) (dg_name sc_l_mixed.nd) (dss_one (ds_set 1 (de_add (de_mul (de_v 1) de_int) (de_callB call_ord rc_ord T.b_ord (da_cons (de_v 2) da_nil) (by decide +kernel))) sc_l_mixed.nd)))) (dss_one (ds_set 1 (de_add (de_mul (de_v 0) de_int) de_int) sc_l_mixed.nd)))
    (dss_cons (ds_set 1 (de_mod (de_v 1) de_int) sc_l_mixed.nd)
    (dss_one (ds_ret (de_bxor (de_v 1) (de_div (de_v 1) de_int))))))) : DSs _ W0 (defBody s_l_mixed) g_l_mixed)
abbrev s_l_good : Stmt := topS 11
theorem sc_l_good : FnScope ["_law_key_here", "_law_least", "_law_due", "_law_found", "_law_level", "_law_k"] ["_law_key_here", "_law_least"] (defScope s_l_good) := ⟨rfl, rfl, rfl, by decide +kernel, rfl, by decide +kernel, by decide +kernel⟩
noncomputable def b_l_good_1 : M Out :=
    (seqM (ifM (tst (bin neM (bin modM (getL 2) (ret (.int 4))) (ret (.int 0)))) (retM (ret (.bl false))) (ret .nx))
    (asgM (bin divM (getL 2) (ret (.int 4))) (setL 2)))
noncomputable def g_l_good : M Out :=
    (seqM (asgM (bnd (consM (getL 0) (ret [])) (callP 1 F_l_mixed)) (setL 2))
    (seqM (asgM (bnd (consM (getL 0) (ret [])) (callP 1 F_mixed)) (setL 3))
    (seqM (asgM (bnd (consM (getL 0) (ret [])) (callP 1 F_level_of)) (setL 4))
    (seqM (ifM (orT (notT (tst (bnd (consM (getL 3) (ret [])) (callP 1 F_l_whole)))) (orT (tst (bin neM (getL 3) (getL 2))) (orT (notT (tst (bnd (consM (getL 4) (ret [])) (callP 1 F_l_whole)))) (orT (tst (bin ltAM (getL 4) (getL 1))) (tst (bin gtM (getL 4) (ret (.int 6)))))))) (retM (ret (.bl false))) (ret .nx))
    (seqM (forM (bnd (consM (getL 4) (ret [])) ran1I) (setL 5) b_l_good_1)
    (retM (orV (bin eqM (getL 4) (ret (.int 6))) (bin neM (bin modM (getL 2) (ret (.int 4))) (ret (.int 0))))))))))
noncomputable def F_l_good : Pf := runP 6 g_l_good
theorem ok_l_good {P : Program} {wd : World} {K : PySem.W.Frag} {mg : Str → Option Value} {base : Heap} (T : Txt mg) (F : Top K mg "_law_good" s_l_good ["_law_key_here", "_law_least"]) (c_l_mixed : FnP P wd K mg base "_law_mixed" 1 1 F_l_mixed) (c_mixed : FnP P wd K mg base "mixed" 1 1 F_mixed) (c_level_of : FnP P wd K mg base "level_of" 1 2 F_level_of) (c_l_whole : FnP P wd K mg base "_law_whole" 1 1 F_l_whole) :
    FnP P wd K mg base "_law_good" 2 3 F_l_good :=
  F.fn sc_l_good (by decide) fun f cdv A outer s H E hr =>
    ((dss_cons (ds_set 2 (de_callP c_l_mixed (hr.mono (by decide)) (da_cons (de_v 0) da_nil)) sc_l_good.nd)
    (dss_cons (ds_set 3 (de_callP c_mixed (hr.mono (by decide)) (da_cons (de_v 0) da_nil)) sc_l_good.nd)
    (dss_cons (ds_set 4 (de_callP c_level_of (hr.mono (by decide)) (da_cons (de_v 0) da_nil)) sc_l_good.nd)
    (dss_cons (ds_if (dt_w (dw_or (dt_not (dt_val (de_callP c_l_whole (hr.mono (by decide)) (da_cons (de_v 3) da_nil)))) (dw_or (dt_cmp (op_neA (units_of hr)) rop_ne (de_v 3) (de_v 2)) (dw_or (dt_not (dt_val (de_callP c_l_whole (hr.mono (by decide)) (da_cons (de_v 4) da_nil)))) (dw_or (dt_cmp (op_ltA (units_of hr)) rop_ltA (de_v 4) (de_v 1)) (dw_or1 (dt_cmp op_gt rop_gt (de_v 4) de_int))))))) (dss_one (ds_ret de_bl)) dss_nil)
    (dss_cons (ds_for PassesOwn.never rfl (di_range1 T.b_range (da_cons (de_v 4) da_nil)) (dg_name sc_l_good.nd) (dss_cons (ds_if (dt_cmp (op_neA (units_of hr)) rop_ne (de_mod (de_v 2) de_int) de_int) (dss_one (ds_ret de_bl)) dss_nil)
    (dss_one (ds_set 2 (de_div (de_v 2) de_int) sc_l_good.nd))))
    (dss_one (ds_ret (de_or (de_cmp (op_eqA (units_of hr)) rop_eq (de_v 4) de_int) (de_one (de_cmp (op_neA (units_of hr)) rop_ne (de_mod (de_v 2) de_int) de_int)))))))))) : DSs _ W0 (defBody s_l_good) g_l_good)
abbrev s_law : Stmt := topS 12
theorem sc_law : FnScope ["_law_script", "_law_keys", "_law_k", "_law_cell_here", "_law_kind", "_law_least", "_law_kept", "_law_key_here"] ["_law_script"] (defScope s_law) := ⟨rfl, rfl, rfl, by decide +kernel, rfl, by decide +kernel, by decide +kernel⟩
noncomputable def b_law_1 : M Out :=
    (seqM (asgM (bnd (consM (getL 0) (consM (bin mulM (ret (.int 2)) (getL 2)) (ret []))) (callP 2 F_l_cell)) (setL 3))
    (seqM (asgM (bin modM (bnd (consM (getL 0) (consM (bin addM (bin mulM (ret (.int 2)) (getL 2)) (ret (.int 1))) (ret []))) (callP 2 F_l_cell)) (ret (.int 4))) (setL 4))
    (seqM (dropM (methM "list" (getL 1) (consM (bnd (consM (getL 3) (consM (getL 4) (ret []))) (callP 2 F_l_key)) (ret [])) appM))
    (seqM (asgM (ret (.int 0)) (setL 5))
    (seqM (ifM (tst (bin eqM (getL 4) (ret (.int 3)))) (asgM (bin modM (getL 3) (ret (.int 7))) (setL 5)) (ret .nx))
    (ifM (notT (tst (bnd (consM (bin ixM (getL 1) (getL 2)) (consM (getL 5) (ret []))) (callP 2 F_l_good)))) (retM (ret (.bl false))) (ret .nx)))))))
noncomputable def g_law : M Out :=
    (seqM (asgM (ownM (lstN (ret []))) (setL 1))
    (seqM (forM (bnd (consM (ret (.int 3)) (ret [])) ran1I) (setL 2) b_law_1)
    (seqM (asgM (frzM (lcM (bnd (getL 1) seqI) 7 yesM (bnd (consM (getL 7) (ret [])) (callP 1 F_level_of)))) (setL 6))
    (retM (andV (bin eqM (frzM (lcM (bnd (getL 1) seqI) 7 yesM (bnd (consM (getL 7) (ret [])) (callP 1 F_level_of)))) (getL 6)) (bin eqM (bnd (consM (bin ixM (getL 1) (ret (.int 0))) (ret [])) (callP 1 F_level_of)) (bin ixM (getL 6) (ret (.int 0)))))))))
noncomputable def F_law : Pf := runP 8 g_law
theorem ok_law {P : Program} {wd : World} {K : PySem.W.Frag} {mg : Str → Option Value} (T : Txt mg) (F : Top K mg "law" s_law ["_law_script"])
    (C : ∀ base : Heap, K.In base → base.Ns mainGlobals mg → FnP P wd K mg base "_law_cell" 2 1 F_l_cell ∧ FnP P wd K mg base "_law_key" 2 2 F_l_key ∧ FnP P wd K mg base "_law_good" 2 3 F_l_good ∧ FnP P wd K mg base "level_of" 1 2 F_level_of ∧ True) :
    ∃ (fa : Addr) (fd : FuncData), mg "law" = some (.ref fa) ∧ (∀ (s : Shared) (u : Value), BindsTo s fd ⟨[u], []⟩ [("_law_script", u)]) ∧ ∀ base : Heap, K.In base → base.Ns mainGlobals mg → FnOk P wd K mg base CX0 4 fa fd ["_law_script"] (SpP K 1 F_law) :=
  F.law sc_law (by decide) fun base X0 G0 f cdv A outer s H E hr => let ⟨c_l_cell, c_l_key, c_l_good, c_level_of, _⟩ := C base X0 G0
    ((dss_cons (ds_set 1 (de_own (dn_lst da_nil)) sc_law.nd)
    (dss_cons (ds_for PassesOwn.never rfl (di_range1 T.b_range (da_cons de_int da_nil)) (dg_name sc_law.nd) (dss_cons (ds_set 3 (de_callP c_l_cell (hr.mono (by decide)) (da_cons (de_v 0) (da_cons (de_mul de_int (de_v 2)) da_nil))) sc_law.nd)
    (dss_cons (ds_set 4 (de_mod (de_callP c_l_cell (hr.mono (by decide)) (da_cons (de_v 0) (da_cons (de_add (de_mul de_int (de_v 2)) de_int) da_nil))) de_int) sc_law.nd)
    (dss_cons (ds_expr (de_append (de_v 1) (da_cons (de_callP c_l_key (hr.mono (by decide)) (da_cons (de_v 3) (da_cons (de_v 4) da_nil))) da_nil)))
    (dss_cons (ds_set 5 de_int sc_law.nd)
    (dss_cons (ds_if (dt_cmp (op_eqA (units_of hr)) rop_eq (de_v 4) de_int) (dss_one (ds_set 5 (de_mod (de_v 3) de_int) sc_law.nd)) dss_nil)
    (dss_one (ds_if (dt_not (dt_val (de_callP c_l_good (hr.mono (by decide)) (da_cons (de_ix (de_v 1) (de_v 2)) (da_cons (de_v 5) da_nil))))) (dss_one (ds_ret de_bl)) dss_nil))))))))
    (dss_cons (ds_lc false rfl sc_law.nd (di_seq (de_v 1)) (blkOk_by (own := [("_law_key_here", 7)]) (N := ["_law_script", "_law_keys", "_law_k", "_law_cell_here", "_law_kind", "_law_least", "_law_kept", "_law_key_here"]) (sc := defScope s_law) (by decide +kernel)) (fun _ _ _ _ _ => pg_n (i := 7) sc_law.nd) (fun _ _ _ _ _ => tests_nil) (fun _ _ _ _ _ => (de_callP c_level_of (hr.mono (by decide)) (da_cons (de_v 7) da_nil))) (sw_true rfl rfl rfl (by decide +kernel)))
    (dss_one (ds_ret (de_and (de_cmp (op_eqA (units_of hr)) rop_eq (de_frz (dn_lc rfl sc_law.nd (di_seq (de_v 1)) (blkOk_by (own := [("_law_key_here", 7)]) (N := ["_law_script", "_law_keys", "_law_k", "_law_cell_here", "_law_kind", "_law_least", "_law_kept", "_law_key_here"]) (sc := defScope s_law) (by decide +kernel)) (fun _ _ _ _ _ => pg_n (i := 7) sc_law.nd) (fun _ _ _ _ _ => tests_nil) (fun _ _ _ _ _ => (de_callP c_level_of (hr.mono (by decide)) (da_cons (de_v 7) da_nil))))) (de_v 6)) (de_one (de_cmp (op_eqA (units_of hr)) rop_eq (de_callP c_level_of (hr.mono (by decide)) (da_cons (de_ix (de_v 1) de_int) da_nil)) (de_ix (de_v 6) de_int))))))))) : DSs _ W0 (defBody s_law) g_law)
end Wktwigtable_k11_a_level

namespace My
open PySem PySem.Spec PyProof.Rows L2 Fx Wktwigtable_k11_a_level
local macro_rules | `(tactic| walk_at "fx") => `(tactic| simp (disch := first | rfl | decide | omega | assumption | (simp only [List.length_append, List.length_cons, List.length_nil, List.length_take, List.length_drop, List.length_map]; omega)) only [x_bnd, x_ok, x_ret, x_fail, x_ite, x_iteM, x_bad, x_get, x_look, x_set, x_seq, x_nx, x_rt, x_brk, x_cnt, x_bad2, x_ite2, x_asg, x_retM, x_drop, x_if, x_itM, x_asB, x_bin, x_tst, x_and, x_or, x_not, x_andT, x_orT, x_notT, x_cons, x_call, x_callR, x_isa, x_sub, x_add, x_mul, x_mod, x_div, x_pow, x_lt, x_le, x_gt, x_ge, x_eqI, x_neI, x_true, x_false, x_aug, x_augF, x_forM, x_frz, x_lst, x_tup, x_lenL, x_ixL, x_ixT, x_opt, x_slL, x_slM, x_slVL, x_slVTx, x_part, x_lenTx, x_addTx, cutS_take, cutS_drop, cutS_drop1, x_seqL, x_seqT,
  initS, List.map_cons, List.map_nil, List.length_cons, List.length_nil, List.cons_append, List.nil_append, List.append_nil, tyName, x_join, x_slS, x_eqS, x_neS, x_eqB, x_neB, tx_app, tx_len, x_is1, x_is2, x_is3, x_is4, x_is5, x_isn1, x_isn2, x_isn3, x_isn4, x_isn5, x_meth, isTy_last, x_own, lit, cd_nil, isa_int_NoneType, isa_int_bool, isa_int_int, isa_int_str, isa_int_tuple, isa_int_list, isa_int_dict, isa_bool_NoneType, isa_bool_bool, isa_bool_int, isa_bool_str, isa_bool_tuple, isa_bool_list, isa_bool_dict, isa_str_NoneType, isa_str_bool, isa_str_int, isa_str_str, isa_str_tuple, isa_str_list, isa_str_dict, isa_tuple_NoneType, isa_tuple_bool, isa_tuple_int, isa_tuple_str, isa_tuple_tuple, isa_tuple_list, isa_tuple_dict, isa_list_NoneType, isa_list_bool, isa_list_int, isa_list_str, isa_list_tuple, isa_list_list, isa_list_dict, isa_dict_NoneType, isa_dict_bool, isa_dict_int, isa_dict_str, isa_dict_tuple, isa_dict_list, isa_dict_dict, decide_eq_true_eq, decide_true, decide_false, Nat.reduceAdd, Nat.reduceSub, Nat.zero_add, List.replicate, List.replicate_succ, List.replicate_zero, List.getElem?_cons_zero, List.getElem?_cons_succ, List.set_cons_zero, List.set_cons_succ, Bool.not_true, Bool.not_false, if_true, if_false, Bool.false_eq_true, ite_true, ite_false, beq_self_eq_true, Bool.or_true, Bool.true_or, Bool.or_false, Bool.false_or, Bool.and_true, Bool.and_false, Bool.true_and, Bool.false_and, Int.reduceToNat])
local macro_rules | `(tactic| walk_at "fxh") => `(tactic| simp (disch := first | rfl | decide | omega | assumption | (simp only [List.length_append, List.length_cons, List.length_nil, List.length_take, List.length_drop, List.length_map]; omega)) only [*, x_bnd, x_ok, x_ret, x_fail, x_ite, x_iteM, x_bad, x_get, x_look, x_set, x_seq, x_nx, x_rt, x_brk, x_cnt, x_bad2, x_ite2, x_asg, x_retM, x_drop, x_if, x_itM, x_asB, x_bin, x_tst, x_and, x_or, x_not, x_andT, x_orT, x_notT, x_cons, x_call, x_callR, x_isa, x_sub, x_add, x_mul, x_mod, x_div, x_pow, x_lt, x_le, x_gt, x_ge, x_eqI, x_neI, x_true, x_false, x_aug, x_augF, x_forM, x_frz, x_lst, x_tup, x_lenL, x_ixL, x_ixT, x_opt, x_slL, x_slM, x_slVL, x_slVTx, x_part, x_lenTx, x_addTx, cutS_take, cutS_drop, cutS_drop1, x_seqL, x_seqT,
  initS, List.map_cons, List.map_nil, List.length_cons, List.length_nil, List.cons_append, List.nil_append, List.append_nil, tyName, x_join, x_slS, x_eqS, x_neS, x_eqB, x_neB, tx_app, tx_len, x_is1, x_is2, x_is3, x_is4, x_is5, x_isn1, x_isn2, x_isn3, x_isn4, x_isn5, x_meth, isTy_last, x_own, lit, cd_nil, isa_int_NoneType, isa_int_bool, isa_int_int, isa_int_str, isa_int_tuple, isa_int_list, isa_int_dict, isa_bool_NoneType, isa_bool_bool, isa_bool_int, isa_bool_str, isa_bool_tuple, isa_bool_list, isa_bool_dict, isa_str_NoneType, isa_str_bool, isa_str_int, isa_str_str, isa_str_tuple, isa_str_list, isa_str_dict, isa_tuple_NoneType, isa_tuple_bool, isa_tuple_int, isa_tuple_str, isa_tuple_tuple, isa_tuple_list, isa_tuple_dict, isa_list_NoneType, isa_list_bool, isa_list_int, isa_list_str, isa_list_tuple, isa_list_list, isa_list_dict, isa_dict_NoneType, isa_dict_bool, isa_dict_int, isa_dict_str, isa_dict_tuple, isa_dict_list, isa_dict_dict, decide_eq_true_eq, decide_true, decide_false, Nat.reduceAdd, Nat.reduceSub, Nat.zero_add, List.replicate, List.replicate_succ, List.replicate_zero, List.getElem?_cons_zero, List.getElem?_cons_succ, List.set_cons_zero, List.set_cons_succ, Bool.not_true, Bool.not_false, if_true, if_false, Bool.false_eq_true, ite_true, ite_false, beq_self_eq_true, Bool.or_true, Bool.true_or, Bool.or_false, Bool.false_or, Bool.and_true, Bool.and_false, Bool.true_and, Bool.false_and, Int.reduceToNat])
/-! plain -/
theorem lgI (x : Int) (h : -(2 ^ 400) < x) (h2 : x < 2 ^ 400) : x.natAbs.log2 < 400 := log2_of (by decide) (by omega)
def toT (t : Int) : List Nat → Int
  | [] => t
  | c :: cs => toT (t * 131 + (c : Int)) cs
def rsT (t : Int) : List Nat → Int
  | [] => t
  | c :: cs => rsT ((t * 131 + (c : Int)) % 2147483647) cs
theorem rs_to : ∀ (cs : List Nat) (m t : Int), m = t % 2147483647 → rsT m cs = toT t cs % 2147483647
  | [], m, t, h => h
  | c :: cs, m, t, h => by
    unfold rsT toT
    exact rs_to cs _ _ (by omega)
theorem toT_snoc : ∀ (cs : List Nat) (t : Int) (c : Nat), toT t (cs ++ [c]) = toT t cs * 131 + (c : Int)
  | [], _, _ => rfl
  | _ :: cs, _, c => toT_snoc cs _ c
theorem rsT_snoc : ∀ (cs : List Nat) (t : Int) (c : Nat), rsT t (cs ++ [c]) = (rsT t cs * 131 + (c : Int)) % 2147483647
  | [], _, _ => rfl
  | _ :: cs, _, c => rsT_snoc cs _ c
theorem rsT_in (cs : List Nat) (t : Int) (h : 0 ≤ t) (h2 : t < 2147483647) : 0 ≤ rsT t cs ∧ rsT t cs < 2147483647 := by
  rw [rs_to cs t t (by omega)]
  omega
theorem toT_in : ∀ (cs : List Nat) (t : Int) (k : Nat), 0 ≤ t → t < 2 ^ k → (∀ c ∈ cs, c < 128) → 0 ≤ toT t cs ∧ toT t cs < 2 ^ (k + 8 * cs.length)
  | [], t, k, h, h2, _ => ⟨h, h2⟩
  | c :: cs, t, k, h, h2, hc => by
    have h3 := hc c List.mem_cons_self
    have e : (2 : Int) ^ (k + 8) = 256 * 2 ^ k := by rw [Int.pow_add]; omega
    have := toT_in cs (t * 131 + (c : Int)) (k + 8) (by omega) (by rw [e]; omega) (fun c h => hc c (List.mem_cons_of_mem _ h))
    unfold toT
    rw [List.length_cons, show k + 8 * (cs.length + 1) = k + 8 + 8 * cs.length by omega]
    exact this
theorem toT_lg (cs : List Nat) (hl : cs.length ≤ 40) (h : ∀ c ∈ cs, c < 128) : 0 ≤ toT 7 cs ∧ (toT 7 cs).natAbs.log2 < 400 := by
  obtain ⟨h1, h2⟩ := toT_in cs 7 3 (by decide) (by decide) h
  have h3 : (2 : Int) ^ (3 + 8 * cs.length) ≤ 2 ^ 400 := by
    have : (2 : Nat) ^ (3 + 8 * cs.length) ≤ 2 ^ 400 := Nat.pow_le_pow_right (by decide) (by omega)
    exact_mod_cast this
  have h4 : -(2 ^ 400 : Int) < 0 := by decide
  exact ⟨h1, lgI _ (Int.lt_of_lt_of_le h4 h1) (Int.lt_of_lt_of_le h2 h3)⟩
def mx (r : Int) : Int := Builtin.bitXor r (r / 32768)
theorem mx_nonneg {r : Int} (h : 0 ≤ r) : 0 ≤ mx r := Bits.bitXor_nonneg h (by omega)
def lev : Nat → Int → Nat
  | 0, _ => 0
  | n + 1, x => if x % 4 = 0 then 1 + lev n (x / 4) else 0
theorem lev_le : ∀ (n : Nat) (x : Int), lev n x ≤ n
  | 0, _ => Nat.le_refl _
  | n + 1, x => by
    unfold lev
    have := lev_le n (x / 4)
    split <;> omega
theorem lev_ge : ∀ (j n : Nat) (a : Int), j ≤ n → j ≤ lev n (a * 4 ^ j)
  | 0, _, _, _ => Nat.zero_le _
  | j + 1, 0, _, h => by omega
  | j + 1, n + 1, a, h => by
    have e : a * 4 ^ (j + 1) = a * 4 ^ j * 4 := by rw [Int.pow_succ]; ac_rfl
    have := lev_ge j n a (by omega)
    unfold lev
    rw [e, if_pos (by omega), show a * 4 ^ j * 4 / 4 = a * 4 ^ j by omega]
    omega
theorem fold_nat (l : Nat) (h : l < 2 ^ 30) : (l ^^^ l / 32768) ^^^ (l ^^^ l / 32768) / 32768 = l := by
  have e : ∀ x : Nat, x / 32768 = x >>> 15 := fun x => by rw [Nat.shiftRight_eq_div_pow]
  rw [e, e, Nat.shiftRight_xor_distrib, ← Nat.shiftRight_add]
  have e2 : l >>> (15 + 15) = 0 := by rw [Nat.shiftRight_eq_div_pow]; omega
  rw [e2, Nat.xor_zero, Nat.xor_assoc, Nat.xor_self, Nat.xor_zero]
theorem mx_nat (l : Nat) : mx (l : Int) = ((l ^^^ l / 32768 : Nat) : Int) := by
  unfold mx
  rw [Bits.bitXor_pp (by omega) (by omega)]
  rfl
theorem mx_mx {l : Int} (h : 0 ≤ l) (h2 : l < 2 ^ 29) : mx (mx l) = l ∧ 0 ≤ mx l ∧ mx l < 2 ^ 29 := by
  obtain ⟨n, rfl⟩ := Int.eq_ofNat_of_zero_le h
  have hn : n < 2 ^ 29 := by omega
  rw [mx_nat, mx_nat, fold_nat n (by omega)]
  have := Nat.xor_lt_two_pow hn (show n / 32768 < 2 ^ 29 by omega)
  refine ⟨rfl, by omega, by omega⟩
theorem inv_ok (f q : Int) (h : 0 ≤ f) (h2 : f < 2147483647) : (((f - 11) * 1899818559 % 2147483647 + 2147483647 * q) * 48271 + 11) % 2147483647 = f := by omega
inductive Ky where
  | int (n : Int)
  | str (cs : List Nat)
@[reducible] def Ky.d : Ky → D
  | .int n => .int n
  | .str cs => .str (tx cs)
def Ky.ok : Ky → Prop
  | .int n => n.natAbs.log2 < 400
  | .str cs => cs.length ≤ 40 ∧ ∀ c ∈ cs, c < 128
def Ky.rs : Ky → Int
  | .int n => (n * 48271 + 11) % 2147483647
  | .str cs => toT 7 cs % 2147483647
theorem Ky.rs_in (k : Ky) : 0 ≤ k.rs ∧ k.rs < 2147483647 := by cases k <;> exact ⟨Int.emod_nonneg _ (by decide), Int.emod_lt_of_pos _ (by decide)⟩
def Ky.lv (k : Ky) : Nat := lev 6 (mx k.rs)
theorem signs_tx (cs : List Nat) : Fx.signs (tx cs) = cs.map fun c => D.str (tx [c]) := by unfold Fx.signs; rw [tx_tl]; rfl
theorem x_ord {c : Nat} {s : S} : ordM [.str (tx [c])] s = .ok (.int c) s := nr rfl
theorem x_seqTx {cs : List Nat} {s : S} : seqI (.str (tx cs)) s = .ok ⟨cs.map fun c => D.str (tx [c]), fun s' => itemsOf s' (.str (tx cs)) = some (cs.map fun c => D.str (tx [c]))⟩ s := by rw [x_seqS, signs_tx]
/-! the program's own two -/
theorem x15 {r : Int} : r / 2 ^ (15 : Nat) = r / 32768 := rfl
theorem t_mixed (k : Ky) (hk : k.ok) (vh : List Cell) : F_mixed [k.d] vh = some (.int (mx k.rs)) := by
  refine runP_of ?_ rfl
  unfold g_mixed
  cases k with
  | int n =>
    have hn : n.natAbs.log2 < 400 := hk
    have a1 : n.natAbs.log2 + (48271 : Int).natAbs.log2 < 100000000 := by have := lgI 48271 (by decide) (by decide); omega
    simp only [Ky.d]
    walk_at "fx"
    simp only [x_xor, x_shr (show (0 : Int) ≤ 15 by decide), x15]
    walk_at "fx"
    exact ⟨_, rfl⟩
  | str cs =>
    simp only [Ky.d]
    walk_at "fx"
    rw [x_seqTx]
    walk_at "fx"
    obtain ⟨s2, h, r, e⟩ := loopM_run (ok := fun s' => itemsOf s' (.str (tx cs)) = some (cs.map fun c => D.str (tx [c]))) (t := setL 2) (b := b_mixed_1)
      (fun i s => ∃ r, s = ⟨[some (.str (tx cs)), some (.int (rsT 7 (cs.take i))), r], vh⟩) (cs.map fun c => D.str (tx [c])) ⟨[some (.str (tx cs)), some (.int 7), none], vh⟩ (fun _ s _ => congrArg some (signs_tx cs))
      (fun i d s hi ⟨r, hs⟩ => by
        subst hs
        rw [List.getElem?_map] at hi
        cases h : cs[i]? with
        | none => rw [h] at hi; cases hi
        | some c =>
          rw [h] at hi
          cases hi
          have hr := rsT_in (cs.take i) 7 (by decide) (by decide)
          have a1 : (rsT 7 (cs.take i)).natAbs.log2 + (131 : Int).natAbs.log2 < 100000000 := by
            have := lgI (rsT 7 (cs.take i)) (by omega) (by omega); have := lgI 131 (by decide) (by decide); omega
          obtain ⟨hl, e⟩ := List.getElem?_eq_some_iff.mp h
          refine ⟨_, rfl, ⟨[some (.str (tx cs)), some (.int (rsT 7 (cs.take (i + 1)))), some (.str (tx [c]))], vh⟩, .inl ?_, some (.str (tx [c])), ?_⟩
          · unfold b_mixed_1
            walk_at "fx"
            rw [x_ord]
            walk_at "fx"
            rw [List.take_succ_eq_append_getElem hl, rsT_snoc, e]
          · rfl) ⟨none, rfl⟩
    subst e
    rw [h]
    walk_at "fx"
    simp only [x_xor, x_shr (show (0 : Int) ≤ 15 by decide), x15]
    walk_at "fx"
    rw [List.length_map, List.take_length, rs_to cs 7 7 rfl]
    exact ⟨_, rfl⟩
abbrev cnd : M Bool := andT (tst (bin ltAM (getL 2) (ret (.int 6)))) (tst (bin eqM (bin andM (getL 1) (ret (.int 3))) (ret (.int 0))))
theorem cnd_1 (d : D) (x j : Int) (vh : List Cell) (hx : 0 ≤ x) (hj : j < 6) : cnd ⟨[some d, some (.int x), some (.int j)], vh⟩ = .ok (decide (x % 4 = 0)) ⟨[some d, some (.int x), some (.int j)], vh⟩ := by
  have e3 := Bits.bitAnd_mask 2 hx
  rw [show (2 : Int) ^ 2 - 1 = 3 from rfl, show (2 : Int) ^ 2 = 4 from rfl] at e3
  unfold cnd
  walk_at "fx"
  rw [if_pos hj, x_band, e3]
  walk_at "fx"
theorem cnd_2 (d : D) (x j : Int) (vh : List Cell) (hj : ¬ j < 6) : cnd ⟨[some d, some (.int x), some (.int j)], vh⟩ = .ok false ⟨[some d, some (.int x), some (.int j)], vh⟩ := by
  unfold cnd
  walk_at "fx"
  rw [if_neg hj]
theorem step (d : D) (x j : Int) (vh : List Cell) : b_level_of_1 ⟨[some d, some (.int x), some (.int j)], vh⟩ = .ok .nx ⟨[some d, some (.int (x / 4)), some (.int (j + 1))], vh⟩ := by
  unfold b_level_of_1
  walk_at "fx"
  rw [x_shr (by decide)]
  walk_at "fx"
  rfl
theorem loop (d : D) (vh : List Cell) : ∀ (n : Nat) (x : Int) (j : Int) (f : Nat), 0 ≤ x → j + n = 6 → n < f → ∃ x' : Int, whileM cnd b_level_of_1 f ⟨[some d, some (.int x), some (.int j)], vh⟩ = .ok .nx ⟨[some d, some (.int x'), some (.int (j + (lev n x : Nat)))], vh⟩
  | n, x, j, 0, _, _, h => by omega
  | 0, x, j, f + 1, hx, hj, _ => by
    unfold whileM
    rw [cnd_2 d x j vh (by omega)]
    exact ⟨x, by simp [lev]⟩
  | n + 1, x, j, f + 1, hx, hj, hf => by
    unfold whileM
    rw [cnd_1 d x j vh hx (by omega)]
    by_cases c : x % 4 = 0
    · rw [decide_eq_true c]
      dsimp only
      rw [step]
      dsimp only
      obtain ⟨x', h⟩ := loop d vh n (x / 4) (j + 1) f (by omega) (by omega) (by omega)
      refine ⟨x', ?_⟩
      rw [h, lev, if_pos c, show j + 1 + (lev n (x / 4) : Nat) = j + ((1 + lev n (x / 4) : Nat) : Int) by omega]
    · rw [decide_eq_false c]
      refine ⟨x, ?_⟩
      rw [lev, if_neg c, show j + ((0 : Nat) : Int) = j by omega]
theorem t_level (k : Ky) (hk : k.ok) (vh : List Cell) : F_level_of [k.d] vh = some (.int k.lv) := by
  have hm := t_mixed k hk vh
  have hx := mx_nonneg k.rs_in.1
  refine runP_of ?_ rfl
  unfold g_level_of
  walk_at "fx"
  rw [hm]
  walk_at "fx"
  unfold Ky.lv
  obtain ⟨x', h⟩ := loop k.d vh 6 (mx k.rs) 0 1000000 hx rfl (by decide)
  unfold cnd at h
  rw [h]
  walk_at "fx"
  rw [Int.zero_add]
  exact ⟨_, rfl⟩
/-! the law's own -/
theorem t_whole (n : Int) (vh : List Cell) : F_l_whole [.int n] vh = some (.bl true) := by
  refine runP_of ?_ rfl
  unfold g_l_whole
  walk_at "fx"
  exact ⟨_, rfl⟩
theorem t_lmixed (k : Ky) (hk : k.ok) (vh : List Cell) : F_l_mixed [k.d] vh = some (.int (mx k.rs)) := by
  refine runP_of ?_ rfl
  unfold g_l_mixed
  cases k with
  | int n =>
    have hn : n.natAbs.log2 < 400 := hk
    have a1 : n.natAbs.log2 + (48271 : Int).natAbs.log2 < 100000000 := by have := lgI 48271 (by decide) (by decide); omega
    simp only [Ky.d]
    walk_at "fx"
    simp only [x_xor]
    walk_at "fx"
    exact ⟨_, rfl⟩
  | str cs =>
    simp only [Ky.d]
    walk_at "fx"
    rw [x_seqTx]
    walk_at "fx"
    obtain ⟨s2, h, r, e⟩ := loopM_run (ok := fun s' => itemsOf s' (.str (tx cs)) = some (cs.map fun c => D.str (tx [c]))) (t := setL 2) (b := b_l_mixed_1)
      (fun i s => ∃ r, s = ⟨[some (.str (tx cs)), some (.int (toT 7 (cs.take i))), r], vh⟩) (cs.map fun c => D.str (tx [c])) ⟨[some (.str (tx cs)), some (.int 7), none], vh⟩ (fun _ s _ => congrArg some (signs_tx cs))
      (fun i d s hi ⟨r, hs⟩ => by
        subst hs
        rw [List.getElem?_map] at hi
        cases h : cs[i]? with
        | none => rw [h] at hi; cases hi
        | some c =>
          rw [h] at hi
          cases hi
          have hr := (toT_lg (cs.take i) (by rw [List.length_take]; have := hk.1; omega) (fun c h => hk.2 c (List.mem_of_mem_take h))).2
          have a1 : (toT 7 (cs.take i)).natAbs.log2 + (131 : Int).natAbs.log2 < 100000000 := by
            have := lgI 131 (by decide) (by decide); omega
          obtain ⟨hl, e⟩ := List.getElem?_eq_some_iff.mp h
          refine ⟨_, rfl, ⟨[some (.str (tx cs)), some (.int (toT 7 (cs.take (i + 1)))), some (.str (tx [c]))], vh⟩, .inl ?_, some (.str (tx [c])), ?_⟩
          · unfold b_l_mixed_1
            walk_at "fx"
            rw [x_ord]
            walk_at "fx"
            rw [List.take_succ_eq_append_getElem hl, toT_snoc, e]
          · rfl) ⟨none, rfl⟩
    subst e
    rw [h]
    walk_at "fx"
    simp only [x_xor]
    walk_at "fx"
    rw [List.length_map, List.take_length]
    exact ⟨_, rfl⟩
theorem t_good (k : Ky) (hk : k.ok) (least : Int) (hl : least ≤ k.lv) (vh : List Cell) : F_l_good [k.d, .int least] vh = some (.bl true) := by
  have h1 := t_mixed k hk vh
  have h2 := t_lmixed k hk vh
  have h3 := t_level k hk vh
  have h4 := t_whole (mx k.rs) vh
  have h5 := t_whole k.lv vh
  have hx := mx_nonneg k.rs_in.1
  have hb := lev_le 6 (mx k.rs)
  have c1 : ¬ (k.lv : Int) < least := by omega
  have c2 : ¬ (6 : Int) < k.lv := by have : k.lv ≤ 6 := hb; omega
  refine runP_of ?_ rfl
  unfold g_l_good
  walk_at "fxh"
  rw [x_ran1 (okB_of (by omega) (by omega))]
  walk_at "fx"
  rw [Int.toNat_natCast]
  obtain ⟨s2, h, r, x', hx', hd, e⟩ := loopM_run (ok := fun _ => True) (t := setL 5) (b := b_l_good_1)
    (fun i s => ∃ r x', 0 ≤ x' ∧ lev (6 - i) x' + i = k.lv ∧ s = ⟨[some k.d, some (.int least), some (.int x'), some (.int (mx k.rs)), some (.int k.lv), r], vh⟩) (ranD 0 k.lv)
    ⟨[some k.d, some (.int least), some (.int (mx k.rs)), some (.int (mx k.rs)), some (.int k.lv), none], vh⟩ (fun _ s _ => trivial)
    (fun i d s hi ⟨r, x', hx', hd, hs⟩ => by
      subst hs
      obtain ⟨hi1, rfl⟩ := ranD_at hi
      have hb : k.lv ≤ 6 := hb
      rw [show 6 - i = (6 - (i + 1)) + 1 by omega] at hd
      unfold lev at hd
      by_cases c : x' % 4 = 0
      · rw [if_pos c] at hd
        refine ⟨_, rfl, ⟨[some k.d, some (.int least), some (.int (x' / 4)), some (.int (mx k.rs)), some (.int k.lv), some (.int (0 + (i : Int)))], vh⟩, .inl ?_, some (.int (0 + (i : Int))), x' / 4, by omega, by omega, rfl⟩
        unfold b_l_good_1
        walk_at "fxh"
      · rw [if_neg c] at hd
        omega) ⟨none, mx k.rs, hx, rfl, rfl⟩
  subst e
  rw [h]
  walk_at "fx"
  rw [ranD_len] at hd
  by_cases c : k.lv = 6
  · rw [if_pos (show (k.lv : Int) = 6 by omega)]
    exact ⟨_, rfl⟩
  · have hb : k.lv ≤ 6 := hb
    rw [if_neg (show ¬ (k.lv : Int) = 6 by omega)]
    rw [show 6 - k.lv = (5 - k.lv) + 1 by omega] at hd
    unfold lev at hd
    by_cases c3 : x' % 4 = 0
    · rw [if_pos c3] at hd
      omega
    · rw [decide_eq_false c3]
      exact ⟨_, rfl⟩
theorem t_cell (ns : List Int) (k : Int) (hk : 0 ≤ k) (vh : List Cell) : ∃ c : Int, F_l_cell [.lst (ns.map D.int), .int k] vh = some (.int c) ∧ (c ∈ ns ∨ c = 0) := by
  by_cases c : k < ns.length
  · obtain ⟨n, rfl⟩ := Int.eq_ofNat_of_zero_le hk
    have hn : n < ns.length := by omega
    refine ⟨ns[n], runP_of ?_ rfl, .inl (List.getElem_mem hn)⟩
    unfold g_l_cell
    walk_at "fx"
    rw [List.length_map, if_pos c, at_ints hn]
    walk_at "fx"
    exact ⟨_, rfl⟩
  · refine ⟨0, runP_of ?_ rfl, .inr rfl⟩
    unfold g_l_cell
    walk_at "fx"
    rw [List.length_map, if_neg c]
    exact ⟨_, rfl⟩
def SG : List Nat := cd " !\"#$&'()*+,-./0123456789:;<=>?@ABCDEFGHIJKLMNOPQRSTUVWXYZ[\\]^_`" ++ cd "abcdefghijklmnopqrstuvwxyz{|}~"
theorem SG_len : SG.length = 94 := by decide +kernel
theorem SG_in : ∀ c ∈ SG, c < 128 := by decide +kernel
def sg (n : Int) : Nat := SG.getD (n % 94).toNat 0
theorem sg_in (n : Int) : sg n < 128 := by
  unfold sg
  rw [List.getD_eq_getElem?_getD, List.getElem?_eq_getElem (by rw [SG_len]; omega), Option.getD_some]
  exact SG_in _ (List.getElem_mem _)
theorem cd_m : cd "m" = [109] := by decide +kernel
theorem x_sign {n : Int} {s : S} : ixM (.str (tx SG)) (.int (n % 94)) s = .ok (.str (tx [sg n])) s := by
  rw [x_ixS (by rw [SG_len]; omega), atI_mod 0 (by decide) (by rw [SG_len]; rfl)]
  rfl
@[reducible] def tst8 (a : D) (m : Int) (y : Int) (at' : Int) (p : Bool) (cs : List Nat) (r : Option D) (vh : List Cell) : S :=
  ⟨[some a, some (.str (tx SG)), some (.int m), some (.int y), some (.int at'), some (.bl p), some (.str (tx cs)), r], vh⟩
theorem t_turn (a : D) (m y at' : Int) (p : Bool) (cs : List Nat) (k : Int) (vh : List Cell) (h0 : 0 ≤ m) (h1 : m < 2147483629) (hl : cs.length ≤ 1000) (hc : ∀ c ∈ cs, c < 128) :
    ∃ (m' : Int) (c : Nat), 0 ≤ m' ∧ m' < 2147483629 ∧ c < 128 ∧ b_l_text_1 (tst8 a m y at' p cs (some (.int k)) vh) = .ok .nx (tst8 a m' y at' p (cs ++ [c]) (some (.int k)) vh) := by
  have a1 : m.natAbs.log2 + (48271 : Int).natAbs.log2 < 100000000 := by have := lgI m (by omega) (by omega); have := lgI 48271 (by decide) (by decide); omega
  unfold b_l_text_1 tst8
  cases p
  · walk_at "fx"
    rw [x_sign]
    walk_at "fx"
    exact ⟨_, _, by omega, by omega, sg_in _, rfl⟩
  · by_cases c : k = at'
    · walk_at "fx"
      rw [decide_eq_true c]
      walk_at "fx"
      rw [x_sign]
      walk_at "fx"
      exact ⟨_, _, by omega, by omega, sg_in _, rfl⟩
    · walk_at "fx"
      rw [decide_eq_false c]
      walk_at "fx"
      rw [cd_m]
      walk_at "fx"
      exact ⟨_, 109, by omega, by omega, by decide, rfl⟩
theorem t_text (c : Int) (vh : List Cell) : ∃ cs : List Nat, (Ky.str cs).ok ∧ F_l_text [.int c] vh = some (.str (tx cs)) := by
  have a1 : (c % 2147483629).natAbs.log2 + (48271 : Int).natAbs.log2 < 100000000 := by have := lgI (c % 2147483629) (by omega) (by omega); have := lgI 48271 (by decide) (by decide); omega
  have key : ∀ (m y : Int) (at' : Int) (p : Bool), 0 ≤ m → m < 2147483629 → 0 ≤ y → y ≤ 40 → ∃ s2, ∃ cs : List Nat, (Ky.str cs).ok ∧ (∃ l, s2 = ⟨l, vh⟩ ∧ l[6]? = some (some (.str (tx cs)))) ∧ loopM (fun _ => True) (setL 7) b_l_text_1 (ranD 0 y.toNat) (tst8 (.int c) m y at' p [] none vh) = .ok .nx s2 := by
    intro m y at' p h0 h1 h2 h3
    obtain ⟨s2, h, m', cs, r, a1, a2, a3, a4, e⟩ := loopM_run (ok := fun _ => True) (t := setL 7) (b := b_l_text_1)
      (fun i s => ∃ m' cs r, 0 ≤ m' ∧ m' < 2147483629 ∧ cs.length = i ∧ (∀ c ∈ cs, c < 128) ∧ s = tst8 (.int c) m' y at' p cs r vh) (ranD 0 y.toNat) (tst8 (.int c) m y at' p [] none vh) (fun _ _ _ => trivial)
      (fun i d s hi ⟨m', cs, r, a1, a2, a3, a4, hs⟩ => by
        subst hs
        obtain ⟨hi1, rfl⟩ := ranD_at hi
        obtain ⟨m2, c2, b1, b2, b3, b4⟩ := t_turn (.int c) m' y at' p cs (0 + (i : Int)) vh a1 a2 (by omega) a4
        refine ⟨_, rfl, _, .inl b4, m2, cs ++ [c2], _, b1, b2, by rw [List.length_append, a3]; rfl, ?_, rfl⟩
        intro x hx
        rcases List.mem_append.mp hx with hx | hx
        · exact a4 x hx
        · rw [List.mem_singleton.mp hx]; exact b3) ⟨m, [], none, h0, h1, rfl, (by intro c h; cases h), rfl⟩
    subst e
    rw [ranD_len] at a3
    exact ⟨_, cs, ⟨by omega, a4⟩, ⟨_, rfl, rfl⟩, h⟩
  have l1 := SG_len
  unfold SG at l1
  rw [List.length_append] at l1
  have key2 : ∃ cs : List Nat, (Ky.str cs).ok ∧ ∃ l, g_l_text (initS 8 [.int c] vh) = .ok (.rt (.str (tx cs))) ⟨l, vh⟩ := by
    unfold g_l_text
    generalize hm : (c % 2147483629 * 48271 + 12345) % 2147483629 = m
    have m0 : 0 ≤ m ∧ m < 2147483629 := by omega
    walk_at "fx"
    rw [hm]
    by_cases q : m / 5 % 4 = 1
    · rw [if_pos q]
      rw [x_ran1 (okB_of (by omega) (by omega))]
      walk_at "fx"
      obtain ⟨s2, cs, h1, ⟨l, h2, h3⟩, h4⟩ := key m (1 + m / 20 % 40) (m / 800 % (1 + m / 20 % 40)) (decide (m / 32000 % 2 = 1)) m0.1 m0.2 (by omega) (by omega)
      unfold tst8 SG at h4
      rw [h4, h2]
      walk_at "fx"
      rw [h3]
      exact ⟨cs, h1, _, rfl⟩
    · rw [if_neg q]
      rw [x_ran1 (okB_of (by omega) (by omega))]
      walk_at "fx"
      obtain ⟨s2, cs, h1, ⟨l, h2, h3⟩, h4⟩ := key m (1 + m % 5) (m / 800 % (1 + m % 5)) (decide (m / 32000 % 2 = 1)) m0.1 m0.2 (by omega) (by omega)
      unfold tst8 SG at h4
      rw [h4, h2]
      walk_at "fx"
      rw [h3]
      exact ⟨cs, h1, _, rfl⟩
  obtain ⟨cs, h1, h2⟩ := key2
  exact ⟨cs, h1, runP_of h2 rfl⟩
theorem t_tall (c : Int) (vh : List Cell) : ∃ n : Int, (Ky.int n).ok ∧ F_l_tall [.int c] vh = some (.int n) ∧ c % 7 ≤ (Ky.int n).lv := by
  have c7 : 0 ≤ c % 7 ∧ c % 7 < 7 := by omega
  obtain ⟨j, hj⟩ := Int.eq_ofNat_of_zero_le c7.1
  obtain ⟨a, ha⟩ : ∃ a : Int, a = c / 7 % 100003 := ⟨_, rfl⟩
  have ha2 : 0 ≤ a ∧ a < 100003 := by omega
  have e4 : (2 : Int) ^ (2 * (j : Int)).toNat = 4 ^ j := by
    rw [show (2 * (j : Int)).toNat = 2 * j by omega, Int.pow_mul]
    rfl
  have hp : (4 : Int) ^ j ≤ 4096 ∧ 0 < (4 : Int) ^ j := by
    have : j < 7 := by omega
    match j, this with
    | 0, _ | 1, _ | 2, _ | 3, _ | 4, _ | 5, _ | 6, _ => decide
  have hl0 : 0 ≤ a * 4 ^ j := Int.mul_nonneg ha2.1 (Int.le_of_lt hp.2)
  have hl1 : a * 4 ^ j < 2 ^ 29 := by
    have h1 := Int.mul_le_mul_of_nonneg_left hp.1 ha2.1
    have h2 : a * 4096 < 2 ^ 29 := by omega
    exact Int.lt_of_le_of_lt h1 h2
  obtain ⟨m1, m2, m3⟩ := mx_mx hl0 hl1
  have q0 : 0 ≤ c / 49 % 10 ^ 19 ∧ c / 49 % 10 ^ 19 < 10 ^ 19 := by omega
  generalize hf : mx (a * 4 ^ j) = f at m1 m2 m3
  generalize hq : c / 49 % 10 ^ 19 = q at q0
  have a1 : (2 : Int).natAbs.log2 + (j : Int).natAbs.log2 < 100000000 := by have := lgI 2 (by decide) (by decide); have := lgI j (by omega) (by omega); omega
  have a2 : (f - 11).natAbs.log2 + (1899818559 : Int).natAbs.log2 < 100000000 := by have := lgI (f - 11) (by omega) (by omega); have := lgI 1899818559 (by decide) (by decide); omega
  have a3 : (2147483647 : Int).natAbs.log2 + q.natAbs.log2 < 100000000 := by have := lgI 2147483647 (by decide) (by decide); have := lgI q (by omega) (by omega); omega
  refine ⟨(f - 11) * 1899818559 % 2147483647 + 2147483647 * q, lgI _ (by omega) (by omega), runP_of ?_ rfl, ?_⟩
  · unfold g_l_tall
    walk_at "fx"
    rw [hj]
    walk_at "fx"
    rw [x_shl (by omega) (by omega) (by omega), e4, ← ha]
    walk_at "fx"
    rw [x_shr (by decide)]
    walk_at "fx"
    rw [x_xor]
    walk_at "fx"
    rw [show Builtin.bitXor (a * 4 ^ j) (a * 4 ^ j / 2 ^ 15) = f from hf]
    walk_at "fx"
    rw [hq]
    walk_at "fx"
    exact ⟨_, rfl⟩
  · unfold Ky.lv Ky.rs
    dsimp only
    rw [inv_ok f q m2 (by omega), m1]
    have := lev_ge j 6 a (by omega)
    omega
theorem t_key (c kind : Int) (h0 : 0 ≤ kind) (h4 : kind < 4) (vh : List Cell) : ∃ k : Ky, k.ok ∧ F_l_key [.int c, .int kind] vh = some k.d ∧ (kind = 3 → c % 7 ≤ k.lv) := by
  have a2 : (2 : Int).natAbs.log2 + ((10 : Int) ^ 30).natAbs.log2 < 100000000 := by decide
  have a3 : (0 : Int) < 2 * 10 ^ 30 - 1 := by decide
  obtain ⟨cs, t1, t2⟩ := t_text c vh
  obtain ⟨n, t3, t4, t5⟩ := t_tall c vh
  by_cases e0 : kind = 0
  · subst e0
    refine ⟨.int (c % (2 * 10 ^ 30 - 1) - (10 ^ 30 - 1)), lgI _ (by omega) (by omega), runP_of ?_ rfl, by omega⟩
    unfold g_l_key
    walk_at "fx"
    exact ⟨_, rfl⟩
  · by_cases e1 : kind = 1
    · subst e1
      refine ⟨.int (c % 50 - 15), lgI _ (by omega) (by omega), runP_of ?_ rfl, by omega⟩
      unfold g_l_key
      walk_at "fx"
      exact ⟨_, rfl⟩
    · by_cases e2 : kind = 2
      · subst e2
        refine ⟨.str cs, t1, runP_of ?_ rfl, by omega⟩
        unfold g_l_key
        walk_at "fxh"
        exact ⟨_, rfl⟩
      · have e3 : kind = 3 := by omega
        subst e3
        refine ⟨.int n, t3, runP_of ?_ rfl, fun _ => t5⟩
        unfold g_l_key
        walk_at "fxh"
        exact ⟨_, rfl⟩
theorem t_keyS (ns : List Int) (c kind : Int) (h0 : 0 ≤ kind) (h4 : kind < 4) (vh : List Cell) : ∃ k : Ky, k.ok ∧ F_l_key [.int c, .int kind] vh = some k.d ∧ F_l_good [k.d, .int (if kind = 3 then c % 7 else 0)] (vh) = some (.bl true) ∧ ∀ vh2, F_l_good [k.d, .int (if kind = 3 then c % 7 else 0)] vh2 = some (.bl true) := by
  obtain ⟨k, h1, h2, h3⟩ := t_key c kind h0 h4 vh
  have : (if kind = 3 then c % 7 else 0) ≤ (k.lv : Int) := by
    split
    · next h => exact h3 h
    · omega
  exact ⟨k, h1, h2, t_good k h1 _ this vh, fun vh2 => t_good k h1 _ this vh2⟩
@[reducible] def lst8 (A : D) (k c kd ls : Option D) (ks : List Ky) : S := ⟨[some A, some (.cell 0), k, c, kd, ls, none, none], [Cell.lst (ks.map Ky.d)]⟩
theorem x_seqC {ds : List D} {l : List (Option D)} : seqI (.cell 0) ⟨l, [Cell.lst ds]⟩ = .ok ⟨ds, fun s' => itemsOf s' (.cell 0) = some ds⟩ ⟨l, [Cell.lst ds]⟩ := nr rfl
theorem isTy_0 {l : List (Option D)} {ds : List D} : isTy "list" ⟨l, [Cell.lst ds]⟩ (.cell 0) = true := isTy_last (vh := [])
theorem x_app0 {l : List (Option D)} {ds : List D} {e : D} (h : ds.length < 16777216) : appM (.cell 0) [e] ⟨l, [Cell.lst ds]⟩ = .ok .non ⟨l, [Cell.lst (ds ++ [e])]⟩ := x_appL (vh := []) h
theorem x_ixC {ds : List D} {l : List (Option D)} {i : Int} : ixM (.cell 0) (.int i) ⟨l, [Cell.lst ds]⟩ = Res.opt (atI ds i) ⟨l, [Cell.lst ds]⟩ := by
  have e : lstOf ⟨l, [Cell.lst ds]⟩ (.cell 0) = some ds := rfl
  cases h : atI ds i <;> simp [ixM, e, Res.opt, h]
theorem turn (ns : List Int) (i : Nat) (hi : i < 3) (c kd ls : Option D) (ks : List Ky) (hk : ks.length = i) :
    ∃ c' kd' ls' k, Ky.ok k ∧ b_law_1 (lst8 (.lst (ns.map D.int)) (some (.int i)) c kd ls ks) = .ok .nx (lst8 (.lst (ns.map D.int)) (some (.int i)) c' kd' ls' (ks ++ [k])) := by
  have a1 : (2 : Int).natAbs.log2 + (i : Int).natAbs.log2 < 100000000 := by have := lgI 2 (by decide) (by decide); have := lgI i (by omega) (by omega); omega
  obtain ⟨c1, h1, _⟩ := t_cell ns (2 * (i : Int)) (by omega) [Cell.lst (ks.map Ky.d)]
  obtain ⟨c2, h2, _⟩ := t_cell ns (2 * (i : Int) + 1) (by omega) [Cell.lst (ks.map Ky.d)]
  obtain ⟨k, k1, k2, _, k3⟩ := t_keyS ns c1 (c2 % 4) (by omega) (by omega) [Cell.lst (ks.map Ky.d)]
  have e1 : atI (ks.map Ky.d ++ [k.d]) (i : Int) = some k.d := by
    rw [atI_ofNat (by rw [List.length_append, List.length_map, hk]; exact Nat.lt_succ_self _), List.getElem?_append_right (by rw [List.length_map]; omega)]
    rw [List.length_map, hk, Nat.sub_self]
    rfl
  unfold b_law_1 lst8
  walk_at "fx"
  rw [h1]
  walk_at "fx"
  rw [h2]
  walk_at "fx"
  rw [isTy_0]
  walk_at "fx"
  rw [k2]
  walk_at "fx"
  rw [x_app0 (by rw [List.length_map]; omega)]
  walk_at "fx"
  by_cases q : c2 % 4 = 3
  · rw [if_pos q] at k3 ⊢
    rw [x_ixC, e1]
    walk_at "fx"
    rw [k3]
    walk_at "fx"
    exact ⟨_, _, _, k, k1, by rw [List.map_append]; rfl⟩
  · rw [if_neg q] at k3 ⊢
    rw [x_ixC, e1]
    walk_at "fx"
    rw [k3]
    walk_at "fx"
    exact ⟨_, _, _, k, k1, by rw [List.map_append]; rfl⟩
theorem pyL_ints : ∀ ns : List Int, pyL (ns.map D.int) = some (ns.map PyData.int)
  | [] => rfl
  | n :: ns => by rw [List.map_cons, pyL, pyL_ints ns]; rfl
theorem can_ints : ∀ ns : List Int, PyData.canLayAll0 (ns.map PyData.int) = true
  | [] => rfl
  | n :: ns => by rw [List.map_cons, PyData.canLayAll0, can_ints ns]; rfl
theorem dep_ints : ∀ ns : List Int, PyData.depthAll (ns.map PyData.int) = 0
  | [] => rfl
  | n :: ns => by rw [List.map_cons, PyData.depthAll, dep_ints ns]; rfl
theorem shaped_ints (ns : List Int) : SeqAt.shaped (.list (ns.map PyData.int)) = true := by
  unfold SeqAt.shaped PyData.canLay0 PyData.depth
  rw [can_ints, dep_ints]
  rfl
theorem eqv_ints (ns : List Int) : PyData.eqv (.list (ns.map PyData.int)) (.list (ns.map PyData.int)) = true := by
  rw [PyData.eqv]
  induction ns with
  | nil => rfl
  | cons n ns ih =>
    rw [List.map_cons, PyData.eqvAll, ih]
    simp [PyData.eqv]
theorem x_eqSelf {ns : List Int} {s : S} : eqM (.lst (ns.map D.int)) (.lst (ns.map D.int)) s = .ok (.bl true) s := by
  show eqD _ _ s = _
  unfold eqD
  have e : pyD s (.lst (ns.map D.int)) = some (.list (ns.map PyData.int)) := by
    show pyT _ = _
    unfold pyT
    rw [pyL_ints]; rfl
  rw [e]
  dsimp only
  rw [shaped_ints, eqv_ints]
  rfl
theorem x_lvls (A : D) (k c kd ls kp : Option D) (ks : List Ky) (h3 : ks.length ≤ 1000) (hk : ∀ k ∈ ks, k.ok) : lcM (bnd (getL 1) seqI) 7 yesM (bnd (consM (getL 7) (ret [])) (callP 1 F_level_of)) ⟨[some A, some (.cell 0), k, c, kd, ls, kp, none], [Cell.lst (ks.map Ky.d)]⟩
    = .ok (.lst ((ks.map fun k => (k.lv : Int)).map D.int)) ⟨[some A, some (.cell 0), k, c, kd, ls, kp, none], [Cell.lst (ks.map Ky.d)]⟩ := by
  rw [lcM_all (items := ks.map Ky.d) (ok := fun s' => itemsOf s' (.cell 0) = some (ks.map Ky.d)) (v := fun d => match F_level_of [d] [Cell.lst (ks.map Ky.d)] with | some v => v | none => .non)
    (by walk_at "fx"; rw [x_seqC]) (fun _ => rfl) (by rw [List.length_map]; omega) (fun d hd => by
      obtain ⟨k', hk', rfl⟩ := List.mem_map.mp hd
      walk_at "fx"
      rw [t_level k' (hk k' hk')]
      exact ⟨_, x_callR⟩)]
  congr 2
  rw [List.map_map, List.map_map]
  refine List.map_congr_left fun k hk' => ?_
  show (match F_level_of [k.d] _ with | some v => v | none => D.non) = _
  rw [t_level k (hk k hk')]
  rfl
theorem law_true (ns : List Int) (hl : ns.length ≤ 63) (hb : ∀ z ∈ ns, Builtin.Int.intBits z ≤ 1048576) : F_law [.lst (ns.map D.int)] [] = some (.bl true) := by
  have key : ∃ (l : List (Option D)) (ks : List Ky), g_law (initS 8 [.lst (ns.map D.int)] []) = .ok (.rt (.bl true)) ⟨l, [Cell.lst (ks.map Ky.d)]⟩ := by
    unfold g_law
    walk_at "fxh"
    rw [x_ran1 (okB_of (by decide) (by decide))]
    walk_at "fx"
    have e3 : (3 : Int).toNat = 3 := rfl
    obtain ⟨s2, h, k, c, kd, ls, ks, h1, h2, e⟩ := loopM_run (ok := fun _ => True) (t := setL 2) (b := b_law_1)
      (fun i s => ∃ (k c kd ls : Option D) (ks : List Ky), ks.length = i ∧ (∀ k ∈ ks, k.ok) ∧ s = lst8 (.lst (ns.map D.int)) k c kd ls ks) (ranD 0 3) (lst8 (.lst (ns.map D.int)) none none none none []) (fun _ _ _ => trivial)
      (fun i d s hi ⟨k, c, kd, ls, ks, h1, h2, hs⟩ => by
        subst hs
        obtain ⟨hi1, rfl⟩ := ranD_at hi
        obtain ⟨c', kd', ls', k', a1, a2⟩ := turn ns i hi1 c kd ls ks h1
        rw [Int.zero_add]
        refine ⟨_, rfl, _, .inl a2, some (.int i), c', kd', ls', ks ++ [k'], by rw [List.length_append, h1]; rfl, ?_, rfl⟩
        intro x hx
        rcases List.mem_append.mp hx with hx | hx
        · exact h2 x hx
        · rw [List.mem_singleton.mp hx]; exact a1) ⟨none, none, none, none, [], rfl, (by intro c h; cases h), rfl⟩
    subst e
    have h' : loopM (fun _ => True) (setL 2) b_law_1 (ranD 0 3) ⟨[some (D.lst (ns.map D.int)), some (D.cell 0), none, none, none, none, none, none], [Cell.lst []]⟩ = _ := h
    rw [ranD_len] at h1
    have l1 := x_lvls (.lst (ns.map D.int)) k c kd ls none ks (by omega) h2
    have l2 := x_lvls (.lst (ns.map D.int)) k c kd ls (some (.lst ((ks.map fun k => (k.lv : Int)).map D.int))) ks (by omega) h2
    rw [h']
    walk_at "fx"
    rw [l1]
    walk_at "fx"
    rw [l2]
    walk_at "fx"
    rw [x_eqSelf]
    walk_at "fx"
    match ks, h1, h2 with
    | k0 :: k1 :: k2 :: [], _, h2 =>
    rw [x_ixC, show atI ([k0, k1, k2].map Ky.d) 0 = some k0.d from rfl]
    walk_at "fx"
    rw [t_level k0 (h2 k0 List.mem_cons_self)]
    walk_at "fx"
    rw [show atI [D.int k0.lv, D.int k1.lv, D.int k2.lv] 0 = some (D.int k0.lv) from rfl]
    walk_at "fx"
    rw [if_pos (lenOk_of (Nat.zero_le _))]
    exact ⟨_, [k0, k1, k2], rfl⟩
  obtain ⟨l, ks, h⟩ := key
  exact runP_more ⟨l, [Cell.lst (ks.map Ky.d)], h⟩ rfl
end My

/-! ### the end -/
namespace Wktwigtable_k11_a_level
open PySem PySem.Spec PyProof.Rows L2 Fx
theorem all_mk {K : PySem.W.Frag} {h : Heap} {mg : Str → Option Value} (X : K.In h) (G : h.Ns mainGlobals mg)
    {f0 oc0 kV0 dc0 pm0 cd0 ct0} {od0 an0 : Option Addr} {sl0 : Array (Option Value)} (a0 : PySem.W.nsIn K mainGlobals "mixed" = some (some (.ref f0))) (l0 : K.lookup f0 = some ⟨oc0, od0, .func (PySem.W.fnOf "mixed" "mixed" (defArgs s_mixed) (defBody s_mixed) (defScope s_mixed) .none kV0 dc0 pm0 an0 cd0 ct0), sl0⟩) (c0 : PySem.W.codeIn K cd0 "mixed" = true) (k0 : PySem.W.keepIn K (.ref f0) = true)
    {f1 oc1 kV1 dc1 pm1 cd1 ct1} {od1 an1 : Option Addr} {sl1 : Array (Option Value)} (a1 : PySem.W.nsIn K mainGlobals "level_of" = some (some (.ref f1))) (l1 : K.lookup f1 = some ⟨oc1, od1, .func (PySem.W.fnOf "level_of" "level_of" (defArgs s_level_of) (defBody s_level_of) (defScope s_level_of) .none kV1 dc1 pm1 an1 cd1 ct1), sl1⟩) (c1 : PySem.W.codeIn K cd1 "level_of" = true) (k1 : PySem.W.keepIn K (.ref f1) = true)
    {f2 oc2 kV2 dc2 pm2 cd2 ct2} {od2 an2 : Option Addr} {sl2 : Array (Option Value)} (a2 : PySem.W.nsIn K mainGlobals "_law_cell" = some (some (.ref f2))) (l2 : K.lookup f2 = some ⟨oc2, od2, .func (PySem.W.fnOf "_law_cell" "_law_cell" (defArgs s_l_cell) (defBody s_l_cell) (defScope s_l_cell) .none kV2 dc2 pm2 an2 cd2 ct2), sl2⟩) (c2 : PySem.W.codeIn K cd2 "_law_cell" = true) (k2 : PySem.W.keepIn K (.ref f2) = true)
    {f3 oc3 kV3 dc3 pm3 cd3 ct3} {od3 an3 : Option Addr} {sl3 : Array (Option Value)} (a3 : PySem.W.nsIn K mainGlobals "_law_whole" = some (some (.ref f3))) (l3 : K.lookup f3 = some ⟨oc3, od3, .func (PySem.W.fnOf "_law_whole" "_law_whole" (defArgs s_l_whole) (defBody s_l_whole) (defScope s_l_whole) .none kV3 dc3 pm3 an3 cd3 ct3), sl3⟩) (c3 : PySem.W.codeIn K cd3 "_law_whole" = true) (k3 : PySem.W.keepIn K (.ref f3) = true)
    {f4 oc4 kV4 dc4 pm4 cd4 ct4} {od4 an4 : Option Addr} {sl4 : Array (Option Value)} (a4 : PySem.W.nsIn K mainGlobals "_law_text" = some (some (.ref f4))) (l4 : K.lookup f4 = some ⟨oc4, od4, .func (PySem.W.fnOf "_law_text" "_law_text" (defArgs s_l_text) (defBody s_l_text) (defScope s_l_text) .none kV4 dc4 pm4 an4 cd4 ct4), sl4⟩) (c4 : PySem.W.codeIn K cd4 "_law_text" = true) (k4 : PySem.W.keepIn K (.ref f4) = true)
    {f5 oc5 kV5 dc5 pm5 cd5 ct5} {od5 an5 : Option Addr} {sl5 : Array (Option Value)} (a5 : PySem.W.nsIn K mainGlobals "_law_tall" = some (some (.ref f5))) (l5 : K.lookup f5 = some ⟨oc5, od5, .func (PySem.W.fnOf "_law_tall" "_law_tall" (defArgs s_l_tall) (defBody s_l_tall) (defScope s_l_tall) .none kV5 dc5 pm5 an5 cd5 ct5), sl5⟩) (c5 : PySem.W.codeIn K cd5 "_law_tall" = true) (k5 : PySem.W.keepIn K (.ref f5) = true)
    {f6 oc6 kV6 dc6 pm6 cd6 ct6} {od6 an6 : Option Addr} {sl6 : Array (Option Value)} (a6 : PySem.W.nsIn K mainGlobals "_law_key" = some (some (.ref f6))) (l6 : K.lookup f6 = some ⟨oc6, od6, .func (PySem.W.fnOf "_law_key" "_law_key" (defArgs s_l_key) (defBody s_l_key) (defScope s_l_key) .none kV6 dc6 pm6 an6 cd6 ct6), sl6⟩) (c6 : PySem.W.codeIn K cd6 "_law_key" = true) (k6 : PySem.W.keepIn K (.ref f6) = true)
    {f7 oc7 kV7 dc7 pm7 cd7 ct7} {od7 an7 : Option Addr} {sl7 : Array (Option Value)} (a7 : PySem.W.nsIn K mainGlobals "_law_mixed" = some (some (.ref f7))) (l7 : K.lookup f7 = some ⟨oc7, od7, .func (PySem.W.fnOf "_law_mixed" "_law_mixed" (defArgs s_l_mixed) (defBody s_l_mixed) (defScope s_l_mixed) .none kV7 dc7 pm7 an7 cd7 ct7), sl7⟩) (c7 : PySem.W.codeIn K cd7 "_law_mixed" = true) (k7 : PySem.W.keepIn K (.ref f7) = true)
    {f8 oc8 kV8 dc8 pm8 cd8 ct8} {od8 an8 : Option Addr} {sl8 : Array (Option Value)} (a8 : PySem.W.nsIn K mainGlobals "_law_good" = some (some (.ref f8))) (l8 : K.lookup f8 = some ⟨oc8, od8, .func (PySem.W.fnOf "_law_good" "_law_good" (defArgs s_l_good) (defBody s_l_good) (defScope s_l_good) .none kV8 dc8 pm8 an8 cd8 ct8), sl8⟩) (c8 : PySem.W.codeIn K cd8 "_law_good" = true) (k8 : PySem.W.keepIn K (.ref f8) = true)
    {f9 oc9 kV9 dc9 pm9 cd9 ct9} {od9 an9 : Option Addr} {sl9 : Array (Option Value)} (a9 : PySem.W.nsIn K mainGlobals "law" = some (some (.ref f9))) (l9 : K.lookup f9 = some ⟨oc9, od9, .func (PySem.W.fnOf "law" "law" (defArgs s_law) (defBody s_law) (defScope s_law) .none kV9 dc9 pm9 an9 cd9 ct9), sl9⟩) (c9 : PySem.W.codeIn K cd9 "law" = true) (k9 : PySem.W.keepIn K (.ref f9) = true)
    (z_bool : PySem.W.nsIn K mainGlobals "bool" = some none)
    (z_int : PySem.W.nsIn K mainGlobals "int" = some none)
    (z_isinstance : PySem.W.nsIn K mainGlobals "isinstance" = some none)
    (z_len : PySem.W.nsIn K mainGlobals "len" = some none)
    (z_ord : PySem.W.nsIn K mainGlobals "ord" = some none)
    (z_range : PySem.W.nsIn K mainGlobals "range" = some none)
    (z_str : PySem.W.nsIn K mainGlobals "str" = some none)
    {t_GREAT} (z_GREAT : PySem.W.nsIn K mainGlobals "GREAT" = some (some (.int 2147483647 t_GREAT)))
    : Txt mg ∧ Top K mg "mixed" s_mixed ["key"] ∧ Top K mg "level_of" s_level_of ["key"] ∧ Top K mg "_law_cell" s_l_cell ["_law_script", "_law_k"] ∧ Top K mg "_law_whole" s_l_whole ["_law_found"] ∧ Top K mg "_law_text" s_l_text ["_law_cell_here"] ∧ Top K mg "_law_tall" s_l_tall ["_law_cell_here"] ∧ Top K mg "_law_key" s_l_key ["_law_cell_here", "_law_kind"] ∧ Top K mg "_law_mixed" s_l_mixed ["_law_key_here"] ∧ Top K mg "_law_good" s_l_good ["_law_key_here", "_law_least"] ∧ Top K mg "law" s_law ["_law_script"] := by
  refine ⟨⟨PySem.W.mg_none_of X G z_bool, PySem.W.mg_none_of X G z_int, PySem.W.mg_none_of X G z_isinstance, PySem.W.mg_none_of X G z_len, PySem.W.mg_none_of X G z_ord, PySem.W.mg_none_of X G z_range, PySem.W.mg_none_of X G z_str, ⟨_, PySem.W.mg_of X G z_GREAT⟩⟩, ?_, ?_, ?_, ?_, ?_, ?_, ?_, ?_, ?_, ?_⟩
  · exact top_mk X G a0 l0 c0 k0 fun _ _ _ _ _ _ us hl => match us, hl with | [_], _ => rfl
  · exact top_mk X G a1 l1 c1 k1 fun _ _ _ _ _ _ us hl => match us, hl with | [_], _ => rfl
  · exact top_mk X G a2 l2 c2 k2 fun _ _ _ _ _ _ us hl => match us, hl with | [_, _], _ => rfl
  · exact top_mk X G a3 l3 c3 k3 fun _ _ _ _ _ _ us hl => match us, hl with | [_], _ => rfl
  · exact top_mk X G a4 l4 c4 k4 fun _ _ _ _ _ _ us hl => match us, hl with | [_], _ => rfl
  · exact top_mk X G a5 l5 c5 k5 fun _ _ _ _ _ _ us hl => match us, hl with | [_], _ => rfl
  · exact top_mk X G a6 l6 c6 k6 fun _ _ _ _ _ _ us hl => match us, hl with | [_, _], _ => rfl
  · exact top_mk X G a7 l7 c7 k7 fun _ _ _ _ _ _ us hl => match us, hl with | [_], _ => rfl
  · exact top_mk X G a8 l8 c8 k8 fun _ _ _ _ _ _ us hl => match us, hl with | [_, _], _ => rfl
  · exact top_mk X G a9 l9 c9 k9 fun _ _ _ _ _ _ us hl => match us, hl with | [_], _ => rfl
theorem walk {l : PySem.W.OpenLaw} {q : Program} {loose : List Str} {XP : (Str → Option Value) → Heap → Prop} {YP : World → Heap → Prop} {d : DefRec} {K : Params → PySem.W.Frag} (hn : l.most = some 63) (hdf : d.params.defaults = []) (hd : d.name = "law")
    (hY : ∀ (w : World) (h : Heap), YP w h → (K w.params).In h)
    (F : ∀ (w : World) (mg : Str → Option Value) (h : Heap), (K w.params).In h → h.Ns mainGlobals mg → Txt mg ∧ Top (K w.params) mg "mixed" s_mixed ["key"] ∧ Top (K w.params) mg "level_of" s_level_of ["key"] ∧ Top (K w.params) mg "_law_cell" s_l_cell ["_law_script", "_law_k"] ∧ Top (K w.params) mg "_law_whole" s_l_whole ["_law_found"] ∧ Top (K w.params) mg "_law_text" s_l_text ["_law_cell_here"] ∧ Top (K w.params) mg "_law_tall" s_l_tall ["_law_cell_here"] ∧ Top (K w.params) mg "_law_key" s_l_key ["_law_cell_here", "_law_kind"] ∧ Top (K w.params) mg "_law_mixed" s_l_mixed ["_law_key_here"] ∧ Top (K w.params) mg "_law_good" s_l_good ["_law_key_here", "_law_least"] ∧ Top (K w.params) mg "law" s_law ["_law_script"])
    (hF : ∀ ns : List Int, ns.length ≤ 63 → (∀ z ∈ ns, Builtin.Int.intBits z ≤ 1048576) → F_law [.lst (ns.map D.int)] [] = some (.bl true)) :
    PySem.W.WalkO q loose XP YP l.row.toRowW d [] (fun f vs => PySem.call f vs) := by
  refine law_end (k := 4) (x := "_law_script") hn hdf hd ⟨rfl, by decide, by decide⟩ hY (fun w mg h X G => ?_) hF
  obtain ⟨T, t_mixed, t_level_of, t_l_cell, t_l_whole, t_l_text, t_l_tall, t_l_key, t_l_mixed, t_l_good, t_law⟩ := F w mg h X G
  refine ok_law T t_law fun base X0 G0 => ?_
  have c_mixed : FnP l.prog w (K w.params) mg base "mixed" 1 1 F_mixed := ok_mixed T t_mixed
  have c_level_of : FnP l.prog w (K w.params) mg base "level_of" 1 2 F_level_of := ok_level_of T t_level_of c_mixed
  have c_l_cell : FnP l.prog w (K w.params) mg base "_law_cell" 2 1 F_l_cell := ok_l_cell T t_l_cell
  have c_l_whole : FnP l.prog w (K w.params) mg base "_law_whole" 1 1 F_l_whole := ok_l_whole T t_l_whole
  have c_l_text : FnP l.prog w (K w.params) mg base "_law_text" 1 1 F_l_text := ok_l_text T t_l_text
  have c_l_tall : FnP l.prog w (K w.params) mg base "_law_tall" 1 1 F_l_tall := ok_l_tall T t_l_tall
  have c_l_key : FnP l.prog w (K w.params) mg base "_law_key" 2 2 F_l_key := ok_l_key T t_l_key c_l_text c_l_tall
  have c_l_mixed : FnP l.prog w (K w.params) mg base "_law_mixed" 1 1 F_l_mixed := ok_l_mixed T t_l_mixed
  have c_l_good : FnP l.prog w (K w.params) mg base "_law_good" 2 3 F_l_good := ok_l_good T t_l_good c_l_mixed c_mixed c_level_of c_l_whole
  exact ⟨c_l_cell, c_l_key, c_l_good, c_level_of, trivial⟩
end Wktwigtable_k11_a_level
open PySem PySem.W PyProof.Rows
set_option maxRecDepth 100000 in
set_option maxHeartbeats 0 in
theorem PySem.Challenge.cw_twigtable_k11_a_level_holds : PySem.Challenge.rw_twigtable_k11_a_level.Holds := by
  w_on; o_law; k_head; (case hw => w_witness2)
  k_fill
  refine Wktwigtable_k11_a_level.walk (l := PySem.Challenge.rw_twigtable_k11_a_level) rfl rfl rfl (fun w h Y => PySem.W.kIn_of Y) ?F My.law_true
  case F =>
    intro w mg h KX G
    refine' Wktwigtable_k11_a_level.all_mk KX G ?a0 ?l0 ?c0 ?k0 ?a1 ?l1 ?c1 ?k1 ?a2 ?l2 ?c2 ?k2 ?a3 ?l3 ?c3 ?k3 ?a4 ?l4 ?c4 ?k4 ?a5 ?l5 ?c5 ?k5 ?a6 ?l6 ?c6 ?k6 ?a7 ?l7 ?c7 ?k7 ?a8 ?l8 ?c8 ?k8 ?a9 ?l9 ?c9 ?k9 ?z_bool ?z_int ?z_isinstance ?z_len ?z_ord ?z_range ?z_str ?z_GREAT
    (case a0 => k_is)
    (case l0 => k_is)
    (case c0 => k_is)
    (case k0 => k_is)
    (case a1 => k_is)
    (case l1 => k_is)
    (case c1 => k_is)
    (case k1 => k_is)
    (case a2 => k_is)
    (case l2 => k_is)
    (case c2 => k_is)
    (case k2 => k_is)
    (case a3 => k_is)
    (case l3 => k_is)
    (case c3 => k_is)
    (case k3 => k_is)
    (case a4 => k_is)
    (case l4 => k_is)
    (case c4 => k_is)
    (case k4 => k_is)
    (case a5 => k_is)
    (case l5 => k_is)
    (case c5 => k_is)
    (case k5 => k_is)
    (case a6 => k_is)
    (case l6 => k_is)
    (case c6 => k_is)
    (case k6 => k_is)
    (case a7 => k_is)
    (case l7 => k_is)
    (case c7 => k_is)
    (case k7 => k_is)
    (case a8 => k_is)
    (case l8 => k_is)
    (case c8 => k_is)
    (case k8 => k_is)
    (case a9 => k_is)
    (case l9 => k_is)
    (case c9 => k_is)
    (case k9 => k_is)
    (case z_bool => k_is)
    (case z_int => k_is)
    (case z_isinstance => k_is)
    (case z_len => k_is)
    (case z_ord => k_is)
    (case z_range => k_is)
    (case z_str => k_is)
    (case z_GREAT => k_is)

