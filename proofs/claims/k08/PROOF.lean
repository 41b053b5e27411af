import PyProof.Rows.All
import Wide.All
import OpenK.AllK
import Wide.FinOn
import HandS.ForMost
import KE.KDictKeyed
import HandS.IsInst
import HandS.Wide
import HandS.EndBits
import HandS.Codes
import HandS.Zip
import HandS.TupAny
import KE.DataCmp
import KE.SortKeyHeap
import HandS.SortKw
import HandS.More
import HandS.SortInts
import HandS.Strs
import HandS.SetFor
import KE.SortData
import HandS.Conv
import HandS.Rev
import HandS.ClsMeth
import PyProof.StrBlock2
import HandS.Iter
import PyProof.ListIndex
import KE.KDictPairs
import PyProof.DictUpdate
import HandS.WordsExc
import HandS.TryOnly
import HandS.ExcInit
import HandS.ExcField
import HandS.ExcIs
import KE.KExcIs
import PyProof.ListMulAny
import PyProof.Rows.ListMulArg
import KE.GoesMore
import KE.GoesZip
import PyProof.TupleOfSeq
import HandS.Text
import HandS.ListItems
import HandS.NoneIn
import HandS.SetKeys
import KE.KEqDict
import HandS.TryMany
import HandS.ExcValue
import PySem.Challenge.RW_twigtable_k08_refusals
set_option Elab.async false
set_option linter.all false
set_option maxRecDepth 100000
set_option maxHeartbeats 2000000
/-! dicts whose keys are trees of tuples -/
namespace L2
open PySem PySem.Spec PyProof.Rows
abbrev NX := List (NestedKey × Addr × Value)
/-- at a stands the dict of the entries xs, in their order -/
def dNO (w : World) (a : Addr) (xs : NX) : HO := .ext fun h => (a == sysModules) = false ∧ xs.length ≤ sizeLine ∧ ∃ o es ep, h.get? a = some o ∧ o.ExactDict ∧ o.data = .dict es ep ∧ es.toList = xs.map (fun x => (⟨x.1.hash w, .ref x.2.1, x.2.2⟩ : DictEntry)) ∧ (xs.map (·.1)).Nodup
section
variable {X : Cx} {pins : List (Addr × Obj)} {σ : St} {H : Hp} {s : Shared} {a b : Addr} {q : NestedKey} {xs : NX}
/-! `{}` -/
variable {o i e value : Expr} {pos pos' apos cpos : Pos} {td ty tv : TE}
end
end L2

/-! Fx: a def's body as a function on data: trees for what is never changed, numbered cells for lists that are. -/
namespace Fx
open PySem PySem.Spec PyProof.Rows L2

/-! ### data -/
inductive D where
  | non | bl (b : Bool) | int (i : Int) | str (x : Str) | tup (xs : List D) | lst (xs : List D) | cell (n : Nat) | ref (a : Addr) | pr (a b : D) | emp | err (x : Str) (ks : List Str) (ds : List D)
inductive Cell where
  | lst (xs : List D) | dct (kvs : List (Key × D)) | obj (x : Str) (fs : List (Str × D)) | dctL (o : Obj) (us : List (Key × V)) (kvs : List (Key × D)) | dctN (wd : World) (kvs : List (NestedKey × D))
structure S where
  loc : List (Option D)
  vh : List Cell
structure Ex where
  cls : Str
  fs : List (Str × D)
inductive Res (α : Type) where
  | ok (a : α) (s : S) | exc (e : Ex) (s : S) | bad
abbrev M (α : Type) := S → Res α
def ret {α : Type} (a : α) : M α := fun s => .ok a s
def fail {α : Type} : M α := fun _ => .bad
def bnd {α β : Type} (m : M α) (k : α → M β) : M β := fun s => match m s with
  | .ok a s' => k a s'
  | .exc e s' => .exc e s'
  | .bad => .bad
mutual
def nkD : D → Option NestedKey
  | .non => some .none
  | .bl b => some (.num (if b = true then 1 else 0))
  | .int i => some (.num i)
  | .str x => some (.text x)
  | .tup ds => (nkL ds).map .tup
  | _ => none
def nkL : List D → Option (List NestedKey)
  | [] => some []
  | d :: r => match nkD d, nkL r with
    | some k, some ks => some (k :: ks)
    | _, _ => none
end
/-- data that stand in the abstract heap -/
structure Wd where
  ρ : List Addr
  F : Hp
def Wd.le (w w' : Wd) : Prop := (∀ (n : Nat) a, w.ρ[n]? = some a → w'.ρ[n]? = some a) ∧ ∀ a o, w.F a = some o → w'.F a = some o
theorem Wd.le.refl (w : Wd) : w.le w := ⟨fun _ _ h => h, fun _ _ h => h⟩
theorem Wd.le.trans {a b c : Wd} (x : a.le b) (y : b.le c) : a.le c := ⟨fun n q h => y.1 n q (x.1 n q h), fun q o h => y.2 q o (x.2 q o h)⟩
/-- an error that is kept: its class, its dict -/
def ExK (cls : Value) (d : Option Addr) (a : Addr) : HO := .ext fun h => ∃ (oe : Obj) (vs : Array Value), h.get? a = some oe ∧ oe.cls = cls ∧ oe.dict = d ∧ oe.data = .fields vs
def ErrAt (K : PySem.W.Frag) (F : Hp) (a : Addr) (x : Str) (ks : List Str) (vs : List V) : Prop := ∃ C d, PySem.W.nsIn K mainGlobals x = some (some (.ref C)) ∧ F a = some (ExK (.ref C) d a) ∧ ((ks = [] ∧ vs = [] ∧ d = none) ∨ ∃ dd, d = some dd ∧ F dd = some (.xd (ks.zip vs)) ∧ ks.length = vs.length)
theorem ErrAt.up {K : PySem.W.Frag} {F F' : Hp} (h : ∀ a o, F a = some o → F' a = some o) {a : Addr} {x : Str} {ks : List Str} {vs : List V} (e : ErrAt K F a x ks vs) : ErrAt K F' a x ks vs := by
  obtain ⟨C, d, h1, h2, h3⟩ := e
  exact ⟨C, d, h1, h _ _ h2, h3.imp id fun ⟨dd, q1, q2, q3⟩ => ⟨dd, q1, h _ _ q2, q3⟩⟩
/-- a tuple that has no dict of its own -/
def TupC (F : Hp) (a : Addr) (vs : List V) : Prop := ∃ o : Obj, F a = some (.frz o (.tup vs)) ∧ o.dict = none
section
variable (K : PySem.W.Frag)
mutual
inductive Rep : Wd → V → D → Prop
  | non {w : Wd} : Rep w .non .non
  | bl {w : Wd} (b : Bool) : Rep w (.bl b) (.bl b)
  | int {w : Wd} (i : Int) : Rep w (.int i) (.int i)
  | str {w : Wd} (x : Str) : Rep w (.str x) (.str x)
  | ref {w : Wd} (a : Addr) : Rep w (.ref a) (.ref a)
  | tup {w : Wd} {a : Addr} {vs : List V} {ds : List D} (h : TupC w.F a vs) (t : RepL w vs ds) : Rep w (.ref a) (.tup ds)
  | pr {w : Wd} {a : Addr} {v u : V} {d e : D} (h : SqT K w.F a [v, u]) (r : Rep w v d) (q : Rep w u e) : Rep w (.ref a) (.pr d e)
  | emp {w : Wd} {a : Addr} (h : w.F a = some (.dK [])) : Rep w (.ref a) .emp
  | err {w : Wd} {a : Addr} {x : Str} {ks : List Str} {vs : List V} {ds : List D} (h : ErrAt K w.F a x ks vs) (t : RepL w vs ds) : Rep w (.ref a) (.err x ks ds)
  | lst {w : Wd} {a : Addr} {vs : List V} {ds : List D} (h : SqL K w.F a vs) (t : RepL w vs ds) : Rep w (.ref a) (.lst ds)
  | cell {w : Wd} {a : Addr} {n : Nat} (h : w.ρ[n]? = some a) : Rep w (.ref a) (.cell n)
inductive RepL : Wd → List V → List D → Prop
  | nil {w : Wd} : RepL w [] []
  | cons {w : Wd} {v : V} {d : D} {vs : List V} {ds : List D} (h : Rep w v d) (t : RepL w vs ds) : RepL w (v :: vs) (d :: ds)
end
inductive RepK : Wd → List (Key × V) → List (Key × D) → Prop
  | nil {w : Wd} : RepK w [] []
  | cons {w : Wd} {k : Key} {v : V} {d : D} {vs : List (Key × V)} {ds : List (Key × D)} (h : Rep K w v d) (t : RepK w vs ds) : RepK w ((k, v) :: vs) ((k, d) :: ds)
inductive RepF : Wd → List (Str × V) → List (Str × D) → Prop
  | nil {w : Wd} : RepF w [] []
  | cons {w : Wd} {k : Str} {v : V} {d : D} {vs : List (Str × V)} {ds : List (Str × D)} (h : Rep K w v d) (t : RepF w vs ds) : RepF w ((k, v) :: vs) ((k, d) :: ds)
inductive RepN : Wd → NX → List (NestedKey × D) → Prop
  | nil {w : Wd} : RepN w [] []
  | cons {w : Wd} {q : NestedKey} {b : Addr} {u : Value} {kd : D} {v : V} {d : D} {xs : NX} {ds : List (NestedKey × D)} (hk : nkD kd = some q) (hq : q.depth ≤ 8) (r : Rep K w (.ref b) kd) (ru : RelV v u) (h : Rep K w v d) (t : RepN w xs ds) : RepN w ((q, b, u) :: xs) ((q, d) :: ds)
def CellIs (w : Wd) (H : Hp) (a : Addr) : Cell → Prop
  | .dctN wd kvs => ∃ xs, H a = some (dNO wd a xs) ∧ RepN K w xs kvs
  | .lst ds => ∃ vs, H a = some (.lst vs) ∧ RepL K w vs ds
  | .dct kvs => ∃ vs, H a = some (.dK vs) ∧ RepK K w vs kvs
  | .obj x fs => ∃ C dx vs, PySem.W.nsIn K mainGlobals x = some (some (.ref C)) ∧ H a = some (.ins C dx vs) ∧ RepF K w vs fs
  | .dctL o us kvs => H a = some (.frz o (.dK us)) ∧ RepK K w us kvs
structure RS (w : Wd) (H : Hp) (σ : L2.St) (s : S) : Prop where
  sub : ∀ a o, w.F a = some o → H a = some o
  len : σ.length = s.loc.length
  loc : ∀ (i : Nat) d, s.loc[i]? = some (some d) → ∃ v, σ[i]? = some (some v) ∧ Rep K w v d
  cl : w.ρ.length = s.vh.length
  nd : w.ρ.Nodup
  out : ∀ a ∈ w.ρ, w.F a = none
  cells : ∀ (n : Nat) a c, w.ρ[n]? = some a → s.vh[n]? = some c → CellIs K w H a c
end
section
variable {K : PySem.W.Frag} {w w' : Wd} {H H' : Hp} {σ : L2.St} {s s' : S}
theorem TupC.up {F F' : Hp} (h : ∀ a o, F a = some o → F' a = some o) {a : Addr} {vs : List V} (x : TupC F a vs) : TupC F' a vs := let ⟨o, e, d⟩ := x; ⟨o, h _ _ e, d⟩
theorem TupC.sq {F : Hp} {a : Addr} {vs : List V} (x : TupC F a vs) : SqT K F a vs := let ⟨o, e, _⟩ := x; .inl (.inr ⟨o, e⟩)
theorem sqT_up {F F' : Hp} (h : ∀ a o, F a = some o → F' a = some o) {a : Addr} {vs : List V} (x : SqT K F a vs) : SqT K F' a vs := by
  rcases x with (x | ⟨o, x⟩) | x
  · exact .inl (.inl (h _ _ x))
  · exact .inl (.inr ⟨o, h _ _ x⟩)
  · exact .inr x
theorem sqL_up {F F' : Hp} (h : ∀ a o, F a = some o → F' a = some o) {a : Addr} {vs : List V} (x : SqL K F a vs) : SqL K F' a vs := by
  rcases x with (x | ⟨o, x⟩) | x
  · exact .inl (.inl (h _ _ x))
  · exact .inl (.inr ⟨o, h _ _ x⟩)
  · exact .inr x
mutual
theorem Rep.upW (l : w.le w') : ∀ {v : V} {d : D}, Rep K w v d → Rep K w' v d
  | _, _, .non => .non
  | _, _, .bl b => .bl b
  | _, _, .int i => .int i
  | _, _, .str x => .str x
  | _, _, .ref a => .ref a
  | _, _, .tup h t => .tup (h.up l.2) (RepL.upW l t)
  | _, _, .pr h r q => .pr (sqT_up l.2 h) (Rep.upW l r) (Rep.upW l q)
  | _, _, .emp h => .emp (l.2 _ _ h)
  | _, _, .err h t => .err (h.up l.2) (RepL.upW l t)
  | _, _, .lst h t => .lst (sqL_up l.2 h) (RepL.upW l t)
  | _, _, .cell h => .cell (l.1 _ _ h)
theorem RepL.upW (l : w.le w') : ∀ {vs : List V} {ds : List D}, RepL K w vs ds → RepL K w' vs ds
  | _, _, .nil => .nil
  | _, _, .cons h t => .cons (Rep.upW l h) (RepL.upW l t)
end
theorem RepK.upW (l : w.le w') : ∀ {vs : List (Key × V)} {ds : List (Key × D)}, RepK K w vs ds → RepK K w' vs ds
  | _, _, .nil => .nil
  | _, _, .cons h t => .cons (h.upW l) (RepK.upW l t)
theorem RepF.upW (l : w.le w') : ∀ {vs : List (Str × V)} {ds : List (Str × D)}, RepF K w vs ds → RepF K w' vs ds
  | _, _, .nil => .nil
  | _, _, .cons h t => .cons (h.upW l) (RepF.upW l t)
theorem RepN.upW (l : w.le w') : ∀ {xs : NX} {ds : List (NestedKey × D)}, RepN K w xs ds → RepN K w' xs ds
  | _, _, .nil => .nil
  | _, _, .cons hk hq r ru h t => .cons hk hq (r.upW l) ru (h.upW l) (RepN.upW l t)
theorem RepL.length : ∀ {vs : List V} {ds : List D}, RepL K w vs ds → vs.length = ds.length
  | _, _, .nil => rfl
  | _, _, .cons _ t => by simp only [List.length_cons]; rw [RepL.length t]
theorem RepL.get : ∀ {vs : List V} {ds : List D} {i : Nat} {d : D}, RepL K w vs ds → ds[i]? = some d → ∃ v, vs[i]? = some v ∧ Rep K w v d
  | _, _, i, d, .nil, e => by simp at e
  | _, _, 0, d, .cons h t, e => by simp at e; subst e; exact ⟨_, rfl, h⟩
  | _, _, i + 1, d, .cons h t, e => by
    obtain ⟨v, h1, h2⟩ := RepL.get (i := i) (d := d) t (by simpa using e)
    exact ⟨v, by simpa using h1, h2⟩
theorem RepL.append : ∀ {vs us : List V} {ds es : List D}, RepL K w vs ds → RepL K w us es → RepL K w (vs ++ us) (ds ++ es)
  | _, _, _, _, .nil, s => s
  | _, _, _, _, .cons r t, s => .cons r (RepL.append t s)
theorem RepL.take : ∀ {vs : List V} {ds : List D} (n : Nat), RepL K w vs ds → RepL K w (vs.take n) (ds.take n)
  | _, _, 0, _ => .nil
  | _, _, _ + 1, .nil => .nil
  | _, _, n + 1, .cons r t => .cons r (RepL.take n t)
theorem RepL.drop : ∀ {vs : List V} {ds : List D} (n : Nat), RepL K w vs ds → RepL K w (vs.drop n) (ds.drop n)
  | _, _, 0, r => r
  | _, _, _ + 1, .nil => .nil
  | _, _, n + 1, .cons _ t => RepL.drop n t
theorem RepL.set {v : V} {d : D} (r : Rep K w v d) : ∀ {vs : List V} {ds : List D} (i : Nat), RepL K w vs ds → RepL K w (vs.set i v) (ds.set i d)
  | _, _, _, .nil => .nil
  | _, _, 0, .cons _ t => .cons r t
  | _, _, i + 1, .cons q t => .cons q (RepL.set r i t)
theorem CellIs.upW (l : w.le w') {a : Addr} {c : Cell} (e : H' a = H a) (h : CellIs K w H a c) : CellIs K w' H' a c := by
  cases c with
  | lst ds => obtain ⟨vs, h1, h2⟩ := h; exact ⟨vs, by rw [e]; exact h1, h2.upW l⟩
  | dct kvs => obtain ⟨vs, h1, h2⟩ := h; exact ⟨vs, by rw [e]; exact h1, h2.upW l⟩
  | obj x fs => obtain ⟨C, dx, vs, h0, h1, h2⟩ := h; exact ⟨C, dx, vs, h0, by rw [e]; exact h1, h2.upW l⟩
  | dctL o us kvs => obtain ⟨h1, h2⟩ := h; exact ⟨by rw [e]; exact h1, h2.upW l⟩
  | dctN wd kvs => obtain ⟨xs, h1, h2⟩ := h; exact ⟨xs, by rw [e]; exact h1, h2.upW l⟩
theorem CellIs.there {a : Addr} {c : Cell} (h : CellIs K w H a c) : ∃ o, H a = some o := by
  cases c with
  | lst ds => obtain ⟨vs, h1, _⟩ := h; exact ⟨_, h1⟩
  | dct kvs => obtain ⟨vs, h1, _⟩ := h; exact ⟨_, h1⟩
  | obj x fs => obtain ⟨C, dx, vs, _, h1, _⟩ := h; exact ⟨_, h1⟩
  | dctL o us kvs => exact ⟨_, h.1⟩
  | dctN wd kvs => obtain ⟨xs, h1, _⟩ := h; exact ⟨_, h1⟩
theorem RS.cellOf (R : RS K w H σ s) {n : Nat} {a : Addr} (h : w.ρ[n]? = some a) : ∃ c, s.vh[n]? = some c ∧ CellIs K w H a c := by
  have hn : n < w.ρ.length := (List.getElem?_eq_some_iff.mp h).1
  have hm : n < s.vh.length := by rw [← R.cl]; exact hn
  exact ⟨s.vh[n], List.getElem?_eq_getElem hm, R.cells n a _ h (List.getElem?_eq_getElem hm)⟩
theorem RS.addrOf (R : RS K w H σ s) {n : Nat} {c : Cell} (h : s.vh[n]? = some c) : ∃ a, w.ρ[n]? = some a ∧ CellIs K w H a c := by
  have hn : n < s.vh.length := (List.getElem?_eq_some_iff.mp h).1
  have hm : n < w.ρ.length := by rw [R.cl]; exact hn
  exact ⟨w.ρ[n], List.getElem?_eq_getElem hm, R.cells n _ _ (List.getElem?_eq_getElem hm) h⟩
theorem RS.fresh (R : RS K w H σ s) {p : Addr} (hp : H p = none) : w.F p = none ∧ p ∉ w.ρ := by
  refine ⟨?_, fun hm => ?_⟩
  · cases q : w.F p with
    | none => rfl
    | some o => rw [R.sub p o q] at hp; cases hp
  · obtain ⟨n, hn, e⟩ := List.mem_iff_getElem.mp hm
    obtain ⟨c, _, hc⟩ := R.cellOf (n := n) (a := p) (by rw [List.getElem?_eq_getElem hn, e])
    obtain ⟨o, ho⟩ := hc.there
    rw [ho] at hp; cases hp
theorem RS.ne (R : RS K w H σ s) {p a : Addr} {n : Nat} (hp : H p = none) (h : w.ρ[n]? = some a) : a ≠ p := by
  intro e; subst e
  exact (R.fresh hp).2 (List.mem_of_getElem? h)
/-- something new is laid, that will not change -/
def Wd.frz (w : Wd) (p : Addr) (o : HO) : Wd := ⟨w.ρ, upd w.F p o⟩
theorem Wd.frz_le {p : Addr} {o : HO} (h : w.F p = none) : w.le (w.frz p o) := ⟨fun _ _ e => e, fun a q e => by
  show upd w.F p o a = some q
  rw [upd_ne (ne_of_none e h)]; exact e⟩
theorem RS.lay (R : RS K w H σ s) {p : Addr} {o : HO} (hp : H p = none) : RS K (w.frz p o) (upd H p o) σ s := by
  have f := R.fresh hp
  have le := Wd.frz_le (o := o) f.1
  refine ⟨fun a q e => ?_, R.len, fun i d e => ?_, R.cl, R.nd, fun a ha => ?_, fun n a c e1 e2 => ?_⟩
  · have e : upd w.F p o a = some q := e
    by_cases h : a = p
    · subst h; rw [upd_same] at e ⊢; exact e
    · rw [upd_ne h] at e ⊢; exact R.sub a q e
  · obtain ⟨v, h1, h2⟩ := R.loc i d e
    exact ⟨v, h1, h2.upW le⟩
  · show upd w.F p o a = none
    rw [upd_ne (fun (e : a = p) => f.2 (e ▸ ha))]; exact R.out a ha
  · exact (R.cells n a c e1 e2).upW le (upd_ne (R.ne hp e1))
/-- something new is laid that stands by itself (a cell) -/
def Wd.own (w : Wd) (p : Addr) : Wd := ⟨w.ρ ++ [p], w.F⟩
theorem Wd.own_le {p : Addr} : w.le (w.own p) := ⟨fun n a e => by
  show (w.ρ ++ [p])[n]? = some a
  rw [List.getElem?_append_left (List.getElem?_eq_some_iff.mp e).1]; exact e, fun _ _ e => e⟩
/-- a cell changes -/
theorem RS.setCell (R : RS K w H σ s) {n : Nat} {a : Addr} {c : Cell} {o : HO} (h : w.ρ[n]? = some a) (hc : CellIs K w (upd H a o) a c) : RS K w (upd H a o) σ { s with vh := s.vh.set n c } := by
  have fa : w.F a = none := R.out a (List.mem_of_getElem? h)
  refine ⟨fun b q e => ?_, R.len, R.loc, by rw [List.length_set]; exact R.cl, R.nd, R.out, fun m b c' e1 e2 => ?_⟩
  · rw [upd_ne (ne_of_none e fa)]; exact R.sub b q e
  · by_cases hm : m = n
    · subst hm
      rw [h] at e1; cases e1
      have hl : m < s.vh.length := by rw [← R.cl]; exact (List.getElem?_eq_some_iff.mp h).1
      rw [List.getElem?_set_self hl] at e2; cases e2
      exact hc
    · rw [List.getElem?_set_ne (Ne.symm hm)] at e2
      have hb : b ≠ a := fun e => by
        subst e
        have h1 := List.getElem?_eq_some_iff.mp e1
        have h2 := List.getElem?_eq_some_iff.mp h
        exact hm ((List.getElem_inj R.nd).mp (h1.2.trans h2.2.symm))
      exact (R.cells m b c' e1 e2).upW (Wd.le.refl w) (upd_ne hb)
theorem RS.set (R : RS K w H σ s) {i : Nat} {v : V} {d : D} (r : Rep K w v d) : RS K w H (σ.set i (some v)) { s with loc := s.loc.set i (some d) } := by
  refine ⟨R.sub, by rw [List.length_set, List.length_set]; exact R.len, fun j e h => ?_, R.cl, R.nd, R.out, R.cells⟩
  by_cases hj : j = i
  · subst hj
    have hl : j < s.loc.length := by
      have := (List.getElem?_eq_some_iff.mp h).1
      rw [List.length_set] at this; exact this
    rw [List.getElem?_set_self hl] at h; cases h
    exact ⟨v, List.getElem?_set_self (by rw [R.len]; exact hl), r⟩
  · rw [List.getElem?_set_ne (Ne.symm hj)] at h ⊢
    exact R.loc j e h
/-- other slots, the same heap -/
theorem RS.other {σ' : L2.St} {l : List (Option D)} (R : RS K w H σ s) (hl : σ'.length = l.length) (h : ∀ (i : Nat) d, l[i]? = some (some d) → ∃ v, σ'[i]? = some (some v) ∧ Rep K w v d) : RS K w H σ' { s with loc := l } :=
  ⟨R.sub, hl, h, R.cl, R.nd, R.out, R.cells⟩
end

/-! ### from one state to a later one -/
structure Le (w : Wd) (H : Hp) (w' : Wd) (H' : Hp) : Prop where
  le : w.le w'
  keep : ∀ a o, H a = some o → a ∉ w.ρ → H' a = some o
  newρ : ∀ a, a ∈ w'.ρ → a ∈ w.ρ ∨ H a = none
  newF : ∀ a o, w'.F a = some o → w.F a = some o ∨ H a = none ∨ a ∈ w.ρ
section
variable {K : PySem.W.Frag} {w w' w1 w2 : Wd} {H H' H1 H2 : Hp} {σ : L2.St} {s : S}
theorem Le.refl (w : Wd) (H : Hp) : Le w H w H := ⟨Wd.le.refl w, fun _ _ h _ => h, fun _ h => .inl h, fun _ _ h => .inl h⟩
theorem mem_up (l : w.le w') {a : Addr} (h : a ∈ w.ρ) : a ∈ w'.ρ := by
  obtain ⟨n, hn, e⟩ := List.mem_iff_getElem.mp h
  exact List.mem_of_getElem? (l.1 n a (by rw [List.getElem?_eq_getElem hn, e]))
theorem Le.back (l : Le w H w1 H1) {a : Addr} (h : H1 a = none) : H a = none ∨ a ∈ w.ρ := by
  cases e : H a with
  | none => exact .inl rfl
  | some o =>
    by_cases ha : a ∈ w.ρ
    · exact .inr ha
    · rw [l.keep a o e ha] at h; cases h
theorem Le.trans (x : Le w H w1 H1) (y : Le w1 H1 w2 H2) : Le w H w2 H2 := by
  refine ⟨x.le.trans y.le, fun a o e h => ?_, fun a h => ?_, fun a o h => ?_⟩
  · refine y.keep a o (x.keep a o e h) fun h1 => ?_
    rcases x.newρ a h1 with h2 | h2
    · exact h h2
    · rw [e] at h2; cases h2
  · rcases y.newρ a h with h1 | h1
    · exact x.newρ a h1
    · rcases x.back h1 with h2 | h2
      · exact .inr h2
      · exact .inl h2
  · rcases y.newF a o h with h1 | h1 | h1
    · exact x.newF a o h1
    · rcases x.back h1 with h2 | h2
      · exact .inr (.inl h2)
      · exact .inr (.inr h2)
    · rcases x.newρ a h1 with h2 | h2
      · exact .inr (.inr h2)
      · exact .inr (.inl h2)
theorem Rep.up (l : Le w H w' H') {v : V} {d : D} (h : Rep K w v d) : Rep K w' v d := h.upW l.le
theorem RepL.up (l : Le w H w' H') {v : List V} {d : List D} (h : RepL K w v d) : RepL K w' v d := h.upW l.le
theorem RepK.up (l : Le w H w' H') {v : List (Key × V)} {d : List (Key × D)} (h : RepK K w v d) : RepK K w' v d := h.upW l.le
theorem Le.laid {p : Addr} {o : HO} (hp : H p = none) : Le w H w (upd H p o) := ⟨Wd.le.refl w, fun a q e _ => by rw [upd_ne (ne_of_none e hp)]; exact e, fun _ h => .inl h, fun _ _ h => .inl h⟩
theorem Le.lay {p : Addr} {o : HO} (hp : H p = none) (hf : w.F p = none) : Le w H (w.frz p o) (upd H p o) := ⟨Wd.frz_le hf, fun a q e _ => by rw [upd_ne (ne_of_none e hp)]; exact e, fun _ h => .inl h, fun a q h => by
  by_cases e : a = p
  · subst e; exact .inr (.inl hp)
  · have h : upd w.F p o a = some q := h
    rw [upd_ne e] at h; exact .inl h⟩
/-- a tracked thing that was new is frozen | becomes a cell -/
theorem Le.frz {p : Addr} {o : HO} (l : Le w H w1 H1) (hp : H p = none) (hf : w1.F p = none) : Le w H (w1.frz p o) H1 := ⟨l.le.trans (Wd.frz_le hf), l.keep, l.newρ, fun a q h => by
  by_cases e : a = p
  · subst e; exact .inr (.inl hp)
  · have h : upd w1.F p o a = some q := h
    rw [upd_ne e] at h; exact l.newF a q h⟩
theorem Le.own {p : Addr} (l : Le w H w1 H1) (hp : H p = none) : Le w H (w1.own p) H1 := ⟨l.le.trans Wd.own_le, l.keep, fun a h => by
  rcases List.mem_append.mp h with h | h
  · exact l.newρ a h
  · rw [List.mem_singleton] at h; subst h; exact .inr hp, l.newF⟩
theorem Le.write {a : Addr} {o : HO} (h : a ∈ w.ρ) : Le w H w (upd H a o) := ⟨Wd.le.refl w, fun b q e hb => by
  have hne : b ≠ a := fun (z : b = a) => hb (z ▸ h)
  rw [upd_ne hne]; exact e, fun _ h => .inl h, fun _ _ h => .inl h⟩
end
/-! ### what is wanted behind a step -/
abbrev WX := Ex → Wd → Hp → L2.St → Prop
def W0 : WX := fun _ _ _ _ => False
/-- how a result is told: by the heap ahead, the state behind -/
structure Pr (ν α : Type) where
  p : Hp → Wd → Hp → ν → α → Prop
  mono : ∀ (w : Wd) H w1 H1 w' H' v a, Le w H w1 H1 → w1.le w' → p H1 w' H' v a → p H w' H' v a
section
variable (K : PySem.W.Frag) (W : WX)
def Post {α ν : Type} (P : Pr ν α) (w : Wd) (H : Hp) (σ : L2.St) (r : Res α) (Q : ν → Hp → Prop) : Prop := match r with
  | .ok a s => ∀ w' H' v, Le w H w' H' → RS K w' H' σ s → P.p H w' H' v a → Q v H'
  | .exc e s => ∀ w' H', Le w H w' H' → RS K w' H' σ s → W e w' H' σ
  | .bad => False
/-- the reading t does what f says -/
def Fol {α ν : Type} (P : Pr ν α) (t : L2.St → Hp → (ν → Hp → Prop) → Prop) (f : M α) : Prop :=
  ∀ w H σ s Q, RS K w H σ s → Post K W P w H σ (f s) Q → t σ H Q
@[reducible] def pD : Pr V D := ⟨fun _ w _ v d => Rep K w v d, fun _ _ _ _ _ _ _ _ _ _ h => h⟩
@[reducible] def pL : Pr (List V) (List D) := ⟨fun _ w _ v d => RepL K w v d, fun _ _ _ _ _ _ _ _ _ _ h => h⟩
@[reducible] def pB : Pr Bool Bool := ⟨fun _ _ _ a b => a = b, fun _ _ _ _ _ _ _ _ _ _ h => h⟩
/-- a new object that nothing else knows -/
structure New (H : Hp) (w : Wd) (H' : Hp) (p : Addr) (c : Cell) : Prop where
  f : w.F p = none
  r : p ∉ w.ρ
  c : CellIs K w H' p c
  n : H p = none
@[reducible] def pN : Pr V Cell := ⟨fun H w H' v c => ∃ p, v = .ref p ∧ New K H w H' p c, fun w H w1 H1 w' H' v a l l' ⟨p, e, h⟩ => ⟨p, e, h.f, h.r, h.c, by
  rcases l.back h.n with z | z
  · exact z
  · exact (h.r (mem_up (l.le.trans l') z)).elim⟩⟩
end
section
variable {K : PySem.W.Frag} {W : WX} {α β ν μ : Type} {P : Pr ν α} {P2 : Pr μ β} {w w1 : Wd} {H H1 : Hp} {σ : L2.St} {s : S}
theorem Post.up {r : Res α} {Q : ν → Hp → Prop} (l : Le w H w1 H1) (h : Post K W P w H σ r Q) : Post K W P w1 H1 σ r Q := by
  cases r with
  | ok a s => exact fun w' H' v l' R p => h w' H' v (l.trans l') R (P.mono w H w1 H1 w' H' v a l l'.le p)
  | exc e s => exact fun w' H' l' R => h w' H' (l.trans l') R
  | bad => exact h
theorem Post.bnd {m : M α} {k : α → M β} {Q : ν → Hp → Prop} {Q2 : μ → Hp → Prop} (h : Post K W P2 w H σ (bnd m k s) Q2)
    (f : ∀ a s' w' H' v, Le w H w' H' → RS K w' H' σ s' → P.p H w' H' v a → Post K W P2 w' H' σ (k a s') Q2 → Q v H') : Post K W P w H σ (m s) Q := by
  unfold Fx.bnd at h
  cases e : m s with
  | ok a s' => rw [e] at h; exact fun w' H' v l R p => f a s' w' H' v l R p (h.up l)
  | exc x s' => rw [e] at h; exact h
  | bad => rw [e] at h; exact h
theorem Fol.bnd {t : L2.St → Hp → (ν → Hp → Prop) → Prop} {f : M α} {k : α → M β} {Q2 : μ → Hp → Prop} {Q : ν → Hp → Prop} (h : Fol K W P t f) (R : RS K w H σ s) (p : Post K W P2 w H σ (Fx.bnd f k s) Q2)
    (g : ∀ a s' w' H' v, Le w H w' H' → RS K w' H' σ s' → P.p H w' H' v a → Post K W P2 w' H' σ (k a s') Q2 → Q v H') : t σ H Q := h w H σ s Q R (p.bnd g)
end
end Fx

namespace Fx
open PySem PySem.Spec PyProof.Rows L2
/-! ### reading data -/
def lstOf (s : S) : D → Option (List D)
  | .lst ds => some ds
  | .cell n => match s.vh[n]? with
    | some (.lst ds) => some ds
    | _ => none
  | _ => none
def tupOf : D → Option (List D)
  | .tup ds => some ds
  | _ => none
def dctOf (s : S) : D → Option (List (Key × D))
  | .cell n => match s.vh[n]? with
    | some (.dct ds) => some ds
    | _ => none
  | _ => none
section
variable {K : PySem.W.Frag} {W : WX} {w : Wd} {H : Hp} {σ : L2.St} {s : S} {v : V} {d : D}
theorem RS.list (R : RS K w H σ s) (r : Rep K w v d) {ds : List D} (h : lstOf s d = some ds) : ∃ a vs, v = .ref a ∧ SqL K H a vs ∧ RepL K w vs ds := by
  cases r with
  | lst h1 t =>
    cases h
    exact ⟨_, _, rfl, sqL_up R.sub h1, t⟩
  | cell h1 =>
    obtain ⟨c, e, hc⟩ := R.cellOf h1
    unfold lstOf at h
    simp only [e] at h
    cases c with
    | lst xs => simp at h; subst h; obtain ⟨vs, h2, h3⟩ := hc; exact ⟨_, _, rfl, SqL.of h2, h3⟩
    | dct _ => simp at h
    | obj _ _ => simp at h
    | dctL _ _ _ => simp at h
    | dctN _ _ => simp at h
  | _ => simp [lstOf] at h
theorem RS.tuple (R : RS K w H σ s) (r : Rep K w v d) {ds : List D} (h : tupOf d = some ds) : ∃ a vs, v = .ref a ∧ SqT K H a vs ∧ RepL K w vs ds := by
  cases r with
  | tup h1 t =>
    cases h
    exact ⟨_, _, rfl, sqT_up R.sub h1.sq, t⟩
  | _ => simp [tupOf] at h
theorem RS.dict (R : RS K w H σ s) (r : Rep K w v d) {ds : List (Key × D)} (h : dctOf s d = some ds) : ∃ a vs, v = .ref a ∧ H a = some (.dK vs) ∧ RepK K w vs ds := by
  cases r with
  | cell h1 =>
    obtain ⟨c, e, hc⟩ := R.cellOf h1
    unfold dctOf at h
    simp only [e] at h
    cases c with
    | lst xs => simp at h
    | dct _ => simp at h; subst h; obtain ⟨vs, h2, h3⟩ := hc; exact ⟨_, _, rfl, h2, h3⟩
    | obj _ _ => simp at h
    | dctL _ _ _ => simp at h
    | dctN _ _ => simp at h
  | _ => simp [dctOf] at h
/-- a new list that will not change -/
theorem RS.newL (R : RS K w H σ s) {p : Addr} {vs : List V} {ds : List D} (hp : H p = none) (r : RepL K w vs ds) :
    Le w H (w.frz p (.lst vs)) (upd H p (.lst vs)) ∧ RS K (w.frz p (.lst vs)) (upd H p (.lst vs)) σ s ∧ Rep K (w.frz p (.lst vs)) (.ref p) (.lst ds) := by
  have l := Le.lay (o := .lst vs) hp (R.fresh hp).1
  exact ⟨l, R.lay hp, .lst (SqL.of upd_same) (r.up l)⟩
theorem RS.newT (R : RS K w H σ s) {p : Addr} {vs : List V} {ds : List D} {o : Obj} (hp : H p = none) (r : RepL K w vs ds) (ho : o.dict = none) :
    Le w H (w.frz p (.frz o (.tup vs))) (upd H p (.frz o (.tup vs))) ∧ RS K (w.frz p (.frz o (.tup vs))) (upd H p (.frz o (.tup vs))) σ s ∧ Rep K (w.frz p (.frz o (.tup vs))) (.ref p) (.tup ds) := by
  have l := Le.lay (o := .frz o (.tup vs)) hp (R.fresh hp).1
  exact ⟨l, R.lay hp, .tup ⟨o, upd_same, ho⟩ (r.up l)⟩
/-- a new object, its use still open -/
theorem RS.laid (R : RS K w H σ s) {p : Addr} {o : HO} (hp : H p = none) : RS K w (upd H p o) σ s := by
  have f := R.fresh hp
  refine ⟨fun a q e => ?_, R.len, R.loc, R.cl, R.nd, R.out, fun n a c e1 e2 => (R.cells n a c e1 e2).upW (Wd.le.refl w) (upd_ne (R.ne hp e1))⟩
  rw [upd_ne (ne_of_none e f.1)]; exact R.sub a q e
end
/-! ### the judgements -/
variable {X : Cx} {W : WX}
def DE (X : Cx) (W : WX) (e : Expr) (f : M D) : Prop := ∃ t, PE X e t ∧ Fol X.K W (pD X.K) t f
def DN (X : Cx) (W : WX) (e : Expr) (f : M Cell) : Prop := ∃ t, PE X e t ∧ Fol X.K W (pN X.K) t f
def DT (X : Cx) (W : WX) (e : Expr) (f : M Bool) : Prop := ∃ t, PT X e t ∧ Fol X.K W pB t f
def DA (X : Cx) (W : WX) (es : List Expr) (f : M (List D)) : Prop := ∃ t, PA X es t ∧ Fol X.K W (pL X.K) t f
section
variable {K : PySem.W.Frag} {α ν : Type} {P : Pr ν α} {w : Wd} {σ : L2.St} {s : S} {H : Hp}
theorem Post.here {a : α} {v : ν} {Q : ν → Hp → Prop} (h : Post K W P w H σ (ret a s) Q) (R : RS K w H σ s) (p : P.p H w H v a) : Q v H := h w H v (Le.refl w H) R p
end
/-! ### names, constants -/
def getL (i : Nat) : M D := fun s => match s.loc[i]? with
  | some (some d) => .ok d s
  | _ => .bad
theorem de_var {i : Nat} {e : Expr} (h : PE X e (tVar i)) : DE X W e (getL i) := by
  refine ⟨_, h, fun w H σ s Q R p => ?_⟩
  unfold getL at p
  split at p
  · next d hd =>
    obtain ⟨v, h1, h2⟩ := R.loc i d hd
    exact ⟨v, h1, Post.here p R h2⟩
  · exact p.elim
theorem de_v (i : Nat) {x : Str} {pos : Pos} (hN : X.N[i]? = some x := by rfl) (hv : Vis X.env.scope x := by first | exact Or.inl rfl | exact Or.inr (Or.inl rfl) | exact Or.inr (Or.inr rfl)) (hd : (x == ("__debug__" : Str)) = false := by decide)
    (hcd : (x == ("__classdict__" : Str)) = false := by decide) : DE X W (.Name x pos) (getL i) := de_var (pe_var hN hv hd hcd)
theorem de_c {e : Expr} {v : V} {d : D} (h : PE X e (tC v)) (r : ∀ w, Rep X.K w v d) : DE X W e (ret d) :=
  ⟨_, h, fun w H σ s Q R p => Post.here p R (r w)⟩
theorem de_int {i j pos} : DE X W (.Constant (.int i) j pos) (ret (.int i)) := de_c pe_int fun _ => .int i
theorem de_bl {b j pos} : DE X W (.Constant (.bool b) j pos) (ret (.bl b)) := de_c pe_bl fun _ => .bl b
theorem de_non {j pos} : DE X W (.Constant .none j pos) (ret .non) := de_c pe_non fun _ => .non
theorem de_str {x j pos} : DE X W (.Constant (.str x) j pos) (ret (.str x)) := de_c pe_str fun _ => .str x
/-! ### operators -/
def ROp (X : Cx) (r : R2) (g : D → D → M D) : Prop := ∀ (W : WX) w H σ s x y d e Q, RS X.K w H σ s → Rep X.K w x d → Rep X.K w y e → Post X.K W (pD X.K) w H σ (g d e s) Q → r x y H Q
theorem de_op {op : Operator} {r : R2} {g : D → D → M D} {a b : Expr} {fa fb : M D} {pos : Pos} (ho : OpR X (binaryOp op) r) (hr : ROp X r g) (ha : DE X W a fa) (hb : DE X W b fb) :
    DE X W (.BinOp a op b pos) (bnd fa fun d => bnd fb fun e => g d e) := by
  obtain ⟨ta, pa, ra⟩ := ha
  obtain ⟨tb, pb, rb⟩ := hb
  refine ⟨tOp r ta tb, pe_op ho pa pb, fun w H σ s Q R p => ?_⟩
  refine ra.bnd R p fun d s1 w1 H1 v1 l1 R1 r1 p1 => ?_
  refine rb.bnd R1 p1 fun e s2 w2 H2 v2 l2 R2 r2 p2 => ?_
  exact hr W w2 H2 σ s2 v1 v2 d e Q R2 (Rep.up l2 r1) r2 p2
theorem de_cmp {op : CmpOp} {r : R2} {g : D → D → M D} {a b : Expr} {fa fb : M D} {pos : Pos} (ho : OpR X (compareOp op) r) (hr : ROp X r g) (ha : DE X W a fa) (hb : DE X W b fb) (hm : behindInMarks op b = false := by first | exact nobehind _ (by decide) (by decide) | rfl) :
    DE X W (.Compare a [op] [b] pos) (bnd fa fun d => bnd fb fun e => g d e) := by
  obtain ⟨ta, pa, ra⟩ := ha
  obtain ⟨tb, pb, rb⟩ := hb
  refine ⟨tOp r ta tb, pe_cmpR ho pa pb hm, fun w H σ s Q R p => ?_⟩
  refine ra.bnd R p fun d s1 w1 H1 v1 l1 R1 r1 p1 => ?_
  refine rb.bnd R1 p1 fun e s2 w2 H2 v2 l2 R2 r2 p2 => ?_
  exact hr W w2 H2 σ s2 v1 v2 d e Q R2 (Rep.up l2 r1) r2 p2
def asB : D → M Bool
  | .bl b => ret b
  | _ => fail
theorem asB_fol {K : PySem.W.Frag} {w : Wd} {H : Hp} {σ : L2.St} {s : S} {v : V} {d : D} {Q : Bool → Hp → Prop} (R : RS K w H σ s) (r : Rep K w v d) (p : Post K W pB w H σ (asB d s) Q) : ∃ k, v = .bl k ∧ Q k H := by
  cases r with
  | bl b => exact ⟨b, rfl, Post.here p R rfl⟩
  | _ => exact p.elim
theorem dt_cmp {op : CmpOp} {r : R2} {g : D → D → M D} {a b : Expr} {fa fb : M D} {pos : Pos} (ho : OpR X (compareOp op) r) (hr : ROp X r g) (ha : DE X W a fa) (hb : DE X W b fb) (hm : behindInMarks op b = false := by first | exact nobehind _ (by decide) (by decide) | rfl) :
    DT X W (.Compare a [op] [b] pos) (bnd (bnd fa fun d => bnd fb fun e => g d e) asB) := by
  obtain ⟨ta, pa, ra⟩ := ha
  obtain ⟨tb, pb, rb⟩ := hb
  have h := de_cmp (pos := pos) ho hr ⟨ta, pa, ra⟩ ⟨tb, pb, rb⟩ hm
  refine ⟨tTest (tOp r ta tb), pt_cmpR ho pa pb hm, fun w H σ s Q R p => ?_⟩
  have key : Fol X.K W (pD X.K) (tOp r ta tb) (bnd fa fun d => bnd fb fun e => g d e) := fun w H σ s Q R p => by
    refine ra.bnd R p fun d s1 w1 H1 v1 l1 R1 r1 p1 => ?_
    refine rb.bnd R1 p1 fun e s2 w2 H2 v2 l2 R2 r2 p2 => ?_
    exact hr W w2 H2 σ s2 v1 v2 d e Q R2 (Rep.up l2 r1) r2 p2
  exact key.bnd R p fun d s1 w1 H1 v1 l1 R1 r1 p1 => asB_fol R1 r1 p1
/-- an expression that gives True or False, as a test -/
theorem dt_val {e : Expr} {f : M D} (h : DE X W e f) (he : ∀ whole, isTrue e X.env whole = (do let v ← whole; standAt e.pos; holding [v] (truthy v)) := by intro _; rfl) : DT X W e (bnd f asB) := by
  obtain ⟨t, p, r⟩ := h
  exact ⟨tB t, pt_val p he, fun w H σ s Q R p => r.bnd R p fun d s1 w1 H1 v1 l1 R1 r1 p1 => asB_fol R1 r1 p1⟩
/-! ints -/
def i2 (g : Int → Int → D) : D → D → M D
  | .int i, .int j => ret (g i j)
  | _, _ => fail
def i2c (c : Int → Int → Bool) (g : Int → Int → D) : D → D → M D
  | .int i, .int j => if c i j = true then ret (g i j) else fail
  | _, _ => fail
theorem rop_i2 {g : Int → Int → D} {g' : Int → Int → V} (h : ∀ w i j, Rep X.K w (g' i j) (g i j)) : ROp X (rI0 g') (i2 g) := fun W w H σ s x y d e Q R rx ry p => by
  cases rx with
  | int i =>
    cases ry with
    | int j => exact ⟨i, j, rfl, rfl, Post.here p R (h w i j)⟩
    | _ => exact p.elim
  | _ => exact p.elim
theorem rop_i2c {C : Int → Int → Prop} {c : Int → Int → Bool} {g : Int → Int → D} {g' : Int → Int → V} (hc : ∀ i j, c i j = true → C i j) (h : ∀ w i j, Rep X.K w (g' i j) (g i j)) : ROp X (rI C g') (i2c c g) := fun W w H σ s x y d e Q R rx ry p => by
  cases rx with
  | int i =>
    cases ry with
    | int j =>
      unfold i2c at p
      dsimp only at p
      split at p
      · next k => exact ⟨i, j, rfl, rfl, hc i j k, Post.here p R (h w i j)⟩
      · exact p.elim
    | _ => exact p.elim
  | _ => exact p.elim
theorem ROp.or {r1 r2 : R2} {g : D → D → M D} {g1 g2 : D → D → M D} (h1 : ROp X r1 g1) (h2 : ROp X r2 g2) (h : ∀ d e, g d e = g1 d e ∨ g d e = g2 d e) : ROp X (fun x y H Q => r1 x y H Q ∨ r2 x y H Q) g := fun W w H σ s x y d e Q R rx ry p => by
  rcases h d e with q | q
  · rw [q] at p; exact .inl (h1 W w H σ s x y d e Q R rx ry p)
  · rw [q] at p; exact .inr (h2 W w H σ s x y d e Q R rx ry p)
theorem opr_or {f : Value → Value → Sem Value} {r1 r2 : R2} (h1 : OpR X f r1) (h2 : OpR X f r2) : OpR X f (fun x y H Q => r1 x y H Q ∨ r2 x y H Q) := by
  intro pins s σ H x y v u Q I rx ry h
  rcases h with h | h
  · exact h1 pins s σ H x y v u Q I rx ry h
  · exact h2 pins s σ H x y v u Q I rx ry h
/-- * of two factors of together less than a hundred million bits -/
def CMulX (i j : Int) : Prop := i.natAbs.log2 + j.natAbs.log2 < 100000000
theorem CMulX.fits {i j : Int} (h : CMulX i j) : IntMulOk i j := by
  have b : ∀ x : Int, Builtin.Int.intBits x ≤ x.natAbs.log2 + 1 := fun x => by
    unfold Builtin.Int.intBits
    split <;> omega
  have b1 := b i
  have b2 := b j
  have h3 : i.natAbs.log2 + j.natAbs.log2 < 100000000 := h
  have line : bitsLine = 134217728 := by decide
  unfold IntMulOk
  intro z
  rw [Bool.and_eq_true] at z
  have y := z.2
  unfold Builtin.Int.intTooBig at y
  have x := of_decide_eq_true y
  rw [line] at x
  omega
theorem op_mulX : OpR X (binaryOp .Mult) (rI CMulX fun i j => .int (i * j)) := opI fun _ _ _ _ _ _ _ hc q => mul_int q hc.fits
def subM : D → D → M D := i2 fun i j => .int (i - j)
def mulM : D → D → M D := i2c (fun i j => decide (i.natAbs.log2 + j.natAbs.log2 < 100000000)) fun i j => .int (i * j)
def divM : D → D → M D := i2c (fun _ j => decide (0 < j) && decide (j.natAbs.log2 < 9000)) fun i j => .int (i / j)
def modM : D → D → M D := i2c (fun _ j => decide (0 < j)) fun i j => .int (i % j)
def powM : D → D → M D := i2c (fun i j => decide (0 ≤ j) && (decide (j ≤ 1000000) && decide (i.natAbs < 2 ^ 64))) fun i j => .int (i ^ j.toNat)
theorem rop_sub : ROp X (rI0 fun i j => .int (i - j)) subM := rop_i2 fun _ _ _ => .int _
theorem rop_mul : ROp X (rI CMulX fun i j => .int (i * j)) mulM := rop_i2c (fun i j h => (of_decide_eq_true h : i.natAbs.log2 + j.natAbs.log2 < 100000000)) fun _ _ _ => .int _
theorem rop_div : ROp X (rI CDivW fun i j => .int (i / j)) divM := rop_i2c (fun i j h => by
  rw [Bool.and_eq_true, decide_eq_true_eq, decide_eq_true_eq] at h; exact h) fun _ _ _ => .int _
theorem rop_mod : ROp X (rI (fun _ j => 0 < j) fun i j => .int (i % j)) modM := rop_i2c (fun i j h => of_decide_eq_true h) fun _ _ _ => .int _
theorem rop_pow : ROp X (rI CPow fun i j => .int (i ^ j.toNat)) powM := rop_i2c (fun i j h => by
  rw [Bool.and_eq_true, Bool.and_eq_true, decide_eq_true_eq, decide_eq_true_eq, decide_eq_true_eq] at h; exact h) fun _ _ _ => .int _
section
variable {a b : Expr} {fa fb : M D} {pos : Pos}
theorem de_sub (ha : DE X W a fa) (hb : DE X W b fb) : DE X W (.BinOp a .Sub b pos) (bnd fa fun d => bnd fb fun e => subM d e) := de_op op_sub rop_sub ha hb
theorem de_mul (ha : DE X W a fa) (hb : DE X W b fb) : DE X W (.BinOp a .Mult b pos) (bnd fa fun d => bnd fb fun e => mulM d e) := de_op op_mulX rop_mul ha hb
theorem de_div (ha : DE X W a fa) (hb : DE X W b fb) : DE X W (.BinOp a .FloorDiv b pos) (bnd fa fun d => bnd fb fun e => divM d e) := de_op op_fdivW rop_div ha hb
theorem de_mod (ha : DE X W a fa) (hb : DE X W b fb) : DE X W (.BinOp a .Mod b pos) (bnd fa fun d => bnd fb fun e => modM d e) := de_op op_mod rop_mod ha hb
theorem de_pow (ha : DE X W a fa) (hb : DE X W b fb) : DE X W (.BinOp a .Pow b pos) (bnd fa fun d => bnd fb fun e => powM d e) := de_op op_pow rop_pow ha hb
end
/-! ### and, or, not, if else -/
section
variable {a b : Expr} {rest : List Expr} {fa fb : M D} {ta tb : M Bool} {pos : Pos}
def andT (p q : M Bool) : M Bool := bnd p fun c => if c = true then q else ret false
def orT (p q : M Bool) : M Bool := bnd p fun c => if c = true then ret true else q
def notT (p : M Bool) : M Bool := bnd p fun c => ret (!c)
def andV (p q : M D) : M D := bnd p fun d => bnd (asB d) fun c => if c = true then q else ret (.bl false)
def orV (p q : M D) : M D := bnd p fun d => bnd (asB d) fun c => if c = true then ret (.bl true) else q
def notV (p : M D) : M D := bnd p fun d => bnd (asB d) fun c => ret (.bl (!c))
def iteM (c : M Bool) (p q : M D) : M D := bnd c fun b => if b = true then p else q
/-- and, or within a test -/
def DW (X : Cx) (W : WX) (e : Expr) (f : M Bool) : Prop := ∃ t, PW X e t ∧ Fol X.K W pB t f
theorem dw_or1 (h : DT X W a ta) : DW X W (.BoolOp .Or [a] pos) ta := let ⟨t, p, r⟩ := h; ⟨t, pw_or1 p, r⟩
theorem dw_or (h : DT X W a ta) (k : DW X W (.BoolOp .Or (b :: rest) pos) tb) : DW X W (.BoolOp .Or (a :: b :: rest) pos) (orT ta tb) := by
  obtain ⟨t, p, r⟩ := h
  obtain ⟨u, q, k⟩ := k
  refine ⟨_, pw_or p q, fun w H σ s Q R z => ?_⟩
  refine r.bnd R z fun c s1 w1 H1 v1 l1 R1 r1 p1 => ?_
  cases r1
  cases c with
  | false => exact k w1 H1 σ s1 Q R1 p1
  | true => exact Post.here p1 R1 rfl
theorem dt_w {e : Expr} {f : M Bool} (h : DW X W e f) : DT X W e f := let ⟨t, p, r⟩ := h; ⟨t, p.pt, r⟩
theorem dt_not (h : DT X W a ta) : DT X W (.UnaryOp .Not a pos) (notT ta) := by
  obtain ⟨t, p, r⟩ := h
  refine ⟨_, pt_not p, fun w H σ s Q R z => ?_⟩
  refine r.bnd R z fun c s1 w1 H1 v1 l1 R1 r1 p1 => ?_
  cases r1
  exact Post.here p1 R1 rfl
theorem asB_bnd {K : PySem.W.Frag} {α ν : Type} {P : Pr ν α} {w : Wd} {H : Hp} {σ : L2.St} {s : S} {v : V} {d : D} {k : Bool → M α} {Q : ν → Hp → Prop} (r : Rep K w v d) (p : Post K W P w H σ (bnd (asB d) k s) Q) : ∃ c, v = .bl c ∧ Post K W P w H σ (k c s) Q := by
  cases r with
  | bl b => exact ⟨b, rfl, p⟩
  | _ => exact p.elim
theorem de_one {op} (h : DE X W a fa) : DE X W (.BoolOp op [a] pos) fa := let ⟨t, p, r⟩ := h; ⟨t, pe_one p, r⟩
theorem de_and (h : DE X W a fa) (k : DE X W (.BoolOp .And (b :: rest) pos) fb) : DE X W (.BoolOp .And (a :: b :: rest) pos) (andV fa fb) := by
  obtain ⟨t, p, r⟩ := h
  obtain ⟨u, q, k⟩ := k
  refine ⟨_, pe_and p q, fun w H σ s Q R z => ?_⟩
  refine r.bnd R z fun d s1 w1 H1 v1 l1 R1 r1 p1 => ?_
  obtain ⟨c, e, p2⟩ := asB_bnd r1 p1
  refine ⟨c, e, ?_⟩
  cases c with
  | true => exact k w1 H1 σ s1 Q R1 p2
  | false => exact Post.here p2 R1 (Rep.bl false)
theorem de_not (h : DE X W a fa) : DE X W (.UnaryOp .Not a pos) (notV fa) := by
  obtain ⟨t, p, r⟩ := h
  refine ⟨_, pe_not p, fun w H σ s Q R z => ?_⟩
  refine r.bnd R z fun d s1 w1 H1 v1 l1 R1 r1 p1 => ?_
  obtain ⟨c, e, p2⟩ := asB_bnd r1 p1
  exact ⟨c, e, Post.here p2 R1 (Rep.bl (!c))⟩
end
/-! ### lists of arguments, displays -/
section
variable {a : Expr} {es : List Expr} {fa : M D} {fs : M (List D)} {pos : Pos}
def consM (p : M D) (q : M (List D)) : M (List D) := bnd p fun d => bnd q fun ds => ret (d :: ds)
theorem da_nil : DA X W [] (ret []) := ⟨_, pa_nil, fun w H σ s Q R p => Post.here p R (RepL.nil (K := X.K) (w := w))⟩
theorem da_cons (h : DE X W a fa) (k : DA X W es fs) (hst : starEach (a :: es) X.env = (false, eval a X.env) :: starEach es X.env := by rfl) : DA X W (a :: es) (consM fa fs) := by
  obtain ⟨t, p, r⟩ := h
  obtain ⟨u, q, k⟩ := k
  refine ⟨_, pa_cons p q hst, fun w H σ s Q R z => ?_⟩
  refine r.bnd R z fun d s1 w1 H1 v1 l1 R1 r1 p1 => ?_
  refine k.bnd R1 p1 fun ds s2 w2 H2 v2 l2 R2 r2 p2 => ?_
  exact Post.here p2 R2 (RepL.cons (Rep.up l2 r1) r2)
def lenOk (n : Nat) : Bool := decide (n ≤ sizeLine)
def tupM (q : M (List D)) : M D := bnd q fun ds => if lenOk ds.length = true then ret (.tup ds) else fail
def lstN (q : M (List D)) : M Cell := bnd q fun ds => if lenOk ds.length = true then ret (.lst ds) else fail
theorem dn_lst (h : DA X W es fs) : DN X W (.List es pos) (lstN fs) := by
  obtain ⟨t, p, r⟩ := h
  refine ⟨_, pe_lst p, fun w H σ s Q R z => ?_⟩
  refine r.bnd R z fun ds s1 w1 H1 v1 l1 R1 r1 p1 => ?_
  split at p1
  · next k =>
    refine ⟨by rw [RepL.length r1]; exact of_decide_eq_true k, fun q hq => ?_⟩
    exact p1 w1 _ _ (Le.laid hq) (R1.laid hq) ⟨q, rfl, (R1.fresh hq).1, (R1.fresh hq).2, ⟨_, upd_same, r1⟩, hq⟩
  · exact p1.elim
/-- a new list, never changed from here on -/
def frzM (m : M Cell) : M D := bnd m fun c => match c with
  | .lst ds => ret (.lst ds)
  | _ => fail
/-- a new list or dict that stands by itself -/
def ownM (m : M Cell) : M D := bnd m fun c s => .ok (.cell s.vh.length) { s with vh := s.vh ++ [c] }
theorem RS.frz {K : PySem.W.Frag} {w : Wd} {H : Hp} {σ : L2.St} {s : S} {p : Addr} {o : HO} (R : RS K w H σ s) (h : H p = some o) (hf : w.F p = none) (hr : p ∉ w.ρ) : RS K (w.frz p o) H σ s := by
  have le := Wd.frz_le (o := o) hf
  refine ⟨fun a q e => ?_, R.len, fun i d e => ?_, R.cl, R.nd, fun a ha => ?_, fun n a c e1 e2 => ?_⟩
  · have e : upd w.F p o a = some q := e
    by_cases hh : a = p
    · subst hh; rw [upd_same] at e; cases e; exact h
    · rw [upd_ne hh] at e; exact R.sub a q e
  · obtain ⟨v, h1, h2⟩ := R.loc i d e
    exact ⟨v, h1, h2.upW le⟩
  · show upd w.F p o a = none
    rw [upd_ne (fun (e : a = p) => hr (e ▸ ha))]; exact R.out a ha
  · exact (R.cells n a c e1 e2).upW le rfl
theorem frz_fol {t : TE} {f : M Cell} (r : Fol X.K W (pN X.K) t f) : Fol X.K W (pD X.K) t (frzM f) := fun w H σ s Q R z => by
  refine r w H σ s Q R ?_
  unfold frzM bnd at z
  cases hf : f s with
  | bad => rw [hf] at z; exact z.elim
  | exc x s1 => rw [hf] at z; exact z
  | ok c s1 =>
    rw [hf] at z
    rintro w1 H1 _ l1 R1 ⟨q, rfl, N⟩
    cases c with
    | dct _ => exact z.elim
    | obj _ _ => exact z.elim
    | dctL _ _ _ => exact z.elim
    | dctN _ _ => exact z.elim
    | lst ds =>
      obtain ⟨vs, h1, h2⟩ := N.c
      exact z _ _ _ (l1.frz N.n N.f) (R1.frz h1 N.f N.r) (.lst (SqL.of upd_same) (h2.upW (Wd.frz_le N.f)))
theorem de_frz {f : M Cell} (h : DN X W a f) : DE X W a (frzM f) := let ⟨t, p, r⟩ := h; ⟨t, p, frz_fol r⟩
end
end Fx

namespace Fx
open PySem PySem.Spec PyProof.Rows L2
open Classical
/-! ### a reading made of f itself -/
def tM {α ν : Type} (K : PySem.W.Frag) (W : WX) (P : Pr ν α) (f : M α) : L2.St → Hp → (ν → Hp → Prop) → Prop := fun σ H Q => ∃ w s, RS K w H σ s ∧ Post K W P w H σ (f s) Q
variable {X : Cx} {W : WX}
theorem DE.pe {e : Expr} {f : M D} (h : DE X W e f) : PE X e (tM X.K W (pD X.K) f) := by
  obtain ⟨t, p, r⟩ := h
  exact ⟨fun pins s σ H Q I ⟨w, z, R, q⟩ => p.run pins s σ H Q I (r w H σ z Q R q)⟩
theorem DT.pt {e : Expr} {f : M Bool} (h : DT X W e f) : PT X e (tM X.K W pB f) := by
  obtain ⟨t, p, r⟩ := h
  exact ⟨fun pins s σ H Q I ⟨w, z, R, q⟩ => p.run pins s σ H Q I (r w H σ z Q R q)⟩
/-! ### statements -/
inductive Out where
  | nx | brk | cnt | rt (d : D)
section
variable (K : PySem.W.Frag) (W : WX)
def PostS (w : Wd) (H : Hp) (r : Res Out) (D : Ends) : Prop := match r with
  | .ok .nx s => ∀ w' H' σ', Le w H w' H' → RS K w' H' σ' s → D.nx σ' H'
  | .ok .brk s => ∀ w' H' σ', Le w H w' H' → RS K w' H' σ' s → D.bk σ' H'
  | .ok .cnt s => ∀ w' H' σ', Le w H w' H' → RS K w' H' σ' s → D.ct σ' H'
  | .ok (.rt d) s => ∀ w' H' σ' v, Le w H w' H' → RS K w' H' σ' s → Rep K w' v d → D.rt v H'
  | .exc e s => ∀ w' H' σ', Le w H w' H' → RS K w' H' σ' s → W e w' H' σ'
  | .bad => False
def FolS (t : TS) (f : M Out) : Prop := ∀ w H σ s D, RS K w H σ s → PostS K W w H (f s) D → t D σ H
end
section
variable {K : PySem.W.Frag} {α ν : Type} {P : Pr ν α} {w w1 : Wd} {σ : L2.St} {s : S} {H : Hp} {D : Ends}
theorem PostS.up {H1 : Hp} {r : Res Out} (l : Le w H w1 H1) (h : PostS K W w H r D) : PostS K W w1 H1 r D := by
  cases r with
  | ok a s =>
    cases a with
    | rt d => exact fun w' H' σ' v l' R r => h w' H' σ' v (l.trans l') R r
    | _ => exact fun w' H' σ' l' R => h w' H' σ' (l.trans l') R
  | exc e s => exact fun w' H' σ' l' R => h w' H' σ' (l.trans l') R
  | bad => exact h
theorem PostS.bnd {m : M α} {k : α → M Out} {Q : ν → Hp → Prop} (h : PostS K W w H (Fx.bnd m k s) D) (f : ∀ a s' w' H' v, Le w H w' H' → RS K w' H' σ s' → P.p H w' H' v a → PostS K W w' H' (k a s') D → Q v H') : Post K W P w H σ (m s) Q := by
  unfold Fx.bnd at h
  cases e : m s with
  | ok a s' => rw [e] at h; exact fun w' H' v l R p => f a s' w' H' v l R p (h.up l)
  | exc x s' => rw [e] at h; exact fun w' H' l R => h w' H' σ l R
  | bad => rw [e] at h; exact h
theorem Fol.bndS {t : L2.St → Hp → (ν → Hp → Prop) → Prop} {f : M α} {k : α → M Out} {Q : ν → Hp → Prop} (h : Fol K W P t f) (R : RS K w H σ s) (p : PostS K W w H (Fx.bnd f k s) D)
    (g : ∀ a s' w' H' v, Le w H w' H' → RS K w' H' σ s' → P.p H w' H' v a → PostS K W w' H' (k a s') D → Q v H') : t σ H Q := h w H σ s Q R (p.bnd g)
theorem PostS.nx (h : PostS K W w H (ret .nx s) D) (R : RS K w H σ s) : D.nx σ H := h w H σ (Le.refl w H) R
end
def DS (X : Cx) (W : WX) (st : Stmt) (f : M Out) : Prop := ∃ t, PS X st t ∧ FolS X.K W t f
def DSs (X : Cx) (W : WX) (sts : List Stmt) (f : M Out) : Prop := ∃ t, PSs X sts t ∧ FolS X.K W t f
def seqM (p q : M Out) : M Out := fun s => match p s with
  | .ok .nx s' => q s'
  | r => r
section
variable {st : Stmt} {rest : List Stmt} {e c : Expr} {f g : M Out} {fe : M D} {fc : M Bool} {pos : Pos}
theorem dss_nil : DSs X W [] (ret .nx) := ⟨_, pss_nil, fun w H σ s D R p => p.nx R⟩
theorem dss_cons (h : DS X W st f) (k : DSs X W rest g) : DSs X W (st :: rest) (seqM f g) := by
  obtain ⟨t, p, r⟩ := h
  obtain ⟨u, q, k⟩ := k
  refine ⟨_, pss_cons p q, fun w H σ s D R z => ?_⟩
  refine r w H σ s { D with nx := u D } R ?_
  unfold seqM at z
  cases hf : f s with
  | ok a s' =>
    rw [hf] at z
    cases a with
    | nx => exact fun w' H' σ' l R' => k w' H' σ' s' D R' (z.up l)
    | brk => exact z
    | cnt => exact z
    | rt d => exact z
  | exc x s' => rw [hf] at z; exact z
  | bad => rw [hf] at z; exact z
theorem dss_one (h : DS X W st f) : DSs X W [st] f := let ⟨t, p, r⟩ := h; ⟨t, pss_one p, r⟩
def retM (p : M D) : M Out := bnd p fun d => ret (.rt d)
def dropM (p : M D) : M Out := bnd p fun _ => ret .nx
def ifM (c : M Bool) (p q : M Out) : M Out := bnd c fun b => if b = true then p else q
theorem ds_ret (h : DE X W e fe) : DS X W (.Return (some e) pos) (retM fe) := by
  obtain ⟨t, p, r⟩ := h
  refine ⟨_, ps_ret p, fun w H σ s D R z => ?_⟩
  exact r.bndS R z fun d s1 w1 H1 v1 l1 R1 r1 p1 => p1 w1 H1 σ v1 (Le.refl w1 H1) R1 r1
theorem ds_expr (h : DE X W e fe) (hs : swapsWith e none pos.line X.env = pure false := by rfl) : DS X W (.Expr e pos) (dropM fe) := by
  obtain ⟨t, p, r⟩ := h
  refine ⟨_, ps_expr p hs, fun w H σ s D R z => ?_⟩
  exact r.bndS R z fun d s1 w1 H1 v1 l1 R1 r1 p1 => p1.nx R1
theorem ds_if {a b : List Stmt} (h : DT X W c fc) (ha : DSs X W a f) (hb : DSs X W b g) : DS X W (.If c a b pos) (ifM fc f g) := by
  obtain ⟨t, p, r⟩ := h
  obtain ⟨u, q, k⟩ := ha
  obtain ⟨u', q', k'⟩ := hb
  refine ⟨_, ps_if p q q', fun w H σ s D R z => ?_⟩
  refine r.bndS R z fun d s1 w1 H1 v1 l1 R1 r1 p1 => ?_
  cases r1
  cases d with
  | true => exact k w1 H1 σ s1 D R1 p1
  | false => exact k' w1 H1 σ s1 D R1 p1
/-! targets -/
def setL (i : Nat) (d : D) : M Out := fun s => .ok .nx { s with loc := s.loc.set i (some d) }
def PostG (K : PySem.W.Frag) (w : Wd) (H : Hp) (r : Res Out) (Q : L2.St → Hp → Prop) : Prop := match r with
  | .ok .nx s => ∀ w' H' σ', Le w H w' H' → RS K w' H' σ' s → Q σ' H'
  | _ => False
def DG (X : Cx) (target : Expr) (t : D → M Out) : Prop := ∃ g, PG X target g ∧ ∀ w H σ s v d Q, RS X.K w H σ s → Rep X.K w v d → PostG X.K w H (t d s) Q → g v σ H Q
theorem dg_name {i : Nat} {x : Str} (hN : X.N.Nodup) (hi : X.N[i]? = some x := by rfl) (hx : Loc X.env.scope x := by first | exact Or.inl rfl | exact Or.inr rfl) (hf : X.fn x = true ∨ X.env.scope.names.lookup x = some .local := by first | exact .inl rfl | exact .inr rfl) : DG X (.Name x pos) (setL i) :=
  ⟨_, pg_name hN hi hx hf, fun w H σ s v d Q R r p => p w H _ (Le.refl w H) (R.set r)⟩
def asgM (p : M D) (t : D → M Out) : M Out := bnd p t
theorem ds_asg {tg : Expr} {t : D → M Out} (h : DE X W e fe) (hg : DG X tg t) (ht : ∀ d s, (∃ s', t d s = .ok .nx s') ∨ t d s = .bad) (hs : swapsWithSole [tg] e pos.line X.env = pure false := by rfl) (hw : swappedStores [tg] e X.env = pure none := by rfl)
    (h1 : (assignEach [tg] X.env).map (·.2) = [assign tg X.env] := by rfl) : DS X W (.Assign [tg] e pos) (asgM fe t) := by
  obtain ⟨u, p, r⟩ := h
  obtain ⟨g, pg, k⟩ := hg
  refine ⟨_, ps_asg p pg hs hw h1, fun w H σ s D R z => ?_⟩
  refine r.bndS R z fun d s1 w1 H1 v1 l1 R1 r1 p1 => ?_
  refine k w1 H1 σ s1 v1 d D.nx R1 r1 ?_
  rcases ht d s1 with ⟨s', e⟩ | e
  · rw [e] at p1 ⊢; exact p1
  · rw [e] at p1; exact p1.elim
theorem setL_ok {i : Nat} (d : D) (s : S) : (∃ s', setL i d s = .ok .nx s') ∨ setL i d s = .bad := .inl ⟨_, rfl⟩
/-- x = e -/
theorem ds_set (i : Nat) {x : Str} {p' : Pos} (h : DE X W e fe) (hN : X.N.Nodup) (hi : X.N[i]? = some x := by rfl) (hx : Loc X.env.scope x := by first | exact Or.inl rfl | exact Or.inr rfl) (hf : X.fn x = true ∨ X.env.scope.names.lookup x = some .local := by first | exact .inl rfl | exact .inr rfl)
    (hs : swapsWithSole [.Name x p'] e pos.line X.env = pure false := by rfl) (hw : swappedStores [.Name x p'] e X.env = pure none := by rfl) (h1 : (assignEach [.Name x p'] X.env).map (·.2) = [assign (.Name x p') X.env] := by rfl) : DS X W (.Assign [.Name x p'] e pos) (asgM fe (setL i)) :=
  ds_asg h (dg_name hN hi hx hf) setL_ok hs hw h1
theorem bnd_ok {α β : Type} {m : M α} {k : α → M β} {s s' : S} {a : α} (h : m s = .ok a s') : bnd m k s = k a s' := by
  unfold bnd
  rw [h]
/-- x += e, of ints -/
def augF (f : Int → Int → Int) (i : Nat) : D → D → M Out
  | .int x, .int y => setL i (.int (f x y))
  | _, _ => fail
def augI (f : Int → Int → Int) (i : Nat) (p : M D) : M Out := bnd (getL i) fun a => bnd p fun b => augF f i a b
/-! ### while -/
end
/-! ### what is walked -/
structure Wk where
  items : List D
  ok : S → Prop
def wkI (K : PySem.W.Frag) : Wd → It → Wk → Prop := fun w0 J it => ∀ w H σ s, w0.le w → RS K w H σ s → it.ok s → ∀ i : Nat, (i < it.items.length → J.go i H) ∧ (it.items.length ≤ i → J.stop i H) ∧
  ∀ x H', J.yld i H x H' → ∀ d, it.items[i]? = some d → ∃ w', Le w H w' H' ∧ RS K w' H' σ s ∧ Rep K w' x d
@[reducible] def pI (K : PySem.W.Frag) : Pr It Wk := ⟨fun _ w H J it => wkI K w J it, fun _ _ _ _ _ _ _ _ _ _ h => h⟩
def DI (X : Cx) (W : WX) (tg e : Expr) (f : M Wk) : Prop := ∃ wi, PI X tg e wi ∧ Fol X.K W (pI X.K) wi f
noncomputable def loopM (ok : S → Prop) (t : D → M Out) (b : M Out) : List D → M Out
  | [] => fun s => if ok s then .ok .nx s else .bad
  | d :: ds => fun s => if ok s then (match t d s with
    | .ok .nx s1 => match b s1 with
      | .ok .nx s2 => loopM ok t b ds s2
      | .ok .cnt s2 => loopM ok t b ds s2
      | .ok .brk s2 => .ok .nx s2
      | r => r
    | _ => .bad) else .bad
noncomputable def forM (f : M Wk) (t : D → M Out) (b : M Out) : M Out := bnd f fun it => loopM it.ok t b it.items
section
variable {tg e : Expr} {fi : M Wk} {t : D → M Out} {b : M Out} {body : List Stmt} {pos : Pos}
theorem ds_for (hp : PassesOwn (model X.prog X.w) X.A X.env X.xe) (hc : X.calm = true) (hi : DI X W tg e fi) (hg : DG X tg t) (hb : DSs X W body b) (hs : ∀ x, foldedSetIterable e X.env x = pure x := by intro _; rfl) : DS X W (.For tg e body [] pos) (forM fi t b) := by
  obtain ⟨wi, p, r⟩ := hi
  obtain ⟨g, pg, kg⟩ := hg
  obtain ⟨u, q, k⟩ := hb
  refine ⟨_, ps_for hp hc p pg q hs, fun w H σ s D R z => ?_⟩
  refine r.bndS R z fun it s1 w1 H1 J l1 R1 r1 p1 => ?_
  refine ⟨fun i m σ' H' => m = it.items.length - i ∧ i ≤ it.items.length ∧ ∃ w' s', w1.le w' ∧ RS X.K w' H' σ' s' ∧ PostS X.K W w' H' (loopM it.ok t b (it.items.drop i) s') D, ⟨_, rfl, Nat.zero_le _, w1, s1, Wd.le.refl w1, R1, p1⟩, ?_⟩
  rintro i m σ' H' ⟨rfl, hi, w', s', l', R', z'⟩
  by_cases hlt : i < it.items.length
  · obtain ⟨d, hd⟩ : ∃ d, it.items[i]? = some d := ⟨_, List.getElem?_eq_getElem hlt⟩
    have ed : it.items.drop i = d :: it.items.drop (i + 1) := by
      rw [List.drop_eq_getElem_cons hlt]
      rw [List.getElem?_eq_getElem hlt] at hd
      rw [Option.some.inj hd]
    rw [ed] at z'
    unfold loopM at z'
    by_cases hok : it.ok s'
    · rw [if_pos hok] at z'
      obtain ⟨h1, h2, h3⟩ := r1 w' H' σ' s' l' R' hok i
      refine .inr ⟨h1 hlt, fun σ2 H2 => ∃ w2 s2, w1.le w2 ∧ RS X.K w2 H2 σ2 s2 ∧ PostS X.K W w2 H2 (loopM it.ok t b (it.items.drop (i + 1)) s2) D, fun σ2 H2 ⟨w2, s2, l2, R2, z2⟩ => ⟨it.items.length - (i + 1), by omega, rfl, hlt, w2, s2, l2, R2, z2⟩, fun x H2 hy => ?_⟩
      obtain ⟨w2, l2, R2, r2⟩ := h3 x H2 hy d hd
      refine kg w2 H2 σ' s' x d _ R2 r2 ?_
      cases ht : t d s' with
      | ok o s3 =>
        rw [ht] at z'
        cases o with
        | nx =>
          refine fun w3 H3 σ3 l3 R3 => ?_
          refine k w3 H3 σ3 s3 _ R3 ?_
          have z' : PostS X.K W w' H' (match b s3 with
            | .ok .nx s2 => loopM it.ok t b (it.items.drop (i + 1)) s2
            | .ok .cnt s2 => loopM it.ok t b (it.items.drop (i + 1)) s2
            | .ok .brk s2 => .ok .nx s2
            | r => r) D := z'
          have z3 := z'.up (l2.trans l3)
          cases hb : b s3 with
          | ok a s4 =>
            rw [hb] at z3
            cases a with
            | nx => exact fun w4 H4 σ4 l R4 => ⟨w4, s4, l'.trans (l2.le.trans (l3.le.trans l.le)), R4, z3.up l⟩
            | cnt => exact fun w4 H4 σ4 l R4 => ⟨w4, s4, l'.trans (l2.le.trans (l3.le.trans l.le)), R4, z3.up l⟩
            | brk => exact z3
            | rt d => exact z3
          | exc x s4 => rw [hb] at z3; exact z3
          | bad => rw [hb] at z3; exact z3.elim
        | _ => exact z'.elim
      | exc _ _ => rw [ht] at z'; exact z'.elim
      | bad => rw [ht] at z'; exact z'.elim
    · rw [if_neg hok] at z'; exact z'.elim
  · have hi' : it.items.length ≤ i := by omega
    rw [List.drop_eq_nil_of_le hi'] at z'
    unfold loopM at z'
    by_cases hok : it.ok s'
    · rw [if_pos hok] at z'
      obtain ⟨h1, h2, h3⟩ := r1 w' H' σ' s' l' R' hok i
      exact .inl ⟨h2 hi', z' w' H' σ' (Le.refl w' H') R'⟩
    · rw [if_neg hok] at z'; exact z'.elim
end
end Fx

namespace Fx
open PySem PySem.Spec PyProof.Rows L2
open Classical
variable {X : Cx} {W : WX}
section
variable {K : PySem.W.Frag} {α β ν μ : Type} {P : Pr ν α} {P2 : Pr μ β} {w w1 : Wd} {σ : L2.St} {s : S}
end
/-! ### what is walked: a list, a tuple, a text -/
def signs (x : Str) : List D := x.cps.toList.map fun c => .str ⟨#[c]⟩
def itemsOf (s : S) : D → Option (List D)
  | .tup ds => some ds
  | .str x => some (signs x)
  | d => lstOf s d
noncomputable def seqI (d : D) : M Wk := fun s => match itemsOf s d with
  | some ds => .ok ⟨ds, fun s' => itemsOf s' d = some ds⟩ s
  | none => .bad
theorem PI.or {tg e : Expr} {w1 w2 : TI} (h1 : PI X tg e w1) (h2 : PI X tg e w2) : PI X tg e (fun σ H R => w1 σ H R ∨ w2 σ H R) :=
  ⟨fun pins s σ H R I h => h.elim (h1.run pins s σ H R I) (h2.run pins s σ H R I)⟩
/-! ### range -/
def ranD (lo : Int) (n : Nat) : List D := (List.range n).map fun (k : Nat) => D.int (lo + (k : Int))
theorem ranD_len {lo : Int} {n : Nat} : (ranD lo n).length = n := by unfold ranD; rw [List.length_map, List.length_range]
theorem ranD_get {lo : Int} {n i : Nat} (h : i < n) : (ranD lo n)[i]? = some (.int (lo + (i : Int))) := by
  unfold ranD
  rw [List.getElem?_map, List.getElem?_range h]; rfl
def okB (i : Int) : Bool := decide (-(2 ^ 62) ≤ i) && decide (i < 2 ^ 62)
def ran1I : List D → M Wk
  | [.int n] => fun s => if okB n = true then .ok ⟨ranD 0 n.toNat, fun _ => True⟩ s else .bad
  | _ => fun _ => .bad
def ran2I : List D → M Wk
  | [.int lo, .int n] => fun s => if (okB lo && okB n) = true then .ok ⟨ranD lo (n - lo).toNat, fun _ => True⟩ s else .bad
  | _ => fun _ => .bad
theorem pI_ran {K : PySem.W.Frag} {w0 : Wd} {lo : Int} {n : Nat} : wkI K w0 (Itr lo n) ⟨ranD lo n, fun _ => True⟩ := by
  intro w H σ s l R _ i
  refine ⟨fun hi => by rw [ranD_len] at hi; exact hi, fun hi => by rw [ranD_len] at hi; exact hi, fun v H' hy d' hd => ?_⟩
  obtain ⟨rfl, rfl⟩ := hy
  have hi : i < n := by
    have := (List.getElem?_eq_some_iff.mp hd).1
    rw [ranD_len] at this; exact this
  have hd : (ranD lo n)[i]? = some d' := hd
  rw [ranD_get hi] at hd; cases hd
  exact ⟨w, Le.refl _ _, R, .int _⟩
theorem okB_ok {i : Int} (h : okB i = true) : -(2 ^ 62) ≤ i ∧ i < 2 ^ 62 := by
  unfold okB at h
  rw [Bool.and_eq_true, decide_eq_true_eq, decide_eq_true_eq] at h; exact h
theorem di_range1 {tg a : Expr} {f : M (List D)} {p pos : Pos} (hm : X.mg "range" = none) (h : DA X W [a] f) (hg : Gl X "range" := by rfl) (hs : starEach [a] X.env = [(false, eval a X.env)] := by rfl) : DI X W tg (.Call (.Name "range" p) [a] [] pos) (bnd f ran1I) := by
  obtain ⟨t, q, r⟩ := h
  refine ⟨_, pi_range1 hg hm q hs, fun w H σ s R0 R z => ?_⟩
  refine r.bnd R z fun ds s1 w1 H1 vs l1 R1 r1 p1 => ?_
  cases r1 with
  | nil => exact p1.elim
  | cons h t =>
    cases t with
    | nil =>
      cases h with
      | int n =>
        have p1 : Post X.K W (pI X.K) w1 H1 σ (if okB n = true then Res.ok (Wk.mk (ranD 0 n.toNat) fun _ => True) s1 else .bad) R0 := p1
        split at p1
        · next k => exact ⟨n, rfl, (okB_ok k).1, (okB_ok k).2, p1 w1 H1 _ (Le.refl _ _) R1 pI_ran⟩
        · exact p1.elim
      | _ => exact p1.elim
    | cons h2 t2 => exact (by cases h <;> exact p1.elim)
/-! ### zip of two lists, reversed -/
/-! ### targets of two, three names -/
def unp2 (i j : Nat) (d : D) : M Out := fun s => match d with
  | .tup [x, y] => .ok .nx { s with loc := (s.loc.set i (some x)).set j (some y) }
  | .pr x y => .ok .nx { s with loc := (s.loc.set i (some x)).set j (some y) }
  | _ => .bad
end Fx

namespace Fx
open PySem PySem.Spec PyProof.Rows L2
open Classical
variable {X : Cx} {W : WX}
/-! ### [e for x in it if c]: the block's name in slot i -/
def yesM : M Bool := ret true
noncomputable def lcLoop (ok : S → Prop) (i : Nat) (c : M Bool) (e : M D) (l0 l : List (Option D)) : List D → List D → M Cell
  | [], acc => fun s => if ok s then .ok (.lst acc) { s with loc := l } else .bad
  | d :: ds, acc => fun s => if ok s ∧ acc.length < sizeLine then (match c { s with loc := l0.set i (some d) } with
    | .ok true s1 => match e s1 with
      | .ok y s2 => lcLoop ok i c e l0 l ds (acc ++ [y]) { s2 with loc := l0 }
      | _ => .bad
    | .ok false s1 => lcLoop ok i c e l0 l ds acc { s1 with loc := l0 }
    | _ => .bad) else .bad
noncomputable def lcM (f : M Wk) (i : Nat) (c : M Bool) (e : M D) : M Cell := bnd f fun it s => lcLoop it.ok i c e (s.loc.set i none) s.loc it.items [] { s with loc := s.loc.set i none }
theorem set_set_none {α : Type} {l : List (Option α)} {i : Nat} {x : Option α} : ((l.set i none).set i x).set i none = l.set i none := by
  rw [List.set_set, List.set_set]
theorem RS.wipe {K : PySem.W.Frag} {w : Wd} {H : Hp} {σ : L2.St} {s : S} {i : Nat} (R : RS K w H σ s) : RS K w H (σ.set i none) { s with loc := s.loc.set i none } := by
  refine R.other (by rw [List.length_set, List.length_set]; exact R.len) fun j d h => ?_
  by_cases hj : j = i
  · subst hj
    by_cases hl : j < s.loc.length
    · rw [List.getElem?_set_self hl] at h; cases h
    · rw [List.getElem?_eq_none (by rw [List.length_set]; omega)] at h; cases h
  · rw [List.getElem?_set_ne (Ne.symm hj)] at h ⊢
    exact R.loc j d h
/-- the slots that hold the locals l, by w -/
def LocOk (K : PySem.W.Frag) (w : Wd) (σ : L2.St) (l : List (Option D)) : Prop := σ.length = l.length ∧ ∀ (i : Nat) d, l[i]? = some (some d) → ∃ v, σ[i]? = some (some v) ∧ Rep K w v d
theorem LocOk.up {K : PySem.W.Frag} {w w' : Wd} {σ : L2.St} {l : List (Option D)} (h : LocOk K w σ l) (le : w.le w') : LocOk K w' σ l := ⟨h.1, fun i d e => let ⟨v, a, b⟩ := h.2 i d e; ⟨v, a, b.upW le⟩⟩
theorem RS.locOk {K : PySem.W.Frag} {w : Wd} {H : Hp} {σ : L2.St} {s : S} (R : RS K w H σ s) : LocOk K w σ s.loc := ⟨R.len, R.loc⟩
theorem RS.withLoc {K : PySem.W.Frag} {w : Wd} {H : Hp} {σ σ' : L2.St} {s : S} {l : List (Option D)} (R : RS K w H σ s) (h : LocOk K w σ' l) : RS K w H σ' { s with loc := l } := R.other h.1 h.2
theorem Le.mut {w w1 : Wd} {H H1 : Hp} {p : Addr} {o : HO} (l : Le w H w1 H1) (hp : H p = none) : Le w H w1 (upd H1 p o) := ⟨l.le, fun a q e h => by rw [upd_ne (ne_of_none e hp)]; exact l.keep a q e h, l.newρ, l.newF⟩
/-- a tracked thing that is neither frozen nor a cell may change -/
theorem RS.mut {K : PySem.W.Frag} {w : Wd} {H : Hp} {σ : L2.St} {s : S} {p : Addr} {o : HO} (R : RS K w H σ s) (hf : w.F p = none) (hr : p ∉ w.ρ) : RS K w (upd H p o) σ s :=
  ⟨fun a q e => by rw [upd_ne (ne_of_none e hf)]; exact R.sub a q e, R.len, R.loc, R.cl, R.nd, R.out, fun n a c e1 e2 => (R.cells n a c e1 e2).upW (Wd.le.refl w) (upd_ne fun (e : a = p) => hr (e ▸ List.mem_of_getElem? e1))⟩
theorem DN.pe {e : Expr} {f : M Cell} (h : DN X W e f) : PE X e (tM X.K W (pN X.K) f) := by
  obtain ⟨t, p, r⟩ := h
  exact ⟨fun pins s σ H Q I ⟨w, z, R, q⟩ => p.run pins s σ H Q I (r w H σ z Q R q)⟩
def tests (ifs : List Expr) (X : Cx) (c : M Bool) : Prop := PTs X ifs (tM X.K W0 pB c)
theorem tests_nil : tests [] X yesM := ⟨fun pins s σ H Q I ⟨w, z, R, q⟩ => pts_nil.run pins s σ H Q I (Post.here q R rfl)⟩
theorem lc_fol {wi : TI} {n : Str} {i : Nat} {fi : M Wk} {c : M Bool} {fe : M D} (r : Fol X.K W (pI X.K) wi fi) : Fol X.K W (pN X.K) (tLc wi (gName i) (tM X.K W0 pB c) (tM X.K W0 (pD X.K) fe) ([(n, i)].map (·.2))) (lcM fi i c fe) := by
  intro w H σ s Q R z
  refine r.bnd R z fun it s1 w1 H1 J l1 R1 r1 p1 => ?_
  intro Dl hD
  have fr := R1.fresh hD
  have z1 : Post X.K W (pN X.K) w1 H1 σ (lcLoop it.ok i c fe (s1.loc.set i none) s1.loc it.items [] { s1 with loc := s1.loc.set i none }) Q := p1
  have ew : L2.wipe σ ([(n, i)].map (·.2)) = σ.set i none := rfl
  -- what holds between two turns
  refine ⟨fun k m H' => m = it.items.length - k ∧ k ≤ it.items.length ∧ ∃ w' s' acc, Le w1 H1 w' H' ∧ RS X.K w' H' (σ.set i none) s' ∧ s'.loc = s1.loc.set i none ∧ w'.F Dl = none ∧ Dl ∉ w'.ρ ∧ (∃ vs, H' Dl = some (.lst vs) ∧ RepL X.K w' vs acc) ∧
    Post X.K W (pN X.K) w1 H1 σ (lcLoop it.ok i c fe (s1.loc.set i none) s1.loc (it.items.drop k) acc s') Q, ⟨_, rfl, Nat.zero_le _, w1, { s1 with loc := s1.loc.set i none }, [], Le.laid hD, (R1.laid hD).wipe, rfl, fr.1, fr.2, ⟨[], upd_same, .nil⟩, z1⟩, ?_⟩
  rintro k m H' ⟨rfl, hk, w', s', acc, l', R', el, hF, hρ, ⟨vs, hvs, racc⟩, z'⟩
  by_cases hlt : k < it.items.length
  · obtain ⟨d, hd⟩ : ∃ d, it.items[k]? = some d := ⟨_, List.getElem?_eq_getElem hlt⟩
    have ed : it.items.drop k = d :: it.items.drop (k + 1) := by
      rw [List.drop_eq_getElem_cons hlt]
      rw [List.getElem?_eq_getElem hlt] at hd
      rw [Option.some.inj hd]
    rw [ed] at z'
    unfold lcLoop at z'
    by_cases hok : it.ok s' ∧ acc.length < sizeLine
    · rw [if_pos hok] at z'
      obtain ⟨h1, h2, h3⟩ := r1 w' H' _ s' l'.le R' hok.1 k
      refine .inr ⟨h1 hlt, fun H2 => (k + 1 ≤ it.items.length ∧ ∃ w' s' acc, Le w1 H1 w' H2 ∧ RS X.K w' H2 (σ.set i none) s' ∧ s'.loc = s1.loc.set i none ∧ w'.F Dl = none ∧ Dl ∉ w'.ρ ∧ (∃ vs, H2 Dl = some (.lst vs) ∧ RepL X.K w' vs acc) ∧
        Post X.K W (pN X.K) w1 H1 σ (lcLoop it.ok i c fe (s1.loc.set i none) s1.loc (it.items.drop (k + 1)) acc s') Q), fun H2 hh => ⟨it.items.length - (k + 1), by omega, rfl, hh⟩, fun x H2 hy => ?_⟩
      obtain ⟨w2, l2, R2, r2⟩ := h3 x H2 hy d hd
      rw [ew]
      refine ⟨set_set_none, ?_⟩
      have R2s := R2.set (i := i) r2
      rw [el] at R2s
      -- the new list from one state to a later one
      have carry : ∀ {w5 : Wd} {H5 : Hp}, Le w' H' w5 H5 → w5.F Dl = none ∧ Dl ∉ w5.ρ ∧ H5 Dl = some (.lst vs) := fun {w5 H5} l5 => by
        refine ⟨?_, fun h => ?_, l5.keep Dl _ hvs hρ⟩
        · cases q : w5.F Dl with
          | none => rfl
          | some o =>
            rcases l5.newF Dl o q with h | h | h
            · rw [hF] at h; cases h
            · rw [hvs] at h; cases h
            · exact (hρ h).elim
        · rcases l5.newρ Dl h with h | h
          · exact hρ h
          · rw [hvs] at h; cases h
      have loc0 : LocOk X.K w1 (σ.set i none) (s1.loc.set i none) := R1.wipe.locOk
      refine ⟨w2, _, R2s, ?_⟩
      have z' : Post X.K W (pN X.K) w1 H1 σ (match c { s' with loc := (s1.loc.set i none).set i (some d) } with
        | .ok true s1' => match fe s1' with
          | .ok y s2 => lcLoop it.ok i c fe (s1.loc.set i none) s1.loc (it.items.drop (k + 1)) (acc ++ [y]) { s2 with loc := s1.loc.set i none }
          | _ => .bad
        | .ok false s1' => lcLoop it.ok i c fe (s1.loc.set i none) s1.loc (it.items.drop (k + 1)) acc { s1' with loc := s1.loc.set i none }
        | _ => .bad) Q := z'
      cases hcc : c { s' with loc := (s1.loc.set i none).set i (some d) } with
      | exc _ _ => rw [hcc] at z'; exact z'.elim
      | bad => rw [hcc] at z'; exact z'.elim
      | ok b s3 =>
        rw [hcc] at z'
        rintro w3 H3 b' l3 R3 eb
        have eb : b' = b := eb
        subst eb
        cases b' with
        | false =>
          obtain ⟨c1, c2, c3⟩ := carry (l2.trans l3)
          have lt := l'.trans (l2.trans l3)
          exact ⟨hlt, w3, { s3 with loc := s1.loc.set i none }, acc, lt, R3.withLoc (loc0.up lt.le), rfl, c1, c2, ⟨vs, c3, racc.up (l2.trans l3)⟩, z'⟩
        | true =>
          refine ⟨w3, s3, R3, ?_⟩
          have z' : Post X.K W (pN X.K) w1 H1 σ (match fe s3 with
            | .ok y s2 => lcLoop it.ok i c fe (s1.loc.set i none) s1.loc (it.items.drop (k + 1)) (acc ++ [y]) { s2 with loc := s1.loc.set i none }
            | _ => .bad) Q := z'
          cases hee : fe s3 with
          | exc _ _ => rw [hee] at z'; exact z'.elim
          | bad => rw [hee] at z'; exact z'.elim
          | ok y s4 =>
            rw [hee] at z'
            rintro w4 H4 v l4 R4 ry
            have lt := l2.trans (l3.trans l4)
            obtain ⟨c1, c2, c3⟩ := carry lt
            have lt1 := l'.trans lt
            refine ⟨vs, c3, by rw [RepL.length racc]; exact hok.2, hlt, w4, { s4 with loc := s1.loc.set i none }, acc ++ [y], lt1.mut hD, (R4.withLoc (loc0.up lt1.le)).mut c1 c2, rfl, c1, c2, ⟨vs ++ [v], upd_same, RepL.append (racc.up lt) (.cons ry .nil)⟩, z'⟩
    · rw [if_neg hok] at z'; exact z'.elim
  · have hk' : it.items.length ≤ k := by omega
    rw [List.drop_eq_nil_of_le hk'] at z'
    unfold lcLoop at z'
    by_cases hok : it.ok s'
    · rw [if_pos hok] at z'
      obtain ⟨h1, h2, h3⟩ := r1 w' H' _ s' l'.le R' hok k
      refine .inl ⟨h2 hk', z' w' H' _ l' (R'.withLoc (R1.locOk.up l'.le)) ⟨Dl, rfl, hF, hρ, ⟨vs, hvs, racc⟩, hD⟩⟩
    · rw [if_neg hok] at z'; exact z'.elim
theorem dn_lc {elt tg iter : Expr} {ifs : List Expr} {scope : Scope} {n : Str} {i : Nat} {pos : Pos} {fi : M Wk} {c : M Bool} {fe : M D} (hc : X.calm = true) (hN : X.N.Nodup) (hi : DI X W tg iter fi) (ok : BlkOk X.N X.env.scope scope [(n, i)])
    (hg : ∀ (s : Shared) (H : Hp) (C : Addr) (cl : List (Str × Addr)) (fp : List Addr), PG (X.blk s H scope (compEnvC scope cl C X.env) fp) tg (gName i))
    (ht : ∀ (s : Shared) (H : Hp) (C : Addr) (cl : List (Str × Addr)) (fp : List Addr), tests ifs (X.blk s H scope (compEnvC scope cl C X.env) fp) c)
    (he : ∀ (s : Shared) (H : Hp) (C : Addr) (cl : List (Str × Addr)) (fp : List Addr), DE (X.blk s H scope (compEnvC scope cl C X.env) fp) W0 elt fe) (hs : ∀ x, foldedSetIterable iter X.env x = pure x := by intro _; rfl) :
    DN X W (.ListComp elt [⟨tg, iter, ifs, 0⟩] scope pos) (lcM fi i c fe) := by
  obtain ⟨wi, p, r⟩ := hi
  exact ⟨_, pe_lc (tt := tM X.K W0 pB c) (te := tM X.K W0 (pD X.K) fe) hc hN p ok hg (fun s H C cl fp => ht s H C cl fp) (fun s H C cl fp => (he s H C cl fp).pe) hs, lc_fol r⟩
section
variable {elt tg iter : Expr} {ifs : List Expr} {scope : Scope} {n y : Str} {i j : Nat} {py pos spos : Pos} {fi : M Wk} {c : M Bool} {fe : M D}
end
end Fx

namespace Fx
open PySem PySem.Spec PyProof.Rows L2
open Classical
variable {X : Cx} {W : WX}
/-! ### what a def hands back: its new cells as trees -/
mutual
/-- no cell from b on -/
def nc (b : Nat) : D → Bool
  | .cell n => decide (n < b)
  | .tup xs => ncL b xs
  | .lst xs => ncL b xs
  | .pr x y => nc b x && nc b y
  | .err _ _ xs => ncL b xs
  | _ => true
def ncL (b : Nat) : List D → Bool
  | [] => true
  | x :: xs => nc b x && ncL b xs
end
def mapO (f : D → Option D) : List D → Option (List D)
  | [] => some []
  | x :: xs => match f x, mapO f xs with
    | some y, some ys => some (y :: ys)
    | _, _ => none
def thaw (vh : List Cell) (b : Nat) : Nat → D → Option D
  | 0, d => if nc b d = true then some d else none
  | k + 1, d => if nc b d = true then some d else match d with
    | .cell n => match vh[n]? with
      | some (.lst ds) => (mapO (thaw vh b k) ds).map .lst
      | _ => none
    | .tup ds => (mapO (thaw vh b k) ds).map .tup
    | .lst ds => (mapO (thaw vh b k) ds).map .lst
    | _ => none
def Wd.fall (w : Wd) (b : Nat) (H : Hp) : Wd := ⟨w.ρ.take b, fun a => match w.F a with
  | some o => some o
  | none => if a ∈ w.ρ.drop b then H a else none⟩
section
variable {K : PySem.W.Frag} {w w0 : Wd} {H H0 : Hp} {σ : L2.St} {s : S} {b : Nat}
theorem fall_F {a : Addr} {o : HO} (h : w.F a = some o) : (w.fall b H).F a = some o := by
  show (match w.F a with | some o => some o | none => if a ∈ w.ρ.drop b then H a else none) = some o
  rw [h]
mutual
theorem nc_rep : ∀ {v : V} {d : D}, Rep K w v d → nc b d = true → Rep K (w.fall b H) v d
  | _, _, .non, _ => .non
  | _, _, .bl x, _ => .bl x
  | _, _, .int i, _ => .int i
  | _, _, .str x, _ => .str x
  | _, _, .ref a, _ => .ref a
  | _, _, .emp h, _ => .emp (fall_F h)
  | _, _, .err h t, c => .err (h.up (fun _ _ e => fall_F e)) (nc_repL t (by simpa [nc] using c))
  | _, _, .tup h t, c => .tup (h.up (fun _ _ e => fall_F e)) (nc_repL t (by simpa [nc] using c))
  | _, _, .pr h r q, c => by
    unfold nc at c
    rw [Bool.and_eq_true] at c
    exact .pr (sqT_up (fun _ _ e => fall_F e) h) (nc_rep r c.1) (nc_rep q c.2)
  | _, _, .lst h t, c => .lst (sqL_up (fun _ _ e => fall_F e) h) (nc_repL t (by simpa [nc] using c))
  | _, _, .cell (n := n) h, c => .cell (by
      have hn : n < b := by simpa [nc] using c
      show (w.ρ.take b)[n]? = _
      rw [List.getElem?_take, if_pos hn]; exact h)
theorem nc_repL : ∀ {vs : List V} {ds : List D}, RepL K w vs ds → ncL b ds = true → RepL K (w.fall b H) vs ds
  | _, _, .nil, _ => .nil
  | _, _, .cons h t, c => by
    have c : (nc b _ && ncL b _) = true := c
    rw [Bool.and_eq_true] at c
    exact .cons (nc_rep h c.1) (nc_repL t c.2)
end
mutual
theorem nc_of : ∀ {v : V} {d : D}, Rep K w0 v d → w0.ρ.length ≤ b → nc b d = true
  | _, _, .non, _ => rfl
  | _, _, .bl x, _ => rfl
  | _, _, .int i, _ => rfl
  | _, _, .str x, _ => rfl
  | _, _, .ref a, _ => rfl
  | _, _, .emp h, _ => rfl
  | _, _, .err h t, c => by unfold nc; exact nc_ofL t c
  | _, _, .tup h t, c => by unfold nc; exact nc_ofL t c
  | _, _, .pr h r q, c => by unfold nc; rw [nc_of r c, nc_of q c]; rfl
  | _, _, .lst h t, c => by unfold nc; exact nc_ofL t c
  | _, _, .cell (n := n) h, c => by
    have := (List.getElem?_eq_some_iff.mp h).1
    unfold nc; exact decide_eq_true (by omega)
theorem nc_ofL : ∀ {vs : List V} {ds : List D}, RepL K w0 vs ds → w0.ρ.length ≤ b → ncL b ds = true
  | _, _, .nil, _ => rfl
  | _, _, .cons h t, c => by
    unfold ncL
    rw [nc_of h c, nc_ofL t c]; rfl
end
theorem nc_repK : ∀ {vs vs0 : List (Key × V)} {ds : List (Key × D)}, RepK K w vs ds → RepK K w0 vs0 ds → w0.ρ.length ≤ b → RepK K (w.fall b H) vs ds
  | _, _, _, .nil, _, _ => .nil
  | _, _, _, .cons h t, .cons h0 t0, c => .cons (nc_rep h (nc_of h0 c)) (nc_repK t t0 c)
theorem nc_repF : ∀ {vs vs0 : List (Str × V)} {ds : List (Str × D)}, RepF K w vs ds → RepF K w0 vs0 ds → w0.ρ.length ≤ b → RepF K (w.fall b H) vs ds
  | _, _, _, .nil, _, _ => .nil
  | _, _, _, .cons h t, .cons h0 t0, c => .cons (nc_rep h (nc_of h0 c)) (nc_repF t t0 c)
mutual
theorem nk_nc {b : Nat} : ∀ {d : D} {q : NestedKey}, nkD d = some q → nc b d = true
  | .non, _, _ => rfl
  | .bl _, _, _ => rfl
  | .int _, _, _ => rfl
  | .str _, _, _ => rfl
  | .tup ds, q, h => by
    unfold nkD at h
    unfold nc
    cases e : nkL ds with
    | none => rw [e] at h; cases h
    | some ks => exact nk_ncL e
  | .lst _, _, h => by cases h
  | .cell _, _, h => by cases h
  | .ref _, _, h => by cases h
  | .pr _ _, _, h => by cases h
  | .emp, _, h => by cases h
  | .err _ _ _, _, h => by cases h
theorem nk_ncL {b : Nat} : ∀ {ds : List D} {ks : List NestedKey}, nkL ds = some ks → ncL b ds = true
  | [], _, _ => rfl
  | d :: r, _, h => by
    unfold nkL at h
    unfold ncL
    cases e1 : nkD d with
    | none => rw [e1] at h; cases h
    | some k =>
      cases e2 : nkL r with
      | none => rw [e1, e2] at h; cases h
      | some ks => rw [nk_nc e1, nk_ncL e2]; rfl
end
theorem nc_repN : ∀ {xs xs0 : NX} {ds : List (NestedKey × D)}, RepN K w xs ds → RepN K w0 xs0 ds → w0.ρ.length ≤ b → RepN K (w.fall b H) xs ds
  | _, _, _, .nil, _, _ => .nil
  | _, _, _, .cons hk hq r ru h t, .cons _ _ _ _ h0 t0, c => .cons hk hq (nc_rep r (nk_nc hk)) ru (nc_rep h (nc_of h0 c)) (nc_repN t t0 c)
theorem mapO_rep {f : D → Option D} {w1 : Wd} (ih : ∀ v d d', Rep K w v d → f d = some d' → Rep K w1 v d') : ∀ {vs : List V} {ds ds' : List D}, RepL K w vs ds → mapO f ds = some ds' → RepL K w1 vs ds'
  | _, _, _, .nil, e => by cases e; exact .nil
  | _, _, _, .cons (d := d) (ds := ds) h t, e => by
    unfold mapO at e
    cases h1 : f d with
    | none => rw [h1] at e; cases e
    | some y =>
      cases h2 : mapO f ds with
      | none => rw [h1, h2] at e; cases e
      | some ys =>
        rw [h1, h2] at e; cases e
        exact .cons (ih _ _ _ h h1) (mapO_rep ih t h2)
theorem RepL.nd (R : RS K w H σ s) {n : Nat} {a : Addr} (h : w.ρ[n]? = some a) (hb : b ≤ n) : a ∈ w.ρ.drop b := by
  refine List.mem_of_getElem? (i := n - b) ?_
  rw [List.getElem?_drop, Nat.add_sub_cancel' hb]; exact h
theorem thaw_rep (R : RS K w H σ s) : ∀ (k : Nat) {v : V} {d d' : D}, Rep K w v d → thaw s.vh b k d = some d' → Rep K (w.fall b H) v d'
  | 0, v, d, d', r, e => by
    unfold thaw at e
    split at e
    · next c => cases e; exact nc_rep r c
    · cases e
  | k + 1, v, d, d', r, e => by
    unfold thaw at e
    split at e
    · next c => cases e; exact nc_rep r c
    · next c =>
      have ih : ∀ {v : V} {d d' : D}, Rep K w v d → thaw s.vh b k d = some d' → Rep K (w.fall b H) v d' := fun r q => thaw_rep R k r q
      cases r with
      | tup h t =>
        dsimp only at e
        cases h2 : mapO (thaw s.vh b k) _ with
        | none => rw [h2] at e; cases e
        | some ys => rw [h2] at e; cases e; exact .tup (h.up (fun _ _ e => fall_F e)) (mapO_rep (fun _ _ _ r q => ih r q) t h2)
      | lst h t =>
        dsimp only at e
        cases h2 : mapO (thaw s.vh b k) _ with
        | none => rw [h2] at e; cases e
        | some ys => rw [h2] at e; cases e; exact .lst (sqL_up (fun _ _ e => fall_F e) h) (mapO_rep (fun _ _ _ r q => ih r q) t h2)
      | @cell a n h =>
        dsimp only at e
        have hn : ¬ n < b := by simpa [nc] using c
        obtain ⟨cc, e1, hc⟩ := R.cellOf h
        rw [e1] at e
        cases cc with
        | dct _ => cases e
        | obj _ _ => cases e
        | dctL _ _ _ => cases e
        | dctN _ _ => cases e
        | lst ds =>
          dsimp only at e
          cases h2 : mapO (thaw s.vh b k) ds with
          | none => rw [h2] at e; cases e
          | some ys =>
            rw [h2] at e; cases e
            obtain ⟨vs, q1, q2⟩ := hc
            refine .lst (SqL.of ?_) (mapO_rep (fun _ _ _ r q => ih r q) q2 h2)
            show (match w.F _ with | some o => some o | none => if _ ∈ w.ρ.drop b then H _ else none) = _
            rw [R.out _ (List.mem_of_getElem? h)]
            show (if _ ∈ w.ρ.drop b then H _ else none) = _
            rw [if_pos (RepL.nd R h (by omega))]; exact q1
      | pr h r q => cases e
      | err h t => cases e
      | _ => simp [nc] at c
/-- the caller's state behind a def that changed nothing of it -/
theorem RS.back {σ0 : L2.St} {s0 : S} (R0 : RS K w0 H0 σ0 s0) (l : Le w0 H0 w H) (R : RS K w H σ s) (hp : s.vh.take s0.vh.length = s0.vh) (hb : b = s0.vh.length) : Le w0 H0 (w.fall b H) H ∧ RS K (w.fall b H) H σ0 s0 := by
  subst hb
  have hlen : s0.vh.length ≤ w.ρ.length := by
    rw [R.cl]
    have := congrArg List.length hp
    rw [List.length_take] at this
    omega
  have hρ : ∀ n a, w0.ρ[n]? = some a → (w.ρ.take s0.vh.length)[n]? = some a := fun n a e => by
    have hn : n < s0.vh.length := by rw [← R0.cl]; exact (List.getElem?_eq_some_iff.mp e).1
    rw [List.getElem?_take, if_pos hn]; exact l.le.1 n a e
  have le : w0.le (w.fall s0.vh.length H) := ⟨hρ, fun a o e => fall_F (l.le.2 a o e)⟩
  have outD : ∀ a ∈ w.ρ.drop s0.vh.length, a ∉ w.ρ.take s0.vh.length := fun a h h2 => by
    have nd := R.nd
    rw [← List.take_append_drop s0.vh.length w.ρ, List.nodup_append] at nd
    exact nd.2.2 a h2 a h rfl
  refine ⟨⟨le, l.keep, fun a h => l.newρ a (List.mem_of_mem_take h), fun a o h => ?_⟩, ?_⟩
  · have h : (match w.F a with | some o => some o | none => if a ∈ w.ρ.drop s0.vh.length then H a else none) = some o := h
    cases q : w.F a with
    | some o' => rw [q] at h; cases h; exact l.newF a _ q
    | none =>
      rw [q] at h
      have h : (if a ∈ w.ρ.drop s0.vh.length then H a else none) = some o := h
      split at h
      · next hm =>
        rcases l.newρ a (List.mem_of_mem_drop hm) with z | z
        · exact .inr (.inr z)
        · exact .inr (.inl z)
      · cases h
  · refine ⟨fun a o h => ?_, R0.len, fun i d e => ?_, ?_, R.nd.sublist (List.take_sublist _ _), fun a ha => ?_, fun n a c e1 e2 => ?_⟩
    · have h : (match w.F a with | some o => some o | none => if a ∈ w.ρ.drop s0.vh.length then H a else none) = some o := h
      cases q : w.F a with
      | some o' => rw [q] at h; cases h; exact R.sub a _ q
      | none =>
        rw [q] at h
        have h : (if a ∈ w.ρ.drop s0.vh.length then H a else none) = some o := h
        split at h
        · exact h
        · cases h
    · obtain ⟨v, h1, h2⟩ := R0.loc i d e
      exact ⟨v, h1, h2.upW le⟩
    · show (w.ρ.take s0.vh.length).length = _
      rw [List.length_take]; omega
    · show (match w.F a with | some o => some o | none => if a ∈ w.ρ.drop s0.vh.length then H a else none) = none
      rw [R.out a (List.mem_of_mem_take ha)]
      show (if a ∈ w.ρ.drop s0.vh.length then H a else none) = none
      rw [if_neg fun h => outD a h ha]
    · have e1 : (w.ρ.take s0.vh.length)[n]? = some a := e1
      have hn : n < s0.vh.length := (List.getElem?_eq_some_iff.mp e2).1
      rw [List.getElem?_take, if_pos hn] at e1
      have e2' : s.vh[n]? = some c := by
        rw [← hp, List.getElem?_take, if_pos hn] at e2; exact e2
      have hc := R.cells n a c e1 e2'
      obtain ⟨a0, _, hc0⟩ := R0.addrOf e2
      cases c with
      | lst ds =>
        obtain ⟨vs, q1, q2⟩ := hc
        obtain ⟨vs0, _, q0⟩ := hc0
        exact ⟨vs, q1, nc_repL q2 (nc_ofL q0 (Nat.le_of_eq R0.cl))⟩
      | dct kvs =>
        obtain ⟨vs, q1, q2⟩ := hc
        obtain ⟨vs0, _, q0⟩ := hc0
        exact ⟨vs, q1, nc_repK q2 q0 (Nat.le_of_eq R0.cl)⟩
      | dctN wd kvs =>
        obtain ⟨xs, q1, q2⟩ := hc
        obtain ⟨_, _, q0⟩ := hc0
        exact ⟨xs, q1, nc_repN q2 q0 (Nat.le_of_eq R0.cl)⟩
      | dctL o us kvs =>
        obtain ⟨q1, q2⟩ := hc
        obtain ⟨_, q0⟩ := hc0
        exact ⟨q1, nc_repK q2 q0 (Nat.le_of_eq R0.cl)⟩
      | obj x fs =>
        obtain ⟨C, dx, vs, q0, q1, q2⟩ := hc
        obtain ⟨_, _, vs0, _, _, q3⟩ := hc0
        exact ⟨C, dx, vs, q0, q1, nc_repF q2 q3 (Nat.le_of_eq R0.cl)⟩
end
/-! ### pure defs -/
abbrev Pf := List D → List Cell → Option D
noncomputable def fin (vh : List Cell) (s : S) (d : D) : Option D := if s.vh.take vh.length = vh then thaw s.vh vh.length 8 d else none
def initS (n : Nat) (ds : List D) (vh : List Cell) : S := ⟨ds.map some ++ List.replicate (n - ds.length) none, vh⟩
noncomputable def runP (n : Nat) (g : M Out) : Pf := fun ds vh => match g (initS n ds vh) with
  | .ok (.rt d) s => fin vh s d
  | .ok .nx s => fin vh s .non
  | _ => none
/-- the promise: from data to a datum, nothing of the caller's changed -/
def SpP (K : PySem.W.Frag) (n : Nat) (F : Pf) : Sp := fun vs H Q _ => vs.length = n ∧ ∃ w σ s ds d, RS K w H σ s ∧ RepL K w vs ds ∧ F ds s.vh = some d ∧ ∀ w' H' v, Le w H w' H' → RS K w' H' σ s → Rep K w' v d → Q v H'
theorem fn_pure {P : Program} {wd : World} {K : PySem.W.Frag} {mg : Str → Option Value} {base : Heap} {x qual : Str} {st : Stmt} {f : Addr} {fd : FuncData} {N ps : List Str} {k : Nat} {g : M Out} (F : Fun K x qual st f fd) (Sc : FnScope N ps (defScope st)) (hle : ps.length ≤ N.length)
    (body : ∀ (cdv : Value) (A : Around) (outer : List Env) (s : Shared) (H : Hp) (E : XK), Room k (A.deeper (envOfC qual (defScope st) s.heap.objs.size f cdv)) →
      DSs (cxOf CX0 P wd K mg base N qual (defScope st) f cdv A outer s H E).nox W0 (defBody st) g) : FnOk P wd K mg base CX0 (k + 1) f fd ps (SpP K ps.length (runP N.length g)) := by
  refine F.ok Sc (fun vs H Q E h => h.1) fun cdv A outer s H vs Q E hr h => ?_
  obtain ⟨t, p, r⟩ := body cdv A outer s H E hr
  obtain ⟨hl, w, σ, z, ds, d, R, rv, e, q⟩ := h
  refine ⟨t, p, r w H _ (initS N.length ds z.vh) _ ?_ ?_⟩
  · have hdl := RepL.length rv
    refine R.other (l := ds.map some ++ List.replicate (N.length - ds.length) none) ?_ fun i d hi => ?_
    · show (vs.map some ++ List.replicate (N.length - vs.length) none).length = _
      simp only [List.length_append, List.length_map, List.length_replicate]
      rw [hdl]
    · by_cases hlt : i < ds.length
      · rw [List.getElem?_append_left (by rw [List.length_map]; exact hlt), List.getElem?_map] at hi
        cases h2 : ds[i]? with
        | none => rw [h2] at hi; cases hi
        | some d2 =>
          rw [h2] at hi; cases hi
          obtain ⟨v, h3, h4⟩ := RepL.get rv h2
          refine ⟨v, ?_, h4⟩
          show (vs.map some ++ _)[i]? = _
          rw [List.getElem?_append_left (by rw [List.length_map, hdl]; exact hlt), List.getElem?_map, h3]; rfl
      · rw [List.getElem?_append_right (by rw [List.length_map]; omega)] at hi
        have := List.mem_of_getElem? hi
        rw [List.mem_replicate] at this
        cases this.2
  · show PostS K W0 w H (g (initS N.length ds z.vh)) _
    unfold runP at e
    have fin_ok : ∀ {d0 : D} {s1 : S}, fin z.vh s1 d0 = some d → ∀ w' H' σ' v, Le w H w' H' → RS K w' H' σ' s1 → Rep K w' v d0 → Q v H' := fun {d0 s1} e w' H' σ' v l R' rv => by
      unfold fin at e
      split at e
      · next hp =>
        obtain ⟨l2, R2⟩ := RS.back R l R' hp rfl
        exact q _ _ _ l2 R2 (thaw_rep R' 8 rv e)
      · cases e
    cases hg : g (initS N.length ds z.vh) with
    | bad => rw [hg] at e; cases e
    | exc x s1 => rw [hg] at e; cases e
    | ok o s1 =>
      rw [hg] at e
      cases o with
      | brk => cases e
      | cnt => cases e
      | rt d0 => exact fun w' H' σ' v l R' rv => fin_ok e w' H' σ' v l R' rv
      | nx => exact fun w' H' σ' l R' => fin_ok e w' H' σ' .non l R' .non
/-- a def of the text that keeps such a promise, by its name -/
structure FnP (P : Program) (wd : World) (K : PySem.W.Frag) (mg : Str → Option Value) (base : Heap) (x : Str) (n k : Nat) (F : Pf) : Prop where
  ex : ∃ (f : Addr) (fd : FuncData) (ps : List Str), ps.length = n ∧ mg x = some (.ref f) ∧ PySem.W.keepIn K (.ref f) = true ∧ Binds K fd ps [] ∧ FnOk P wd K mg base CX0 k f fd ps (SpP K n F)
theorem FnP.mono {P : Program} {wd : World} {K : PySem.W.Frag} {mg : Str → Option Value} {base : Heap} {x : Str} {n j k : Nat} {F : Pf} (h : FnP P wd K mg base x n j F) (l : j ≤ k) : FnP P wd K mg base x n k F :=
  let ⟨f, fd, ps, a, b, c, d, e⟩ := h.ex; ⟨f, fd, ps, a, b, c, d, e.mono l⟩
def callP (n : Nat) (F : Pf) (ds : List D) : M D := fun s => if ds.length = n then match F ds s.vh with
  | some d => .ok d s
  | none => .bad else .bad
theorem de_callP {x : Str} {n k : Nat} {F : Pf} {e : Expr} {es : List Expr} {fs : M (List D)} {p pos : Pos} (h : FnP X.prog X.w X.K X.mg X.base x n k F) (hr : Room k X.A) (ha : DA X W (e :: es) fs) (hg : Gl X x := by rfl) (hdb : (x == ("__debug__" : Str)) = false := by decide)
    (he : starEach (e :: es) X.env = (false, eval e X.env) :: starEach es X.env := by rfl) (hpl : (backTo pos (starEach es X.env)).any (·.1) = false := by rfl) : DE X W (.Call (.Name x p) (e :: es) [] pos) (bnd fs (callP n F)) := by
  obtain ⟨f, fd, ps, hps, hm, hk, hb, G⟩ := h.ex
  obtain ⟨t, q, r⟩ := ha
  refine ⟨_, pe_call G hr hg hm hk hb .nil pass0 q hdb he hpl, fun w H σ s Q R z => ?_⟩
  refine r.bnd R z fun ds s1 w1 H1 vs l1 R1 r1 p1 => ?_
  have p1 : Post X.K W (pD X.K) w1 H1 σ (if ds.length = n then match F ds s1.vh with
    | some d => .ok d s1
    | none => .bad else .bad) Q := p1
  by_cases hl : ds.length = n
  · rw [if_pos hl] at p1
    cases hF : F ds s1.vh with
    | none => rw [hF] at p1; exact p1.elim
    | some d =>
      rw [hF] at p1
      refine ⟨?_, w1, σ, s1, ds, d, R1, ?_, hF, fun w' H' v l R' r' => p1 w' H' v l R' r'⟩
      · rw [List.append_nil, RepL.length r1]; exact hl
      · rw [List.append_nil]; exact r1
  · rw [if_neg hl] at p1; exact p1.elim
end Fx

namespace Fx
open PySem PySem.Spec PyProof.Rows L2
variable {X : Cx} {W : WX}
/-! ### built-in calls -/
def RCal (X : Cx) (r : List V → Hp → VK → Prop) (g : List D → M D) : Prop := ∀ (W : WX) w H σ s vs ds Q, RS X.K w H σ s → RepL X.K w vs ds → Post X.K W (pD X.K) w H σ (g ds s) Q → r vs H Q
section
variable {id : String} {r : List V → Hp → VK → Prop} {x : Str} {e : Expr} {es : List Expr} {fs : M (List D)} {p pos : Pos} {T : String}
theorem de_callB {g : List D → M D} (hc : CallR X (.builtin id) r) (hr : RCal X r g) (hm : X.mg x = none) (ha : DA X W (e :: es) fs) (hv : bootBuiltins x = some (.builtin id)) (hg : Gl X x := by rfl) (hn : x ≠ "__name__" := by decide) (hdb : (x == ("__debug__" : Str)) = false := by decide)
    (he : starEach (e :: es) X.env = (false, eval e X.env) :: starEach es X.env := by rfl) (hpl : (backTo pos (starEach es X.env)).any (·.1) = false := by rfl) : DE X W (.Call (.Name x p) (e :: es) [] pos) (bnd fs g) := by
  obtain ⟨t, q, k⟩ := ha
  refine ⟨_, pe_callB hc hg hm hv q hn hdb he hpl, fun w H σ s Q R z => ?_⟩
  exact k.bnd R z fun ds s1 w1 H1 vs l1 R1 r1 p1 => hr W w1 H1 σ s1 vs ds Q R1 r1 p1
end
theorem one_of {K : PySem.W.Frag} {w : Wd} {vs : List V} {d : D} (r : RepL K w vs [d]) : ∃ v, vs = [v] ∧ Rep K w v d := by
  cases r with | cons h t => cases t; exact ⟨_, rfl, h⟩
/-! len -/
def lenM : List D → M D
  | [d] => fun s => match d with
    | .str x => if lenOk x.length = true then .ok (.int x.length) s else .bad
    | .tup ds => .ok (.int ds.length) s
    | d => match lstOf s d with
      | some ds => .ok (.int ds.length) s
      | none => match dctOf s d with
        | some kvs => .ok (.int kvs.length) s
        | none => .bad
  | _ => fail
theorem callR_or {f : Value} {r1 r2 : List V → Hp → VK → Prop} (h1 : CallR X f r1) (h2 : CallR X f r2) : CallR X f (fun xs H Q => r1 xs H Q ∨ r2 xs H Q) := by
  intro pins s σ H xs us Q I r h
  rcases h with h | h
  · exact h1 pins s σ H xs us Q I r h
  · exact h2 pins s σ H xs us Q I r h
theorem RepK.length {K : PySem.W.Frag} {w : Wd} : ∀ {vs : List (Key × V)} {ds : List (Key × D)}, RepK K w vs ds → vs.length = ds.length
  | _, _, .nil => rfl
  | _, _, .cons _ t => by simp only [List.length_cons]; rw [RepK.length t]
theorem rc_len : RCal X (fun xs H Q => (∃ x n, xs = [x] ∧ LenV X.K x H n ∧ Q (.int n) H) ∨ ∃ a kvs, xs = [V.ref a] ∧ H a = some (.dK kvs) ∧ Q (.int kvs.length) H) lenM := by
  intro W w H σ s vs ds Q R r p
  unfold lenM at p
  split at p
  · next d =>
    obtain ⟨v, rfl, rv⟩ := one_of r
    split at p
    · next x =>
      split at p
      · next k => cases rv; exact .inl ⟨_, _, rfl, ⟨of_decide_eq_true k, rfl⟩, Post.here p R (Rep.int _)⟩
      · exact p.elim
    · next es =>
      obtain ⟨a, us, rfl, h1, h2⟩ := R.tuple rv (ds := es) rfl
      refine .inl ⟨_, us.length, rfl, .inr ⟨us, h1, rfl⟩, ?_⟩
      rw [RepL.length h2]; exact Post.here p R (Rep.int _)
    · split at p
      · next es he =>
        obtain ⟨a, us, rfl, h1, h2⟩ := R.list rv he
        refine .inl ⟨_, us.length, rfl, .inl ⟨us, h1, rfl⟩, ?_⟩
        rw [RepL.length h2]; exact Post.here p R (Rep.int _)
      · split at p
        · next kvs he =>
          obtain ⟨a, us, rfl, h1, h2⟩ := R.dict rv he
          refine .inr ⟨_, us, rfl, h1, ?_⟩
          rw [RepK.length h2]; exact Post.here p R (Rep.int _)
        · exact p.elim
  · exact p.elim
theorem de_len {e : Expr} {fs : M (List D)} {p pos : Pos} (hm : X.mg "len" = none) (ha : DA X W [e] fs) (hg : Gl X "len" := by rfl) (he : starEach [e] X.env = (false, eval e X.env) :: starEach [] X.env := by rfl) (hpl : (backTo pos (starEach [] X.env)).any (·.1) = false := by rfl) :
    DE X W (.Call (.Name "len" p) [e] [] pos) (bnd fs lenM) := de_callB (callR_or call_len call_lenD) rc_len hm ha PySem.boot_len hg (by decide) (by decide) he hpl
/-! isinstance of a built-in class -/
def tyName (s : S) : D → Option String
  | .non => some "NoneType"
  | .bl _ => some "bool"
  | .int _ => some "int"
  | .str _ => some "str"
  | .tup _ => some "tuple"
  | .lst _ => some "list"
  | .cell n => match s.vh[n]? with
    | some (.lst _) => some "list"
    | some (.dct _) => some "dict"
    | some (.obj _ _) => none
    | some (.dctL _ _ _) => none
    | some (.dctN _ _) => none
    | none => none
  | .ref _ => none
  | .pr _ _ => none
  | .emp => some "dict"
  | .err _ _ _ => none
def isaT (T a : String) : Bool := (a == T) || (T == "int" && a == "bool")
def isaM (T : String) (d : D) : M D := fun s => match tyName s d with
  | some a => .ok (.bl (isaT T a)) s
  | none => .bad
theorem tyx_of {K : PySem.W.Frag} {w : Wd} {H : Hp} {σ : L2.St} {s : S} {v : V} {d : D} {a : String} (R : RS K w H σ s) (r : Rep K w v d) (h : tyName s d = some a) : TyX K H v (.type a) := by
  cases r with
  | non => cases h; exact .base .non
  | bl b => cases h; exact .base (.bl b)
  | int i => cases h; exact .base (.int i)
  | str x => cases h; exact .base (.str x)
  | ref a => cases h
  | pr _ _ _ => cases h
  | err _ _ => cases h
  | emp h1 =>
    cases h
    exact .base (.dK (R.sub _ _ h1))
  | tup h1 t =>
    cases h
    rcases sqT_up R.sub h1.sq with (h2 | ⟨o, h2⟩) | ⟨o, its, n, h2, h3, _⟩
    · exact .base (.tup h2)
    · exact .fTuple h2
    · exact .kTuple h2 h3
  | lst h1 t =>
    cases h
    rcases sqL_up R.sub h1 with (h2 | ⟨o, h2⟩) | ⟨o, its, n, h2, h3, _⟩
    · exact .base (.lst h2)
    · exact .base (.frz h2)
    · exact .kList h2 h3
  | cell h1 =>
    obtain ⟨c, e, hc⟩ := R.cellOf h1
    unfold tyName at h
    simp only [e] at h
    cases c with
    | lst ds => simp at h; subst h; obtain ⟨vs, h2, _⟩ := hc; exact .base (.lst h2)
    | dct ds => simp at h; subst h; obtain ⟨vs, h2, _⟩ := hc; exact .base (.dK h2)
    | obj _ _ => simp at h
    | dctL _ _ _ => simp at h
    | dctN _ _ => simp at h
def sixT : List String := ["int", "bool", "str", "tuple", "list", "dict"]
def sevA : List String := ["NoneType", "bool", "int", "str", "tuple", "list", "dict"]
theorem kit_all : ∀ T ∈ sixT, ∀ a ∈ sevA, kitB a T = some (isaT T a) := by decide +kernel
theorem tyName_in {s : S} {d : D} {a : String} (h : tyName s d = some a) : a ∈ sevA := by
  unfold tyName at h
  split at h <;> first
    | (cases h; decide)
    | (split at h <;> first | (cases h; decide) | cases h)
    | cases h
theorem de_isa (T : String) {e : Expr} {f : M D} {p p2 pos : Pos} (hi : X.mg "isinstance" = none) (hm : X.mg (Str.ofString T) = none) (h : DE X W e f) (hv : bootBuiltins (Str.ofString T) = some (.type T)) (hT : T ∈ sixT := by decide) (hg : Gl X "isinstance" := by rfl) (hg2 : Gl X (Str.ofString T) := by rfl)
    (hn : Str.ofString T ≠ "__name__" := by decide) (hd : (Str.ofString T == ("__debug__" : Str)) = false := by decide)
    (hst : starEach [e, .Name (Str.ofString T) p2] X.env = (false, eval e X.env) :: starEach [.Name (Str.ofString T) p2] X.env := by rfl) (hst2 : starEach [.Name (Str.ofString T) p2] X.env = (false, eval (.Name (Str.ofString T) p2) X.env) :: starEach [] X.env := by rfl)
    (hpl : (backTo pos (starEach [.Name (Str.ofString T) p2] X.env)).any (·.1) = false := by rfl) :
    DE X W (.Call (.Name "isinstance" p) [e, .Name (Str.ofString T) p2] [] pos) (bnd f (isaM T)) := by
  obtain ⟨t, q, k⟩ := h
  refine ⟨_, pe_callB call_isi hg hi (by decide +kernel) (pa_cons q (pa_cons (pe_bltn (v := .ty T) hg2 hm hv rfl hn hd) pa_nil hst2) hst) (by decide) (by decide) hst hpl, fun w H σ s Q R z => ?_⟩
  refine k.bnd R z fun d s1 w1 H1 v l1 R1 r1 p1 => ?_
  have p1 : Post X.K W (pD X.K) w1 H1 σ (match tyName s1 d with
    | some a => .ok (.bl (isaT T a)) s1
    | none => .bad) Q := p1
  cases ht : tyName s1 d with
  | none => rw [ht] at p1; exact p1.elim
  | some a =>
    rw [ht] at p1
    exact ⟨v, .ty T, .type a, .type T, isaT T a, rfl, .ty T, tyx_of R1 r1 ht, kit_ty (kit_all T hT a (tyName_in ht)), Post.here p1 R1 (Rep.bl _)⟩
/-! ### + -/
def addM : D → D → M D
  | .int i, .int j => ret (.int (i + j))
  | .str a, .str b => if lenOk (a.length + b.length) = true then ret (.str (a ++ b)) else fail
  | .tup a, .tup b => if lenOk (a.length + b.length) = true then ret (.tup (a ++ b)) else fail
  | d, e => fun s => match lstOf s d, lstOf s e with
    | some xs, some ys => if lenOk (xs.length + ys.length) = true then .ok (.lst (xs ++ ys)) s else .bad
    | _, _ => .bad
def rCatR (K : PySem.W.Frag) : R2 := fun x y H Q => ∃ l b xs zs, x = .ref l ∧ y = .ref b ∧ SqL K H l xs ∧ SqL K H b zs ∧ xs.length + zs.length ≤ sizeLine ∧ ∀ p, H p = none → Q (.ref p) (upd H p (.lst (xs ++ zs)))
theorem op_catR : OpR X (binaryOp .Add) (rCatR X.K) := by
  intro pins s σ H x y v u Q I rx ry h
  obtain ⟨l, b, xs, zs, rfl, rfl, hH, hB, hz, q⟩ := h
  cases rx
  cases ry
  obtain ⟨its, r, ⟨⟨cls, dd, data, sl⟩, n, ho, hc, hdd, hd⟩, _⟩ := I.list hH
  obtain ⟨its2, r2, ⟨⟨cls2, dd2, data2, sl2⟩, n2, ho2, hc2, hdd2, hd2⟩, _⟩ := I.list hB
  simp only at hc hd hc2 hd2
  subst hc hd hc2 hd2
  have hl := r.length
  have hl2 := r2.length
  refine concat_meets ⟨_, ho, rfl⟩ ⟨_, ho2, rfl⟩ noFill_list_add seq_list_add PySem.F.slot_list_add PySem.F.entry_list_add (PySem.F.args_list_add_2 _ _) (list_addW l b its.toArray its2.toArray n n2 dd dd2 sl sl2 (by rw [List.size_toArray, List.size_toArray]; omega)) ⟨ho, ho2, ?_⟩
  have ea : its.toArray ++ its2.toArray = (its ++ its2).toArray := by simp
  rw [ea]
  exact ⟨.ref _, _, I.lnew (t' := s.toks) (r.append r2) (by rw [List.length_append]; omega), rfl, q _ I.fresh⟩
/-- t + u, tuples: where one is empty it is the other one, else a new one -/
def rCatTC (K : PySem.W.Frag) : R2 := fun x y H Q => ∃ a b xs ys, x = .ref a ∧ y = .ref b ∧ SqT K H a xs ∧ SqT K H b ys ∧ xs.length + ys.length ≤ sizeLine ∧
  (xs = [] → Q (.ref b) H) ∧ (ys = [] → Q (.ref a) H) ∧ ∀ (p : Addr) (o : Obj), o.dict = none → H p = none → Q (.ref p) (upd H p (.frz o (.tup (xs ++ ys))))
theorem op_catTC : OpR X (binaryOp .Add) (rCatTC X.K) := by
  intro pins s σ H x y v u Q I rx ry h
  obtain ⟨a, b, xs, ys, rfl, rfl, ha, hb, hz, q0, q1, q2⟩ := h
  cases rx
  cases ry
  obtain ⟨its, r1, p1, _⟩ := I.tuple ha
  obtain ⟨its2, r2, p2, _⟩ := I.tuple hb
  by_cases hx : xs = []
  · subst hx
    cases r1
    exact cat_tup0 p1 p2 ⟨.ref b, H, I, rfl, q0 rfl⟩
  · refine HT.cat_tup p1 p2 (fun z => hx ?_) (fun z => ⟨.ref a, H, I, rfl, q1 ?_⟩) (fun z => ?_) ?_
    · subst z; cases r1; rfl
    · subst z; cases r2; rfl
    · have hd : ({ cls := .type "tuple", data := .seq (its ++ its2).toArray } : Obj).dict = none := rfl
      obtain ⟨ob, hob⟩ : ∃ ob : Obj, ob = { cls := .type "tuple", data := .seq (its ++ its2).toArray } := ⟨_, rfl⟩
      rw [← hob] at hd ⊢
      have hg : (s.heap.push ob).get? s.heap.objs.size = some ob := Heap.get?_push_size _ (by rw [hob]; rfl)
      exact ⟨.ref s.heap.objs.size, _, I.laid (t' := s.toks) (o := .frz ob (.tup (xs ++ ys))) (fun b ob k => Heap.get?_push_of_some _ k) (Nat.le_refl _)
        ⟨hg, by rw [List.length_append]; exact hz, _, r1.append r2, ⟨_, hg, by rw [hob], _, by rw [hob]⟩⟩, rfl, q2 _ _ hd (I.hok.fresh (Nat.le_refl _))⟩
    · rw [← r1.length, ← r2.length]; exact hz
theorem de_add {a b : Expr} {fa fb : M D} {pos : Pos} (ha : DE X W a fa) (hb : DE X W b fb) : DE X W (.BinOp a .Add b pos) (bnd fa fun d => bnd fb fun e => addM d e) :=
  de_op (opr_or op_add (opr_or op_add_str (opr_or op_catTC op_catR))) (fun W w H σ s x y d e Q R rx ry p => by
    unfold addM at p
    split at p
    · cases rx; cases ry; exact .inl ⟨_, _, rfl, rfl, Post.here p R (Rep.int _)⟩
    · cases rx; cases ry
      split at p
      · next k => exact .inr (.inl ⟨_, _, rfl, rfl, of_decide_eq_true k, Post.here p R (Rep.str _)⟩)
      · exact p.elim
    · next ds es =>
      split at p
      · next k =>
        obtain ⟨l, vs, rfl, h1, h2⟩ := R.tuple rx (ds := ds) rfl
        obtain ⟨b, us, rfl, h3, h4⟩ := R.tuple ry (ds := es) rfl
        have hk : ds.length + es.length ≤ sizeLine := of_decide_eq_true k
        refine .inr (.inr (.inl ⟨l, b, vs, us, rfl, rfl, h1, h3, by rw [RepL.length h2, RepL.length h4]; exact hk, fun z => ?_, fun z => ?_, fun q o ho hq => ?_⟩))
        · subst z
          cases h2
          exact Post.here p R ry
        · subst z
          cases h4
          rw [List.append_nil] at p
          exact Post.here p R rx
        · obtain ⟨l3, R3, r3⟩ := R.newT hq (RepL.append h2 h4) ho
          exact p _ _ _ l3 R3 r3
      · exact p.elim
    · dsimp only at p
      split at p
      · next xs ys hx hy =>
        split at p
        · next k =>
          obtain ⟨l, vs, rfl, h1, h2⟩ := R.list rx hx
          obtain ⟨b, us, rfl, h3, h4⟩ := R.list ry hy
          have hk : xs.length + ys.length ≤ sizeLine := of_decide_eq_true k
          refine .inr (.inr (.inr ⟨l, b, vs, us, rfl, rfl, h1, h3, by rw [RepL.length h2, RepL.length h4]; exact hk, fun q hq => ?_⟩))
          obtain ⟨l3, R3, r3⟩ := R.newL hq (RepL.append h2 h4)
          exact p _ _ _ l3 R3 r3
        · exact p.elim
      · exact p.elim) ha hb
/-! ### comparisons -/
def isNonM : D → M D
  | .non => ret (.bl true)
  | _ => ret (.bl false)
def notNonM : D → M D
  | .non => ret (.bl false)
  | _ => ret (.bl true)
theorem non_of {K : PySem.W.Frag} {w : Wd} {v : V} {d : D} (r : Rep K w v d) : decide (v = V.non) = (match d with | .non => true | _ => false) := by
  cases r <;> simp
theorem rop_isN : ROp X (fun x y H Q => y = .non ∧ Q (.bl (decide (x = .non))) H) (fun d e => match e with | .non => isNonM d | _ => fail) := by
  intro W w H σ s x y d e Q R rx ry p
  cases ry with
  | non =>
    refine ⟨rfl, ?_⟩
    rw [non_of rx]
    cases d <;> exact Post.here p R (Rep.bl _)
  | _ => exact p.elim
/-! what == sees -/
mutual
def pyT : D → Option PyData
  | .non => some .none
  | .bl b => some (.bool b)
  | .int i => some (.int i)
  | .str x => some (.str x)
  | .tup xs => (pyL xs).map .tuple
  | .lst xs => (pyL xs).map .list
  | _ => none
def pyL : List D → Option (List PyData)
  | [] => some []
  | x :: xs => match pyT x, pyL xs with
    | some y, some ys => some (y :: ys)
    | _, _ => none
end
def pyD (s : S) (d : D) : Option PyData := match d with
  | .cell n => match s.vh[n]? with
    | some (.lst xs) => (pyL xs).map .list
    | _ => none
  | d => pyT d
mutual
theorem dp_of {K : PySem.W.Frag} {w : Wd} {H : Hp} (sub : ∀ a o, w.F a = some o → H a = some o) : ∀ {v : V} {d : D} {q : PyData}, Rep K w v d → pyT d = some q → Dp K H v q
  | _, _, _, .non, e => by cases e; exact .non
  | _, _, _, .bl b, e => by cases e; exact .bl b
  | _, _, _, .int i, e => by cases e; exact .int i
  | _, _, _, .str x, e => by cases e; exact .str x
  | _, _, _, .ref a, e => by cases e
  | _, _, _, .pr _ _ _, e => by cases e
  | _, _, _, .emp _, e => by cases e
  | _, _, _, .err _ _, e => by cases e
  | _, _, _, .cell h, e => by cases e
  | _, _, _, .tup (ds := ds) h t, e => by
    unfold pyT at e
    cases q : pyL ds with
    | none => rw [q] at e; cases e
    | some qs => rw [q] at e; cases e; exact .tup (sqT_up sub h.sq) (dpL_of sub t q)
  | _, _, _, .lst (ds := ds) h t, e => by
    unfold pyT at e
    cases q : pyL ds with
    | none => rw [q] at e; cases e
    | some qs => rw [q] at e; cases e; exact .lst (sqL_up sub h) (dpL_of sub t q)
theorem dpL_of {K : PySem.W.Frag} {w : Wd} {H : Hp} (sub : ∀ a o, w.F a = some o → H a = some o) : ∀ {vs : List V} {ds : List D} {qs : List PyData}, RepL K w vs ds → pyL ds = some qs → DpAll K H vs qs
  | _, _, _, .nil, e => by cases e; exact .nil
  | _, _, _, .cons (d := d) (ds := ds) h t, e => by
    unfold pyL at e
    cases h1 : pyT d with
    | none => rw [h1] at e; cases e
    | some y =>
      cases h2 : pyL ds with
      | none => rw [h1, h2] at e; cases e
      | some ys => rw [h1, h2] at e; cases e; exact .cons (dp_of sub h h1) (dpL_of sub t h2)
end
theorem RS.py {K : PySem.W.Frag} {w : Wd} {H : Hp} {σ : L2.St} {s : S} {v : V} {d : D} {q : PyData} (R : RS K w H σ s) (r : Rep K w v d) (h : pyD s d = some q) : Dp K H v q := by
  cases r with
  | @cell a n h1 =>
    obtain ⟨c, e, hc⟩ := R.cellOf h1
    unfold pyD at h
    simp only [e] at h
    cases c with
    | dct _ => simp at h
    | obj _ _ => simp at h
    | dctL _ _ _ => simp at h
    | dctN _ _ => simp at h
    | lst ds =>
      dsimp only at h
      cases h2 : pyL ds with
      | none => rw [h2] at h; cases h
      | some ys =>
        rw [h2] at h; cases h
        obtain ⟨vs, h3, h4⟩ := hc
        exact .lst (SqL.of h3) (dpL_of R.sub h4 h2)
  | non => exact dp_of R.sub .non h
  | bl b => exact dp_of R.sub (.bl b) h
  | int i => exact dp_of R.sub (.int i) h
  | str x => exact dp_of R.sub (.str x) h
  | ref a => exact dp_of R.sub (.ref a) h
  | pr _ _ _ => cases h
  | emp _ => cases h
  | err _ _ => cases h
  | tup h1 t => exact dp_of R.sub (.tup h1 t) h
  | lst h1 t => exact dp_of R.sub (.lst h1 t) h
def eqD (d e : D) : M D := fun s => match pyD s d, pyD s e with
  | some p, some q => if (SeqAt.shaped p && SeqAt.shaped q) = true then .ok (.bl (PyData.eqv p q)) s else .bad
  | _, _ => .bad
def neD (d e : D) : M D := fun s => match pyD s d, pyD s e with
  | some p, some q => if (SeqAt.shaped p && SeqAt.shaped q) = true then .ok (.bl (!PyData.eqv p q)) s else .bad
  | _, _ => .bad
def eqM : D → D → M D
  | .str a, .str b => ret (.bl (decide (a = b)))
  | d, e => eqD d e
def neM : D → D → M D
  | .str a, .str b => ret (.bl (!decide (a = b)))
  | d, e => neD d e
theorem rop_eqD : ROp X (rEqD X.K) eqD := by
  intro W w H σ s x y d e Q R rx ry p
  unfold eqD at p
  split at p
  · next p1 q1 h1 h2 =>
    split at p
    · next k =>
      rw [Bool.and_eq_true] at k
      exact ⟨p1, q1, R.py rx h1, R.py ry h2, k.1, k.2, Post.here p R (Rep.bl _)⟩
    · exact p.elim
  · exact p.elim
theorem rop_neD : ROp X (rNeD X.K) neD := by
  intro W w H σ s x y d e Q R rx ry p
  unfold neD at p
  split at p
  · next p1 q1 h1 h2 =>
    split at p
    · next k =>
      rw [Bool.and_eq_true] at k
      exact ⟨p1, q1, R.py rx h1, R.py ry h2, k.1, k.2, Post.here p R (Rep.bl _)⟩
    · exact p.elim
  · exact p.elim
theorem rop_eq : ROp X (fun x y H Q => rEq x y H Q ∨ rEqD X.K x y H Q) eqM := by
  intro W w H σ s x y d e Q R rx ry p
  unfold eqM at p
  split at p
  · next a b =>
    cases rx; cases ry
    refine .inl ⟨rfl, ?_⟩
    have e : decide (V.str a = V.str b) = decide (a = b) := by
      by_cases h : a = b
      · subst h; simp
      · rw [decide_eq_false h]
        exact decide_eq_false fun z => h (V.str.inj z)
    rw [e]
    exact Post.here p R (Rep.bl _)
  · exact .inr (rop_eqD W w H σ s x y d e Q R rx ry p)
theorem rop_ne : ROp X (fun x y H Q => rNe x y H Q ∨ rNeD X.K x y H Q) neM := by
  intro W w H σ s x y d e Q R rx ry p
  unfold neM at p
  split at p
  · next a b =>
    cases rx; cases ry
    refine .inl ⟨rfl, ?_⟩
    have e : decide (V.str a = V.str b) = decide (a = b) := by
      by_cases h : a = b
      · subst h; simp
      · rw [decide_eq_false h]
        exact decide_eq_false fun z => h (V.str.inj z)
    rw [e]
    exact Post.here p R (Rep.bl _)
  · exact .inr (rop_neD W w H σ s x y d e Q R rx ry p)
theorem op_eqA (hu : X.A.units + 64 < cLine) : OpR X (compareOp .Eq) (fun x y H Q => rEq x y H Q ∨ rEqD X.K x y H Q) := opr_or op_eq (op_eqD hu)
theorem op_neA (hu : X.A.units + 64 < cLine) : OpR X (compareOp .NotEq) (fun x y H Q => rNe x y H Q ∨ rNeD X.K x y H Q) := opr_or op_ne (op_neD hu)
theorem units_of {A : Around} {k : Nat} (hr : Room k A) : A.units + 64 < cLine := by have := hr.un; omega
def leM : D → D → M D := i2 fun i j => .bl (decide (i ≤ j))
def gtM : D → D → M D := i2 fun i j => .bl (decide (j < i))
def geM : D → D → M D := i2 fun i j => .bl (decide (j ≤ i))
end Fx

namespace Fx
open PySem PySem.Spec PyProof.Rows L2
variable {X : Cx} {W : WX}
abbrev bin (op : D → D → M D) (a b : M D) : M D := bnd a fun d => bnd b fun e => op d e
abbrev tst (a : M D) : M Bool := bnd a asB
/-! ### a[i] -/
def ixM : D → D → M D := fun d e s => match e with
  | .int i => match d with
    | .str x => if lenOk x.length = true then (match atI x.cps.toList i with
      | some c => .ok (.str ⟨#[c]⟩) s
      | none => .bad) else .bad
    | .tup ds => match atI ds i with
      | some y => .ok y s
      | none => .bad
    | d => match lstOf s d with
      | some ds => match atI ds i with
        | some y => .ok y s
        | none => .bad
      | none => .bad
  | _ => .bad
theorem RepL.at {K : PySem.W.Frag} {w : Wd} {vs : List V} {ds : List D} {i : Int} {d : D} (r : RepL K w vs ds) (h : atI ds i = some d) : ∃ v, atI vs i = some v ∧ Rep K w v d := by
  unfold atI at h ⊢
  rw [RepL.length r]
  cases e : ixN ds.length i with
  | none => rw [e] at h; cases h
  | some j =>
    rw [e] at h
    exact RepL.get r h
theorem rop_ix : ROp X (rIx X.K) ixM := by
  intro W w H σ s x y d e Q R rx ry p
  unfold ixM at p
  split at p
  · next i =>
    cases ry
    split at p
    · next z =>
      cases rx
      split at p
      · next k =>
        split at p
        · next c hc => exact .inr (.inr ⟨z, i, c, rfl, rfl, of_decide_eq_true k, hc, Post.here p R (Rep.str _)⟩)
        · exact p.elim
      · exact p.elim
    · next ds =>
      split at p
      · next y hy =>
        obtain ⟨a, us, rfl, h1, h2⟩ := R.tuple rx (ds := ds) rfl
        obtain ⟨v, hv, rv⟩ := RepL.at h2 hy
        exact .inr (.inl ⟨a, us, i, v, rfl, rfl, h1, hv, Post.here p R rv⟩)
      · exact p.elim
    · split at p
      · next ds hd =>
        split at p
        · next y hy =>
          obtain ⟨a, us, rfl, h1, h2⟩ := R.list rx hd
          obtain ⟨v, hv, rv⟩ := RepL.at h2 hy
          exact .inl ⟨a, us, i, v, rfl, rfl, h1, hv, Post.here p R rv⟩
        · exact p.elim
      · exact p.elim
  · exact p.elim
theorem de_ix {a b : Expr} {fa fb : M D} {pos : Pos} (ha : DE X W a fa) (hb : DE X W b fb) (hs : PlainIx b := by exact fun _ _ => rfl) : DE X W (.Subscript a b pos) (bin ixM fa fb) := by
  obtain ⟨ta, pa, ra⟩ := ha
  obtain ⟨tb, pb, rb⟩ := hb
  refine ⟨_, pe_ix ix_seq pa pb hs, fun w H σ s Q R p => ?_⟩
  refine ra.bnd R p fun d s1 w1 H1 v1 l1 R1 r1 p1 => ?_
  refine rb.bnd R1 p1 fun e s2 w2 H2 v2 l2 R2 r2 p2 => ?_
  exact rop_ix W w2 H2 σ s2 v1 v2 d e Q R2 (Rep.up l2 r1) r2 p2
/-! ### slices -/
def partM (f : M D) : M (Option Int) := bnd f fun d => match d with
  | .int i => ret (some i)
  | _ => fail
def cutD (xs : List D) (lo hi : Option Int) : List D := (xs.drop (HT.sIx xs.length 0 lo)).take (HT.sIx xs.length xs.length hi - HT.sIx xs.length 0 lo)
theorem RepL.cut {K : PySem.W.Frag} {w : Wd} {vs : List V} {ds : List D} (r : RepL K w vs ds) (lo hi : Option Int) : RepL K w (cutV vs lo hi) (cutD ds lo hi) := by
  unfold cutV cutD
  rw [RepL.length r]
  exact (r.drop _).take _
/-- of a text -/
def slS (f : M D) (lo hi : M (Option Int)) : M D := bnd f fun d => bnd lo fun l => bnd hi fun u => match d with
  | .str x => if lenOk x.length = true then ret (.str (cutS x l u)) else fail
  | _ => fail
/-- of a list -/
def slL (f : M D) (lo hi : M (Option Int)) : M Cell := bnd f fun d => bnd lo fun l => bnd hi fun u => fun s => match lstOf s d with
  | some ds => .ok (.lst (cutD ds l u)) s
  | none => .bad
section
variable {e : Expr} {lo hi : Option Expr} {f : M D} {fl fh : M (Option Int)} {pos p2 : Pos}
end
/-! ### list(..), tuple(..), ord, str of an int, abs, min, max of two -/
def listN : List D → M Cell
  | [d] => fun s => match d with
    | .tup ds => .ok (.lst ds) s
    | d => match lstOf s d with
      | some ds => .ok (.lst ds) s
      | none => .bad
  | _ => fun _ => .bad
def max2M : List D → M D
  | [.int i, .int j] => ret (.int (if j > i then j else i))
  | _ => fail
def min2M : List D → M D
  | [.int i, .int j] => ret (.int (if j < i then j else i))
  | _ => fail
def negM : D → M D
  | .int i => ret (.int (-i))
  | _ => fail
/-! ### methods of lists and texts -/
def isTy (T : String) (s : S) (d : D) : Bool := match d with
  | .str _ => T == "str"
  | d => (T == "list" && (lstOf s d).isSome) || (T == "dict" && (dctOf s d).isSome)
def methM (T : String) (f : M D) (fs : M (List D)) (g : D → List D → M D) : M D := bnd f fun d s => if isTy T s d = true then bnd fs (fun ds => g d ds) s else .bad
def meth0M (T : String) (f : M D) (g : D → M D) : M D := bnd f fun d s => if isTy T s d = true then g d s else .bad
def RMt (X : Cx) (r : V → List V → Hp → VK → Prop) (g : D → List D → M D) : Prop := ∀ (W : WX) w H σ s v vs d ds Q, RS X.K w H σ s → Rep X.K w v d → RepL X.K w vs ds → Post X.K W (pD X.K) w H σ (g d ds s) Q → r v vs H Q
/-- a list that stands by itself is written -/
def wrM (d : D) (g : List D → M (List D × D)) : M D := fun s => match d with
  | .cell n => match s.vh[n]? with
    | some (.lst ds) => match g ds s with
      | .ok (es, y) s' => .ok y { s' with vh := s'.vh.set n (.lst es) }
      | _ => .bad
    | _ => .bad
  | _ => .bad
def appM (d : D) : List D → M D
  | [e] => wrM d fun ds s => if ds.length < sizeLine then .ok (ds ++ [e], .non) s else .bad
  | _ => fail
/-! sep.join(list of texts) -/
def strsOf : List D → Option (List Str)
  | [] => some []
  | .str x :: r => (strsOf r).map (x :: ·)
  | _ => none
def joinOk (a : Str) (ys : List Str) : Bool := decide ((ys.map (·.length)).sum + ys.length * a.length ≤ 16777216)
def seqOf (s : S) : D → Option (List D)
  | .tup ds => some ds
  | d => lstOf s d
def joinM (d : D) : List D → M D
  | [e] => fun s => match d with
    | .str a => match seqOf s e with
      | some ds => match strsOf ds with
        | some ys => if joinOk a ys = true then .ok (.str (Txt.join a ys)) s else .bad
        | none => .bad
      | none => .bad
    | _ => .bad
  | _ => fail
theorem strs_rep {K : PySem.W.Frag} {w : Wd} : ∀ {vs : List V} {ds : List D} {ys : List Str}, RepL K w vs ds → strsOf ds = some ys → vs = ys.map V.str
  | _, _, ys, .nil, h => by cases h; rfl
  | _, _, ys, .cons (d := d) (ds := ds) r t, h => by
    cases r with
    | str x =>
      unfold strsOf at h
      cases e : strsOf ds with
      | none => rw [e] at h; cases h
      | some zs => rw [e] at h; cases h; rw [strs_rep t e]; rfl
    | _ => cases h
theorem rm_join : RMt X (fun x xs H Q => ∃ a p, ∃ ys : List Str, x = .str a ∧ xs = [.ref p] ∧ (SqL X.K H p (ys.map V.str) ∨ SqT X.K H p (ys.map V.str)) ∧
    (ys.map (·.length)).sum + ys.length * a.length ≤ 16777216 ∧ Q (.str (Txt.join a ys)) H) joinM := by
  intro W w H σ s v vs d ds Q R r rs p
  unfold joinM at p
  split at p
  · next e =>
    obtain ⟨u, rfl, ru⟩ := one_of rs
    split at p
    · next a =>
      cases r
      split at p
      · next es he =>
        split at p
        · next ys hy =>
          split at p
          · next k =>
            have hk : (ys.map (·.length)).sum + ys.length * a.length ≤ 16777216 := of_decide_eq_true k
            unfold seqOf at he
            split at he
            · next ts =>
              cases he
              obtain ⟨q, us, rfl, h1, h2⟩ := R.tuple ru (ds := es) rfl
              rw [strs_rep h2 hy] at h1
              exact ⟨a, q, ys, rfl, rfl, .inr h1, hk, Post.here p R (Rep.str _)⟩
            · obtain ⟨q, us, rfl, h1, h2⟩ := R.list ru he
              rw [strs_rep h2 hy] at h1
              exact ⟨a, q, ys, rfl, rfl, .inl h1, hk, Post.here p R (Rep.str _)⟩
          · exact p.elim
        · exact p.elim
      · exact p.elim
    · exact p.elim
  · exact p.elim
def jnM (f g : M D) : M D := bnd f fun d s => match d with
  | .str a => bnd g (fun e => joinM (.str a) [e]) s
  | _ => .bad
theorem de_join {o e : Expr} {f g : M D} {ap pos : Pos} (ho : DE X W o f) (he : DE X W e g) (hs : starEach [e] X.env = [(false, eval e X.env)] := by rfl) (hbase : attributeBase o "join" X.env (eval o X.env) = eval o X.env := by rfl) (hline : (ap.endLine == pos.line) = true := by rfl) :
    DE X W (.Call (.Attribute o "join" ap) [e] [] pos) (jnM f g) := by
  obtain ⟨to, po, ro⟩ := ho
  obtain ⟨te, pe, re⟩ := he
  refine ⟨_, pe_join po pe hs hbase hline, fun w H σ s Q R z => ?_⟩
  refine ro.bnd R z fun d s1 w1 H1 v l1 R1 r1 p1 => ?_
  cases r1 with
  | str a =>
    have p1 : Post X.K W (pD X.K) w1 H1 σ (bnd g (fun e => joinM (.str a) [e]) s1) Q := p1
    refine ⟨⟨a, rfl⟩, ?_⟩
    refine re.bnd R1 p1 fun e s2 w2 H2 u l2 R2 r2 p2 => ?_
    exact rm_join W w2 H2 σ s2 _ [u] (.str a) [e] Q R2 (.str a) (.cons r2 .nil) p2
  | _ => exact p1.elim
/-! ### for the printed texts -/
def isM : D → D → M D := fun d e => match e with | .non => isNonM d | _ => fail
def isnotM : D → D → M D := fun d e => match e with | .non => notNonM d | _ => fail
theorem rop_is : ROp X (fun x y H Q => y = .non ∧ Q (.bl (decide (x = .non))) H) isM := rop_isN
theorem pg_n {i : Nat} {x : Str} {pos : Pos} (hN : X.N.Nodup) (hi : X.N[i]? = some x := by rfl) (hx : Loc X.env.scope x := by first | exact Or.inl rfl | exact Or.inr rfl) (hf : X.fn x = true ∨ X.env.scope.names.lookup x = some .local := by first | exact .inl rfl | exact .inr rfl) : PG X (.Name x pos) (gName i) := pg_name hN hi hx hf
/-- a def as the top leaves it -/
structure Top (K : PySem.W.Frag) (mg : Str → Option Value) (x : Str) (st : Stmt) (ps : List Str) : Prop where
  ex : ∃ (f : Addr) (fd : FuncData), Fun K x x st f fd ∧ mg x = some (.ref f) ∧ Binds K fd ps [] ∧ ∀ (s : Shared) (us : List Value), us.length = ps.length → BindsTo s fd ⟨us, []⟩ (ps.zip us)
theorem top_mk {K : PySem.W.Frag} {h : Heap} {mg : Str → Option Value} (X : K.In h) (G : h.Ns mainGlobals mg) {x : Str} {st : Stmt} {ps : List Str} {f : Addr} {oc : Value} {od an : Option Addr} {osl : Array (Option Value)} {kV doc pm cdv ct : Value} (a : PySem.W.nsIn K mainGlobals x = some (some (.ref f)))
    (l : K.lookup f = some ⟨oc, od, .func (PySem.W.fnOf x x (defArgs st) (defBody st) (defScope st) .none kV doc pm an cdv ct), osl⟩) (c : PySem.W.codeIn K cdv x = true) (k : PySem.W.keepIn K (.ref f) = true)
    (b : ∀ (kV doc pm : Value) (an : Option Addr) (cdv ct : Value) (us : List Value), us.length = ps.length → bindArgs (PySem.W.fnOf x x (defArgs st) (defBody st) (defScope st) .none kV doc pm an cdv ct) ⟨us, []⟩ = pure (ps.zip us)) : Top K mg x st ps :=
  have F := fun_mk (st := st) l c k
  ⟨f, _, F, PySem.W.mg_of X G a, F.binds b, fun s us hl => .of_eq (b _ _ _ _ _ _ us hl)⟩
theorem Top.fn {P : Program} {wd : World} {K : PySem.W.Frag} {mg : Str → Option Value} {base : Heap} {x : Str} {st : Stmt} {N ps : List Str} {k : Nat} {g : M Out} (T : Top K mg x st ps) (Sc : FnScope N ps (defScope st)) (hle : ps.length ≤ N.length)
    (body : ∀ (f : Addr) (cdv : Value) (A : Around) (outer : List Env) (s : Shared) (H : Hp) (E : XK), Room k (A.deeper (envOfC x (defScope st) s.heap.objs.size f cdv)) →
      DSs (cxOf CX0 P wd K mg base N x (defScope st) f cdv A outer s H E).nox W0 (defBody st) g) : FnP P wd K mg base x ps.length (k + 1) (runP N.length g) :=
  let ⟨f, fd, F, m, b, _⟩ := T.ex
  ⟨f, fd, ps, rfl, m, F.kp, b, fn_pure F Sc hle fun cdv A outer s H E hr => body f cdv A outer s H E hr⟩
theorem Top.law {P : Program} {wd : World} {K : PySem.W.Frag} {mg : Str → Option Value} {x y : Str} {st : Stmt} {N : List Str} {k : Nat} {g : M Out} (T : Top K mg x st [y]) (Sc : FnScope N [y] (defScope st)) (hle : 1 ≤ N.length)
    (body : ∀ (base : Heap), K.In base → base.Ns mainGlobals mg → ∀ (f : Addr) (cdv : Value) (A : Around) (outer : List Env) (s : Shared) (H : Hp) (E : XK), Room k (A.deeper (envOfC x (defScope st) s.heap.objs.size f cdv)) →
      DSs (cxOf CX0 P wd K mg base N x (defScope st) f cdv A outer s H E).nox W0 (defBody st) g) :
    ∃ (fa : Addr) (fd : FuncData), mg x = some (.ref fa) ∧ (∀ (s : Shared) (u : Value), BindsTo s fd ⟨[u], []⟩ [(y, u)]) ∧ ∀ base : Heap, K.In base → base.Ns mainGlobals mg → FnOk P wd K mg base CX0 (k + 1) fa fd [y] (SpP K 1 (runP N.length g)) :=
  let ⟨f, fd, F, m, _, b⟩ := T.ex
  ⟨f, fd, m, fun s u => b s [u] rfl, fun base X G => fn_pure F Sc hle fun cdv A outer s H E hr => body base X G f cdv A outer s H E hr⟩
theorem ints_rep {K : PySem.W.Frag} {w : Wd} : ∀ ns : List Int, RepL K w (ns.map V.int) (ns.map D.int)
  | [] => .nil
  | n :: r => .cons (.int n) (ints_rep r)
/-- the law's def: from the script to True -/
theorem law_end {l : PySem.W.OpenLaw} {q : Program} {loose : List Str} {XP : (Str → Option Value) → Heap → Prop} {YP : World → Heap → Prop} {d : DefRec} {K : Params → PySem.W.Frag} {x : Str} {k : Nat} {F : Pf} (hn : l.most = some 63) (hdf : d.params.defaults = []) (hd : d.name = "law") (hr : Room k callerA)
    (hY : ∀ (w : World) (h : Heap), YP w h → (K w.params).In h)
    (W : ∀ (w : World) (mg : Str → Option Value) (h : Heap), (K w.params).In h → h.Ns mainGlobals mg → (∃ (fa : Addr) (fd : FuncData), mg "law" = some (.ref fa) ∧ (∀ (s : Shared) (u : Value), BindsTo s fd ⟨[u], []⟩ [(x, u)]) ∧
      ∀ base : Heap, (K w.params).In base → base.Ns mainGlobals mg → FnOk l.prog w (K w.params) mg base CX0 k fa fd [x] (SpP (K w.params) 1 F)))
    (hF : ∀ ns : List Int, ns.length ≤ 63 → (∀ z ∈ ns, Builtin.Int.intBits z ≤ 1048576) → F [.lst (ns.map D.int)] [] = some (.bl true)) :
    PySem.W.WalkO q loose XP YP l.row.toRowW d [] (fun f vs => PySem.call f vs) := by
  refine L2.walk_ofB (n := 63) (k := k) (x := x) (CX := fun _ => CX0) (sp := fun w => SpP (K w.params) 1 F) hn (by decide) hdf hr hY (fun w mg fa h X G hmg => ?_) (fun w H a ns hl hb _ hS => ?_) fun _ _ _ _ _ z => z
  · obtain ⟨fa', fd, e, b, G'⟩ := W w mg h X G
    rw [hd, e] at hmg
    cases hmg
    exact ⟨fd, b, G'⟩
  · refine ⟨rfl, ⟨[], H⟩, [], ⟨[], []⟩, [.lst (ns.map D.int)], .bl true, ⟨fun _ _ h => h, rfl, fun i d h => by simp at h, rfl, .nil, fun _ h => by simp at h, fun n a c e => by simp at e⟩, .cons (.lst hS (ints_rep ns)) .nil, hF ns hl hb, fun w' H' v _ _ r => ?_⟩
    cases r
    rfl
end Fx

namespace Fx
open PySem PySem.Spec PyProof.Rows L2
variable {X : Cx} {W : WX}
/-! ### a < b of numbers, texts, alike data -/
def rLtData (K : PySem.W.Frag) : R2 := fun x y H Q => ∃ d e, Dp K H x d ∧ Dp K H y e ∧ PySem.W.alike d e = true ∧ d ≠ .none ∧ d.depth ≤ 64 ∧ Q (.bl (PySem.W.dataLt d e)) H
theorem op_ltData (hu : X.A.units + 64 < cLine) : OpR X (compareOp .Lt) (rLtData X.K) := by
  intro pins s σ H x y v u Q I rx ry h
  obtain ⟨d, e, hd, he, al, dn, sd, q⟩ := h
  obtain ⟨as, r1⟩ := Dp.reads I d x v hd rx
  obtain ⟨bs, r2⟩ := Dp.reads I e y u he ry
  exact PySem.W.lt_data r1 r2 al dn (Nat.lt_of_le_of_lt (Nat.add_le_add_left (Nat.le_trans (Nat.min_le_left _ _) sd) _) hu) ⟨.bl _, H, I, rfl, q⟩
def rLtA (K : PySem.W.Frag) : R2 := fun x y H Q => rI0 (fun i j => .bl (decide (i < j))) x y H Q ∨ (∃ i j, x = .str i ∧ y = .str j ∧ Q (.bl (decide (i.cps.toList < j.cps.toList))) H) ∨ rLtData K x y H Q
theorem op_ltA (hu : X.A.units + 64 < cLine) : OpR X (compareOp .Lt) (rLtA X.K) := opr_or op_lt (opr_or op_lt_str (op_ltData hu))
def ltAM : D → D → M D
  | .int i, .int j => ret (.bl (decide (i < j)))
  | .str a, .str b => ret (.bl (decide (a.cps.toList < b.cps.toList)))
  | .tup a, .tup b => fun s => match pyD s (.tup a), pyD s (.tup b) with
    | some p, some q => if (PySem.W.alike p q && decide (p.depth ≤ 64)) = true then .ok (.bl (PySem.W.dataLt p q)) s else .bad
    | _, _ => .bad
  | _, _ => fail
theorem rop_ltA : ROp X (rLtA X.K) ltAM := by
  intro W w H σ s x y d e Q R rx ry p
  unfold ltAM at p
  split at p
  · cases rx; cases ry; exact .inl ⟨_, _, rfl, rfl, Post.here p R (Rep.bl _)⟩
  · cases rx; cases ry; exact .inr (.inl ⟨_, _, rfl, rfl, Post.here p R (Rep.bl _)⟩)
  · next a b =>
    split at p
    · next p1 q1 h1 h2 =>
      split at p
      · next k =>
        rw [Bool.and_eq_true, decide_eq_true_eq] at k
        refine .inr (.inr ⟨p1, q1, R.py rx h1, R.py ry h2, k.1, ?_, k.2, Post.here p R (Rep.bl _)⟩)
        intro z
        subst z
        unfold pyD at h1
        dsimp only at h1
        unfold pyT at h1
        cases h3 : pyL a with
        | none => rw [h3] at h1; cases h1
        | some y => rw [h3] at h1; cases h1
      · exact p.elim
    · exact p.elim
  · exact p.elim
/-! ### a slice of a text, a list, a tuple -/
def slV (d : D) (l u : Option Int) : M D := fun s => match d with
  | .str x => if lenOk x.length = true then .ok (.str (cutS x l u)) s else .bad
  | .tup ds => .ok (.tup (cutD ds l u)) s
  | d => match lstOf s d with
    | some ds => .ok (.lst (cutD ds l u)) s
    | none => .bad
def slM (f : M D) (lo hi : M (Option Int)) : M D := bnd f fun d => bnd lo fun l => bnd hi fun u => slV d l u
end Fx

/-! Fx: sorted(xs, key=f), f a def of the text -/
namespace PySem.W
open PySem PySem.Calls PyProof.Rows
section
variable {prog : Program} {w : World} {A : Around} {E : Value → Shared → Prop} {s : Shared} {a kS : Addr} {b : Bool} {vs : List Value} {e1 : Nat} {P : PySem.Fin → Shared → Prop} {kz : List PyData}
end
end PySem.W
namespace Fx
open PySem PySem.Spec PyProof.Rows L2
theorem RepL.at' {K : PySem.W.Frag} {w : Wd} : ∀ {vs : List V} {ds : List D} {i : Nat} {v : V}, RepL K w vs ds → vs[i]? = some v → ∃ d, ds[i]? = some d ∧ Rep K w v d
  | _, _, _, _, .nil, e => by cases e
  | _, _, 0, _, .cons h _, e => by cases e; exact ⟨_, rfl, h⟩
  | _, _, i + 1, _, .cons _ t, e => RepL.at' (i := i) t e
theorem Vals.at' : ∀ {xs : List V} {us : List Value} {i : Nat} {u : Value}, Vals xs us → us[i]? = some u → ∃ x, xs[i]? = some x ∧ RelV x u
  | _, _, _, _, .nil, e => by cases e
  | _, _, 0, _, .cons h _, e => by cases e; exact ⟨_, rfl, h⟩
  | _, _, i + 1, _, .cons _ t, e => Vals.at' (i := i) t e
variable {X : Cx} {W : WX}
end Fx

/-! Fx: more methods of lists -/
namespace Fx
open PySem PySem.Spec PyProof.Rows L2
variable {X : Cx} {W : WX}
theorem RepL.dropN {K : PySem.W.Frag} {w : Wd} : ∀ {vs : List V} {ds : List D} (n : Nat), RepL K w vs ds → RepL K w (vs.drop n) (ds.drop n)
  | _, _, 0, h => by rw [List.drop_zero, List.drop_zero]; exact h
  | _, _, n + 1, .nil => by rw [List.drop_nil, List.drop_nil]; exact .nil
  | _, _, n + 1, .cons _ t => by rw [List.drop_succ_cons, List.drop_succ_cons]; exact RepL.dropN n t
theorem RepL.at2 {K : PySem.W.Frag} {w : Wd} : ∀ {vs : List V} {ds : List D} {i : Nat} {d : D}, RepL K w vs ds → ds[i]? = some d → ∃ v, vs[i]? = some v ∧ Rep K w v d
  | _, _, _, _, .nil, e => by cases e
  | _, _, 0, _, .cons h _, e => by cases e; exact ⟨_, rfl, h⟩
  | _, _, i + 1, _, .cons _ t, e => RepL.at2 (i := i) t e
def clrM (d : D) : M D := wrM d fun _ s => .ok ([], .non) s
end Fx

/-! Fx: defs that write cells of the caller, or hand back cells of their own -/
namespace Fx
open PySem PySem.Spec PyProof.Rows L2
variable {X : Cx} {W : WX}
abbrev Sf := List D → List Cell → Option (D × List Cell)
noncomputable def runS (n : Nat) (g : M Out) : Sf := fun ds vh => match g (initS n ds vh) with
  | .ok (.rt d) s => some (d, s.vh)
  | .ok .nx s => some (.non, s.vh)
  | _ => none
def SpS (K : PySem.W.Frag) (n : Nat) (F : Sf) : Sp := fun vs H Q _ => vs.length = n ∧ ∃ w σ s ds d vh, RS K w H σ s ∧ RepL K w vs ds ∧ F ds s.vh = some (d, vh) ∧ ∀ w' H' v, Le w H w' H' → RS K w' H' σ ⟨s.loc, vh⟩ → Rep K w' v d → Q v H'
theorem start_ok {K : PySem.W.Frag} {w : Wd} {H : Hp} {σ : L2.St} {z : S} {vs : List V} {ds : List D} {N : List Str} {ps : List Str} (R : RS K w H σ z) (rv : RepL K w vs ds) : RS K w H (start N vs) (initS N.length ds z.vh) := by
  have hdl := RepL.length rv
  refine R.other (l := ds.map some ++ List.replicate (N.length - ds.length) none) ?_ fun i d hi => ?_
  · show (vs.map some ++ List.replicate (N.length - vs.length) none).length = _
    simp only [List.length_append, List.length_map, List.length_replicate]
    rw [hdl]
  · by_cases hlt : i < ds.length
    · rw [List.getElem?_append_left (by rw [List.length_map]; exact hlt), List.getElem?_map] at hi
      cases h2 : ds[i]? with
      | none => rw [h2] at hi; cases hi
      | some d2 =>
        rw [h2] at hi; cases hi
        obtain ⟨v, h3, h4⟩ := RepL.get rv h2
        refine ⟨v, ?_, h4⟩
        show (vs.map some ++ _)[i]? = _
        rw [List.getElem?_append_left (by rw [List.length_map, hdl]; exact hlt), List.getElem?_map, h3]; rfl
    · rw [List.getElem?_append_right (by rw [List.length_map]; omega)] at hi
      have := List.mem_of_getElem? hi
      rw [List.mem_replicate] at this
      cases this.2
theorem fn_st {P : Program} {wd : World} {K : PySem.W.Frag} {mg : Str → Option Value} {base : Heap} {x qual : Str} {st : Stmt} {f : Addr} {fd : FuncData} {N ps : List Str} {k : Nat} {g : M Out} (F : Fun K x qual st f fd) (Sc : FnScope N ps (defScope st)) (hle : ps.length ≤ N.length)
    (body : ∀ (cdv : Value) (A : Around) (outer : List Env) (s : Shared) (H : Hp) (E : XK), Room k (A.deeper (envOfC qual (defScope st) s.heap.objs.size f cdv)) →
      DSs (cxOf CX0 P wd K mg base N qual (defScope st) f cdv A outer s H E).nox W0 (defBody st) g) : FnOk P wd K mg base CX0 (k + 1) f fd ps (SpS K ps.length (runS N.length g)) := by
  refine F.ok Sc (fun vs H Q E h => h.1) fun cdv A outer s H vs Q E hr h => ?_
  obtain ⟨t, p, r⟩ := body cdv A outer s H E hr
  obtain ⟨hl, w, σ, z, ds, d, vh, R, rv, e, q⟩ := h
  refine ⟨t, p, r w H _ (initS N.length ds z.vh) _ (start_ok (ps := ps) R rv) ?_⟩
  show PostS K W0 w H (g (initS N.length ds z.vh)) _
  unfold runS at e
  have fin_ok : ∀ {d0 : D} {s1 : S}, some (d0, s1.vh) = some (d, vh) → ∀ w' H' σ' v, Le w H w' H' → RS K w' H' σ' s1 → Rep K w' v d0 → Q v H' := fun {d0 s1} e w' H' σ' v l R' rv => by
    cases e
    refine q _ _ _ l (R'.other (l := z.loc) R.len fun i d hi => ?_) rv
    obtain ⟨v, h1, h2⟩ := R.loc i d hi
    exact ⟨v, h1, Rep.up l h2⟩
  cases hg : g (initS N.length ds z.vh) with
  | bad => rw [hg] at e; cases e
  | exc x s1 => rw [hg] at e; cases e
  | ok o s1 =>
    rw [hg] at e
    cases o with
    | brk => cases e
    | cnt => cases e
    | rt d0 => exact fun w' H' σ' v l R' rv => fin_ok e w' H' σ' v l R' rv
    | nx => exact fun w' H' σ' l R' => fin_ok e w' H' σ' .non l R' .non
structure FnS (P : Program) (wd : World) (K : PySem.W.Frag) (mg : Str → Option Value) (base : Heap) (x : Str) (n k : Nat) (F : Sf) : Prop where
  ex : ∃ (f : Addr) (fd : FuncData) (ps : List Str), ps.length = n ∧ mg x = some (.ref f) ∧ PySem.W.keepIn K (.ref f) = true ∧ Binds K fd ps [] ∧ FnOk P wd K mg base CX0 k f fd ps (SpS K n F)
theorem FnS.mono {P : Program} {wd : World} {K : PySem.W.Frag} {mg : Str → Option Value} {base : Heap} {x : Str} {n j k : Nat} {F : Sf} (h : FnS P wd K mg base x n j F) (l : j ≤ k) : FnS P wd K mg base x n k F :=
  let ⟨f, fd, ps, a, b, c, d, e⟩ := h.ex; ⟨f, fd, ps, a, b, c, d, e.mono l⟩
def callS (n : Nat) (F : Sf) (ds : List D) : M D := fun s => if ds.length = n then match F ds s.vh with
  | some (d, vh) => .ok d ⟨s.loc, vh⟩
  | none => .bad else .bad
end Fx
namespace Fx
open PySem PySem.Spec PyProof.Rows L2
theorem Top.fnS {P : Program} {wd : World} {K : PySem.W.Frag} {mg : Str → Option Value} {base : Heap} {x : Str} {st : Stmt} {N ps : List Str} {k : Nat} {g : M Out} (T : Top K mg x st ps) (Sc : FnScope N ps (defScope st)) (hle : ps.length ≤ N.length)
    (body : ∀ (f : Addr) (cdv : Value) (A : Around) (outer : List Env) (s : Shared) (H : Hp) (E : XK), Room k (A.deeper (envOfC x (defScope st) s.heap.objs.size f cdv)) →
      DSs (cxOf CX0 P wd K mg base N x (defScope st) f cdv A outer s H E).nox W0 (defBody st) g) : FnS P wd K mg base x ps.length (k + 1) (runS N.length g) :=
  let ⟨f, fd, F, m, b, _⟩ := T.ex
  ⟨f, fd, ps, rfl, m, F.kp, b, fn_st F Sc hle fun cdv A outer s H E hr => body f cdv A outer s H E hr⟩
/-- a def that is never called (the bottom of a recursion) -/
theorem Top.nil {P : Program} {wd : World} {K : PySem.W.Frag} {mg : Str → Option Value} {base : Heap} {x : Str} {st : Stmt} {ps : List Str} {k : Nat} (T : Top K mg x st ps) : FnP P wd K mg base x ps.length k (fun _ _ => none) :=
  let ⟨f, fd, F, m, b, _⟩ := T.ex
  ⟨f, fd, ps, rfl, m, F.kp, b, fun _ _ _ _ h => h.1, fun _ _ _ _ _ _ _ _ _ _ _ _ _ h => by obtain ⟨_, _, _, _, _, _, _, _, e, _⟩ := h; cases e⟩
end Fx

/-! Fx: isinstance(x, (A, B)), zip of two lists or of two tuples -/
namespace Fx
open PySem PySem.Spec PyProof.Rows L2
variable {X : Cx} {W : WX}
/-! zip -/
end Fx

/-! the equations by which a printed text is reckoned -/
namespace Fx
open PySem PySem.Spec PyProof.Rows L2
/-- an equation that simp is to use as a step of its own -/
theorem nr {α : Sort _} {a b : α} (h : a = b) : a = b := h
theorem runP_of {n : Nat} {g : M Out} {ds : List D} {vh : List Cell} {d : D} (h : ∃ l, g (initS n ds vh) = .ok (.rt d) ⟨l, vh⟩) (hn : nc vh.length d = true) : runP n g ds vh = some d := by
  obtain ⟨l, h⟩ := h
  unfold runP
  rw [h]
  show fin vh ⟨l, vh⟩ d = some d
  unfold fin
  rw [if_pos (by exact List.take_length)]
  unfold thaw
  rw [if_pos hn]
def Res.then' {α β : Type} (r : Res α) (k : α → M β) : Res β := match r with
  | .ok a s => k a s
  | .exc e s => .exc e s
  | .bad => .bad
def Res.andThen (r : Res Out) (q : M Out) : Res Out := match r with
  | .ok .nx s' => q s'
  | r => r
section
variable {α β : Type}
theorem x_bnd {m : M α} {k : α → M β} {s : S} : bnd m k s = (m s).then' k := nr rfl
theorem x_ok {a : α} {s : S} {k : α → M β} : (Res.ok a s).then' k = k a s := nr rfl
theorem x_ret {a : α} {s : S} : ret a s = .ok a s := nr rfl
theorem x_fail {s : S} : (fail : M α) s = .bad := nr rfl
theorem x_ite {c : Prop} [Decidable c] {a b : Res α} {k : α → M β} : (if c then a else b).then' k = if c then a.then' k else b.then' k := by split <;> rfl
theorem x_iteM {c : Prop} [Decidable c] {a b : M α} {s : S} : (if c then a else b) s = if c then a s else b s := by split <;> rfl
theorem x_bad {k : α → M β} : (Res.bad : Res α).then' k = .bad := nr rfl
end
def look (o : Option (Option D)) (s : S) : Res D := match o with
  | some (some d) => .ok d s
  | _ => .bad
theorem x_get {i : Nat} {s : S} : getL i s = look s.loc[i]? s := nr rfl
theorem x_look {d : D} {s : S} : look (some (some d)) s = .ok d s := nr rfl
theorem x_set {i : Nat} {s : S} {d : D} : setL i d s = .ok .nx ⟨s.loc.set i (some d), s.vh⟩ := nr rfl
theorem x_seq {p q : M Out} {s : S} : seqM p q s = (p s).andThen q := by unfold seqM Res.andThen; rfl
theorem x_nx {s : S} {q : M Out} : (Res.ok Out.nx s).andThen q = q s := nr rfl
theorem x_rt {d : D} {s : S} {q : M Out} : (Res.ok (Out.rt d) s).andThen q = .ok (.rt d) s := nr rfl
theorem x_brk {s : S} {q : M Out} : (Res.ok Out.brk s).andThen q = .ok .brk s := nr rfl
theorem x_cnt {s : S} {q : M Out} : (Res.ok Out.cnt s).andThen q = .ok .cnt s := nr rfl
theorem x_bad2 {q : M Out} : (Res.bad : Res Out).andThen q = .bad := nr rfl
theorem x_ite2 {c : Prop} [Decidable c] {a b : Res Out} {q : M Out} : (if c then a else b).andThen q = if c then a.andThen q else b.andThen q := by split <;> rfl
theorem x_asg {p : M D} {t : D → M Out} {s : S} : asgM p t s = (p s).then' t := nr rfl
theorem x_retM {p : M D} {s : S} : retM p s = (p s).then' fun d => ret (.rt d) := nr rfl
theorem x_drop {p : M D} {s : S} : dropM p s = (p s).then' fun _ => ret .nx := nr rfl
theorem x_if {c : M Bool} {p q : M Out} {s : S} : ifM c p q s = (c s).then' fun b => if b = true then p else q := nr rfl
theorem x_itM {c : M Bool} {p q : M D} {s : S} : iteM c p q s = (c s).then' fun b => if b = true then p else q := nr rfl
theorem x_asB {b : Bool} {s : S} : asB (.bl b) s = .ok b s := nr rfl
theorem x_bin {op : D → D → M D} {a b : M D} {s : S} : bin op a b s = (a s).then' fun d => bnd b fun e => op d e := nr rfl
theorem x_tst {a : M D} {s : S} : tst a s = (a s).then' asB := nr rfl
theorem x_and {p q : M D} {s : S} : andV p q s = (p s).then' fun d => bnd (asB d) fun c => if c = true then q else ret (.bl false) := nr rfl
theorem x_or {p q : M D} {s : S} : orV p q s = (p s).then' fun d => bnd (asB d) fun c => if c = true then ret (.bl true) else q := nr rfl
theorem x_not {p : M D} {s : S} : notV p s = (p s).then' fun d => bnd (asB d) fun c => ret (.bl (!c)) := nr rfl
theorem x_andT {p q : M Bool} {s : S} : andT p q s = (p s).then' fun c => if c = true then q else ret false := nr rfl
theorem x_orT {p q : M Bool} {s : S} : orT p q s = (p s).then' fun c => if c = true then ret true else q := nr rfl
theorem x_notT {p : M Bool} {s : S} : notT p s = (p s).then' fun c => ret (!c) := nr rfl
theorem x_cons {p : M D} {q : M (List D)} {s : S} : consM p q s = (p s).then' fun d => bnd q fun ds => ret (d :: ds) := nr rfl
def callR (o : Option D) (s : S) : Res D := match o with
  | some d => .ok d s
  | none => .bad
theorem x_call {n : Nat} {F : Pf} {ds : List D} {s : S} : callP n F ds s = if ds.length = n then callR (F ds s.vh) s else .bad := nr rfl
theorem x_callR {d : D} {s : S} : callR (some d) s = .ok d s := nr rfl
theorem x_isa {T : String} {d : D} {s : S} : isaM T d s = match tyName s d with | some a => .ok (.bl (isaT T a)) s | none => .bad := nr rfl
theorem x_sub {i j : Int} {s : S} : subM (.int i) (.int j) s = .ok (.int (i - j)) s := nr rfl
theorem x_add {i j : Int} {s : S} : addM (.int i) (.int j) s = .ok (.int (i + j)) s := nr rfl
theorem x_addS {i j : Str} {s : S} : addM (.str i) (.str j) s = if lenOk (i.length + j.length) = true then .ok (.str (i ++ j)) s else .bad := by
  show (if lenOk (i.length + j.length) = true then ret (D.str (i ++ j)) else fail) s = _
  split <;> rfl
theorem x_mod {i j : Int} {s : S} (h : 0 < j) : modM (.int i) (.int j) s = .ok (.int (i % j)) s := by
  show (if decide (0 < j) = true then ret _ else fail) s = _
  rw [if_pos (decide_eq_true h)]; rfl
theorem x_div {i j : Int} {s : S} (h : 0 < j) (h2 : j.natAbs.log2 < 9000) : divM (.int i) (.int j) s = .ok (.int (i / j)) s := by
  show (if (decide (0 < j) && decide (j.natAbs.log2 < 9000)) = true then ret _ else fail) s = _
  rw [if_pos (by rw [decide_eq_true h, decide_eq_true h2]; rfl)]; rfl
theorem x_mul {i j : Int} {s : S} (h : i.natAbs.log2 + j.natAbs.log2 < 100000000) : mulM (.int i) (.int j) s = .ok (.int (i * j)) s := by
  show (if decide (i.natAbs.log2 + j.natAbs.log2 < 100000000) = true then ret _ else fail) s = _
  rw [if_pos (decide_eq_true h)]; rfl
theorem x_pow {i j : Int} {s : S} (h : 0 ≤ j) (h2 : j ≤ 1000000) (h3 : i.natAbs < 2 ^ 64) : powM (.int i) (.int j) s = .ok (.int (i ^ j.toNat)) s := by
  show (if (decide (0 ≤ j) && (decide (j ≤ 1000000) && decide (i.natAbs < 2 ^ 64))) = true then ret _ else fail) s = _
  rw [if_pos (by rw [decide_eq_true h, decide_eq_true h2, decide_eq_true h3]; rfl)]; rfl
theorem x_lt {i j : Int} {s : S} : ltAM (.int i) (.int j) s = .ok (.bl (decide (i < j))) s := nr rfl
theorem x_le {i j : Int} {s : S} : leM (.int i) (.int j) s = .ok (.bl (decide (i ≤ j))) s := nr rfl
theorem x_gt {i j : Int} {s : S} : gtM (.int i) (.int j) s = .ok (.bl (decide (j < i))) s := nr rfl
theorem x_ge {i j : Int} {s : S} : geM (.int i) (.int j) s = .ok (.bl (decide (j ≤ i))) s := nr rfl
theorem x_eqI {i j : Int} {s : S} : eqM (.int i) (.int j) s = .ok (.bl (decide (i = j))) s := by
  show (if (SeqAt.shaped (PyData.int i) && SeqAt.shaped (PyData.int j)) = true then Res.ok (D.bl (PyData.eqv (.int i) (.int j))) s else .bad) = _
  rw [if_pos (by rfl)]
  simp [PyData.eqv, Bool.beq_eq_decide_eq]
theorem x_neI {i j : Int} {s : S} : neM (.int i) (.int j) s = .ok (.bl (!decide (i = j))) s := by
  show (if (SeqAt.shaped (PyData.int i) && SeqAt.shaped (PyData.int j)) = true then Res.ok (D.bl (!PyData.eqv (.int i) (.int j))) s else .bad) = _
  rw [if_pos (by rfl)]
  simp [PyData.eqv, Bool.beq_eq_decide_eq]
theorem x_true {α : Sort _} {a b : α} : (if true = true then a else b) = a := nr rfl
theorem x_false {α : Sort _} {a b : α} : (if false = true then a else b) = b := nr rfl
theorem x_aug {f : Int → Int → Int} {i : Nat} {p : M D} {s : S} : augI f i p s = (getL i s).then' fun a => bnd p fun b => augF f i a b := nr rfl
theorem x_augF {f : Int → Int → Int} {i : Nat} {x y : Int} {s : S} : augF f i (.int x) (.int y) s = .ok .nx ⟨s.loc.set i (some (.int (f x y))), s.vh⟩ := nr rfl
theorem x_forM {f : M Wk} {t : D → M Out} {b : M Out} {s : S} : forM f t b s = (f s).then' fun it => loopM it.ok t b it.items := nr rfl
theorem x_ran1 {n : Int} {s : S} (h : okB n = true) : ran1I [.int n] s = .ok ⟨ranD 0 n.toNat, fun _ => True⟩ s := by
  show (if okB n = true then _ else _) = _
  rw [if_pos h]
theorem x_ran2 {lo n : Int} {s : S} (h : okB lo = true) (h2 : okB n = true) : ran2I [.int lo, .int n] s = .ok ⟨ranD lo (n - lo).toNat, fun _ => True⟩ s := by
  show (if (okB lo && okB n) = true then _ else _) = _
  rw [if_pos (by rw [h, h2]; rfl)]
theorem okB_of {i : Int} (h : -(2 ^ 62) ≤ i) (h2 : i < 2 ^ 62) : okB i = true := by
  unfold okB
  rw [decide_eq_true h, decide_eq_true h2]; rfl
theorem x_seqL {ds : List D} {s : S} : seqI (.lst ds) s = .ok ⟨ds, fun s' => itemsOf s' (.lst ds) = some ds⟩ s := nr rfl
theorem x_seqT {ds : List D} {s : S} : seqI (.tup ds) s = .ok ⟨ds, fun s' => itemsOf s' (.tup ds) = some ds⟩ s := nr rfl
theorem x_frz {m : M Cell} {s : S} : frzM m s = (m s).then' fun c => match c with | .lst ds => ret (.lst ds) | _ => fail := nr rfl
theorem x_own {m : M Cell} {s : S} : ownM m s = (m s).then' fun c s => .ok (.cell s.vh.length) ⟨s.loc, s.vh ++ [c]⟩ := nr rfl
theorem lenOk_of {n : Nat} (h : n ≤ 16777216) : lenOk n = true := decide_eq_true (Nat.le_trans h (by decide))
theorem x_lst {q : M (List D)} {s : S} : lstN q s = (q s).then' fun ds => if lenOk ds.length = true then ret (.lst ds) else fail := nr rfl
theorem x_tup {q : M (List D)} {s : S} : tupM q s = (q s).then' fun ds => if lenOk ds.length = true then ret (.tup ds) else fail := nr rfl
theorem x_lenL {ds : List D} {s : S} : lenM [.lst ds] s = .ok (.int ds.length) s := nr rfl
theorem x_lenS {x : Str} {s : S} (h : lenOk x.length = true) : lenM [.str x] s = .ok (.int x.length) s := by
  show (if lenOk x.length = true then _ else _) = _
  rw [if_pos h]
def Res.opt {α : Type} (o : Option α) (s : S) : Res α := match o with
  | some y => .ok y s
  | none => .bad
theorem x_opt {α : Type} {y : α} {s : S} : Res.opt (some y) s = .ok y s := nr rfl
theorem x_ixL {ds : List D} {i : Int} {s : S} : ixM (.lst ds) (.int i) s = Res.opt (atI ds i) s := by cases h : atI ds i <;> simp [ixM, lstOf, Res.opt, h]
theorem x_ixT {ds : List D} {i : Int} {s : S} : ixM (.tup ds) (.int i) s = Res.opt (atI ds i) s := by cases h : atI ds i <;> simp [ixM, Res.opt, h]
theorem x_slL {f : M D} {lo hi : M (Option Int)} {s : S} : slL f lo hi s = (f s).then' fun d => bnd lo fun l => bnd hi fun u => fun s => match lstOf s d with | some ds => .ok (.lst (cutD ds l u)) s | none => .bad := nr rfl
theorem x_slM {f : M D} {lo hi : M (Option Int)} {s : S} : slM f lo hi s = (f s).then' fun d => bnd lo fun l => bnd hi fun u => slV d l u := nr rfl
theorem x_slVL {ds : List D} {l u : Option Int} {s : S} : slV (.lst ds) l u s = .ok (.lst (cutD ds l u)) s := nr rfl
theorem x_slVS {x : Str} {l u : Option Int} {s : S} : slV (.str x) l u s = if lenOk x.length = true then .ok (.str (cutS x l u)) s else .bad := nr rfl
theorem x_min2 {i j : Int} {s : S} : min2M [.int i, .int j] s = .ok (.int (if j < i then j else i)) s := nr rfl
theorem x_max2 {i j : Int} {s : S} : max2M [.int i, .int j] s = .ok (.int (if j > i then j else i)) s := nr rfl
theorem x_neg {i : Int} {s : S} : negM (.int i) s = .ok (.int (-i)) s := nr rfl
theorem x_part {f : M D} {s : S} : partM f s = (f s).then' fun d => match d with | .int i => ret (some i) | _ => fail := nr rfl
/-! comprehensions, loops -/
/-- a for loop by what holds between its turns; it may leave by a return where Pv says so -/
theorem loopM_all {ok : S → Prop} {t : D → M Out} {b : M Out} (Pv : Nat → S → Prop) (items : List D) (hok : ∀ i s, Pv i s → ok s)
    (hs : ∀ (i : Nat) d s, items[i]? = some d → Pv i s → ∃ s1, t d s = .ok .nx s1 ∧ ∃ s2, (b s1 = .ok .nx s2 ∨ b s1 = .ok .cnt s2) ∧ Pv (i + 1) s2) : ∀ (k : Nat) s, k ≤ items.length → Pv k s → ∃ s2, loopM ok t b (items.drop k) s = .ok .nx s2 ∧ Pv items.length s2 := by
  intro k s hk hp
  generalize hm : items.length - k = m
  induction m generalizing k s with
  | zero =>
    have e : k = items.length := by omega
    subst e
    refine ⟨s, ?_, hp⟩
    rw [List.drop_length]
    unfold loopM
    rw [if_pos (hok _ _ hp)]
  | succ m ih =>
    have hlt : k < items.length := by omega
    obtain ⟨s1, h1, s2, h2, h3⟩ := hs k items[k] s (List.getElem?_eq_getElem hlt) hp
    obtain ⟨s3, h4, h5⟩ := ih (k + 1) s2 (by omega) h3 (by omega)
    refine ⟨s3, ?_, h5⟩
    rw [List.drop_eq_getElem_cons hlt]
    unfold loopM
    rw [if_pos (hok _ _ hp), h1]
    dsimp only
    rcases h2 with h2 | h2 <;> rw [h2] <;> exact h4
end Fx
namespace Fx
open PySem PySem.Spec PyProof.Rows L2
theorem atI_ofNat {α : Type} {xs : List α} {i : Nat} (h : i < xs.length) : atI xs (i : Int) = xs[i]? := by
  unfold atI ixN
  rw [if_pos (by omega), if_pos (by omega)]
  simp
theorem log2_of {x : Int} {k : Nat} (h0 : 0 < k) (h : x.natAbs < 2 ^ k) : x.natAbs.log2 < k := PySem.Flt.log2_lt_of h0 h
theorem at_ints {ns : List Int} {i : Nat} (h : i < ns.length) : atI (ns.map D.int) (i : Int) = some (.int ns[i]) := by
  rw [atI_ofNat (by rw [List.length_map]; exact h), List.getElem?_map, List.getElem?_eq_getElem h]; rfl
theorem ranD_at {lo : Int} {n i : Nat} {d : D} (h : (ranD lo n)[i]? = some d) : i < n ∧ d = .int (lo + (i : Int)) := by
  have hi : i < n := by
    have := (List.getElem?_eq_some_iff.mp h).1
    rw [ranD_len] at this; exact this
  rw [ranD_get hi] at h
  cases h
  exact ⟨hi, rfl⟩
/-- the whole loop -/
theorem loopM_run {ok : S → Prop} {t : D → M Out} {b : M Out} (Pv : Nat → S → Prop) (items : List D) (s : S) (hok : ∀ i s, Pv i s → ok s)
    (hs : ∀ (i : Nat) d s, items[i]? = some d → Pv i s → ∃ s1, t d s = .ok .nx s1 ∧ ∃ s2, (b s1 = .ok .nx s2 ∨ b s1 = .ok .cnt s2) ∧ Pv (i + 1) s2) (h0 : Pv 0 s) : ∃ s2, loopM ok t b items s = .ok .nx s2 ∧ Pv items.length s2 :=
  loopM_all Pv items hok hs 0 s (Nat.zero_le _) h0
end Fx

/-! texts by their codes, plain values -/
namespace Fx
open PySem PySem.Spec PyProof.Rows L2 TL
/-- the text of these codes -/
def tx (cs : List Nat) : Str := ⟨cs.toArray⟩
theorem tx_len (cs : List Nat) : (tx cs).length = cs.length := by
  show cs.toArray.size = cs.length
  exact List.size_toArray
theorem tx_tl (cs : List Nat) : (tx cs).cps.toList = cs := by
  show cs.toArray.toList = cs
  simp
theorem tx_of (x : Str) : tx x.cps.toList = x := by
  cases x
  simp [tx]
theorem tx_app (a b : List Nat) : tx a ++ tx b = tx (a ++ b) := by
  have h : tl (tx a ++ tx b) = tl (tx a) ++ tl (tx b) := tl_append _ _
  rw [show tl (tx a) = a from tx_tl a, show tl (tx b) = b from tx_tl b] at h
  rw [← tx_of (tx a ++ tx b)]
  show tx (tl (tx a ++ tx b)) = _
  rw [h]
theorem tx_inj {a b : List Nat} (h : tx a = tx b) : a = b := by
  have := congrArg (fun x : Str => x.cps.toList) h
  simpa [tx_tl] using this
theorem joinL_nil : ∀ ps : List (List Nat), joinL [] ps = ps.flatten
  | [] => rfl
  | [p] => by simp [joinL]
  | p :: q :: r => by
    show p ++ ([] ++ joinL [] (q :: r)) = _
    rw [joinL_nil (q :: r)]
    simp
theorem flat_one (cs : List Nat) : (cs.map fun c => [c]).flatten = cs := by
  induction cs with
  | nil => rfl
  | cons c r ih => simp [ih]
theorem join_tx (ps : List (List Nat)) : Txt.join (tx []) (ps.map tx) = tx ps.flatten := by
  rw [join_eq, ← tx_of (Str.join _ _)]
  show tx (tl (Str.join (tx []) (ps.map tx))) = _
  rw [tl_join, show tl (tx []) = [] from tx_tl [], joinL_nil, List.map_map]
  congr 1
  congr 1
  rw [show (tl ∘ tx) = id from funext fun cs => tx_tl cs, List.map_id]
theorem strsOf_map : ∀ ps : List (List Nat), strsOf (ps.map fun p => D.str (tx p)) = some (ps.map tx)
  | [] => rfl
  | p :: r => by
    show (strsOf (r.map fun p => D.str (tx p))).map (tx p :: ·) = _
    rw [strsOf_map r]; rfl
/-- joined without a sign between -/
theorem x_join {f g : M D} {s : S} : jnM f g s = (f s).then' fun d s => match d with | .str a => bnd g (fun e => joinM (.str a) [e]) s | _ => .bad := nr rfl
theorem join_ok (ps : List (List Nat)) (s : S) (h : (ps.map List.length).sum ≤ 16777216) : joinM (.str (tx [])) [.lst (ps.map fun p => D.str (tx p))] s = .ok (.str (tx ps.flatten)) s := by
  show (match strsOf (ps.map fun p => D.str (tx p)) with | some ys => if joinOk (tx []) ys = true then Res.ok (D.str (Txt.join (tx []) ys)) s else .bad | none => .bad) = _
  rw [strsOf_map]
  show (if joinOk (tx []) (ps.map tx) = true then Res.ok (D.str (Txt.join (tx []) (ps.map tx))) s else .bad) = _
  rw [if_pos, join_tx]
  unfold joinOk
  refine decide_eq_true ?_
  rw [tx_len, List.length_nil, Nat.mul_zero, Nat.add_zero, List.map_map, show ((fun x : Str => x.length) ∘ tx) = List.length from funext fun cs => tx_len cs]
  exact h
theorem sum_ones (cs : List Nat) : ((cs.map fun c => [c]).map List.length).sum = cs.length := by
  induction cs with
  | nil => rfl
  | cons c r ih => simp at ih ⊢; omega
theorem join_signs (cs : List Nat) (s : S) (h : cs.length ≤ 16777216) : joinM (.str (tx [])) [.lst (cs.map fun c => D.str (tx [c]))] s = .ok (.str (tx cs)) s := by
  have := join_ok (cs.map fun c => [c]) s (by rw [sum_ones]; exact h)
  rw [flat_one, List.map_map] at this
  exact this
theorem x_ixS {cs : List Nat} {i : Int} {s : S} (h : cs.length ≤ 16777216) : ixM (.str (tx cs)) (.int i) s = Res.opt ((atI cs i).map fun c => D.str (tx [c])) s := by
  show (if lenOk (tx cs).length = true then (match atI (tx cs).cps.toList i with | some c => Res.ok (D.str ⟨#[c]⟩) s | none => .bad) else .bad) = _
  rw [tx_len, if_pos (lenOk_of h), tx_tl]
  cases atI cs i <;> rfl
theorem cutS_take (cs : List Nat) (n : Nat) : cutS (tx cs) none (some (n : Int)) = tx (cs.take n) := by
  unfold cutS
  rw [tx_tl, tx_len, HT.sIx_none, show HT.sIx cs.length cs.length (some (n : Int)) = min n cs.length from HT.sIx_nat _ _ n, List.drop_zero, Nat.sub_zero]
  show tx (cs.take (min n cs.length)) = _
  congr 1
  by_cases h : n ≤ cs.length
  · rw [Nat.min_eq_left h]
  · rw [Nat.min_eq_right (by omega), List.take_of_length_le (by omega), List.take_of_length_le (by omega)]
theorem cutS_drop (cs : List Nat) (n : Nat) : cutS (tx cs) (some (n : Int)) none = tx (cs.drop n) := by
  unfold cutS
  rw [tx_tl, tx_len, HT.sIx_none, show HT.sIx cs.length 0 (some (n : Int)) = min n cs.length from HT.sIx_nat _ _ n]
  show tx ((cs.drop (min n cs.length)).take (cs.length - min n cs.length)) = _
  congr 1
  by_cases h : n ≤ cs.length
  · rw [Nat.min_eq_left h, List.take_of_length_le (by rw [List.length_drop]; exact Nat.le_refl _)]
  · rw [Nat.min_eq_right (by omega), List.drop_of_length_le (Nat.le_refl _), List.drop_of_length_le (by omega)]
    simp
theorem x_slS {f : M D} {lo hi : M (Option Int)} {s : S} : slS f lo hi s = (f s).then' fun d => bnd lo fun l => bnd hi fun u => match d with | .str x => if lenOk x.length = true then ret (.str (cutS x l u)) else fail | _ => fail := nr rfl
theorem tx_eq {a b : List Nat} : decide (tx a = tx b) = decide (a = b) := by
  by_cases h : a = b
  · subst h; simp
  · rw [decide_eq_false h]
    exact decide_eq_false fun e => h (tx_inj e)
theorem x_eqS {a b : List Nat} {s : S} : eqM (.str (tx a)) (.str (tx b)) s = .ok (.bl (decide (a = b))) s := by
  show Res.ok (D.bl (decide (tx a = tx b))) s = _
  rw [tx_eq]
theorem x_neS {a b : List Nat} {s : S} : neM (.str (tx a)) (.str (tx b)) s = .ok (.bl (!decide (a = b))) s := by
  show Res.ok (D.bl (!decide (tx a = tx b))) s = _
  rw [tx_eq]
theorem x_eqB {a b : Bool} {s : S} : eqM (.bl a) (.bl b) s = .ok (.bl (decide (a = b))) s := by
  show (if (SeqAt.shaped (PyData.bool a) && SeqAt.shaped (PyData.bool b)) = true then Res.ok (D.bl (PyData.eqv (.bool a) (.bool b))) s else .bad) = _
  rw [if_pos (by rfl)]
  cases a <;> cases b <;> simp [PyData.eqv]
theorem x_neB {a b : Bool} {s : S} : neM (.bl a) (.bl b) s = .ok (.bl (!decide (a = b))) s := by
  show (if (SeqAt.shaped (PyData.bool a) && SeqAt.shaped (PyData.bool b)) = true then Res.ok (D.bl (!PyData.eqv (.bool a) (.bool b))) s else .bad) = _
  rw [if_pos (by rfl)]
  cases a <;> cases b <;> simp [PyData.eqv]
/-! plain values -/
inductive Pl where
  | non | int (i : Int) | str (cs : List Nat)
def Pl.d : Pl → D
  | .non => .non
  | .int i => .int i
  | .str cs => .str (tx cs)
/-- the order of plain values -/
def Pl.lt : Pl → Pl → Bool
  | .non, .non => false
  | .non, _ => true
  | _, .non => false
  | .int i, .int j => decide (i < j)
  | .int _, .str _ => true
  | .str _, .int _ => false
  | .str a, .str b => decide (a < b)
theorem Pl.nc (b : Nat) (p : Pl) : Fx.nc b p.d = true := by cases p <;> rfl
theorem Pl.ncL (b : Nat) (ps : List Pl) : Fx.ncL b (ps.map Pl.d) = true := by
  induction ps with
  | nil => rfl
  | cons p r ih =>
    show (Fx.nc b p.d && Fx.ncL b (r.map Pl.d)) = true
    rw [Pl.nc, ih]; rfl
theorem isa_int_NoneType : isaT "int" "NoneType" = false := by decide
theorem isa_int_bool : isaT "int" "bool" = true := by decide
theorem isa_int_int : isaT "int" "int" = true := by decide
theorem isa_int_str : isaT "int" "str" = false := by decide
theorem isa_int_tuple : isaT "int" "tuple" = false := by decide
theorem isa_int_list : isaT "int" "list" = false := by decide
theorem isa_int_dict : isaT "int" "dict" = false := by decide
theorem isa_bool_NoneType : isaT "bool" "NoneType" = false := by decide
theorem isa_bool_bool : isaT "bool" "bool" = true := by decide
theorem isa_bool_int : isaT "bool" "int" = false := by decide
theorem isa_bool_str : isaT "bool" "str" = false := by decide
theorem isa_bool_tuple : isaT "bool" "tuple" = false := by decide
theorem isa_bool_list : isaT "bool" "list" = false := by decide
theorem isa_bool_dict : isaT "bool" "dict" = false := by decide
theorem isa_str_NoneType : isaT "str" "NoneType" = false := by decide
theorem isa_str_bool : isaT "str" "bool" = false := by decide
theorem isa_str_int : isaT "str" "int" = false := by decide
theorem isa_str_str : isaT "str" "str" = true := by decide
theorem isa_str_tuple : isaT "str" "tuple" = false := by decide
theorem isa_str_list : isaT "str" "list" = false := by decide
theorem isa_str_dict : isaT "str" "dict" = false := by decide
theorem isa_tuple_NoneType : isaT "tuple" "NoneType" = false := by decide
theorem isa_tuple_bool : isaT "tuple" "bool" = false := by decide
theorem isa_tuple_int : isaT "tuple" "int" = false := by decide
theorem isa_tuple_str : isaT "tuple" "str" = false := by decide
theorem isa_tuple_tuple : isaT "tuple" "tuple" = true := by decide
theorem isa_tuple_list : isaT "tuple" "list" = false := by decide
theorem isa_tuple_dict : isaT "tuple" "dict" = false := by decide
theorem isa_list_NoneType : isaT "list" "NoneType" = false := by decide
theorem isa_list_bool : isaT "list" "bool" = false := by decide
theorem isa_list_int : isaT "list" "int" = false := by decide
theorem isa_list_str : isaT "list" "str" = false := by decide
theorem isa_list_tuple : isaT "list" "tuple" = false := by decide
theorem isa_list_list : isaT "list" "list" = true := by decide
theorem isa_list_dict : isaT "list" "dict" = false := by decide
theorem isa_dict_NoneType : isaT "dict" "NoneType" = false := by decide
theorem isa_dict_bool : isaT "dict" "bool" = false := by decide
theorem isa_dict_int : isaT "dict" "int" = false := by decide
theorem isa_dict_str : isaT "dict" "str" = false := by decide
theorem isa_dict_tuple : isaT "dict" "tuple" = false := by decide
theorem isa_dict_list : isaT "dict" "list" = false := by decide
theorem isa_dict_dict : isaT "dict" "dict" = true := by decide
theorem x_is1 {s : S} : isM .non .non s = .ok (.bl true) s := nr rfl
theorem x_is2 {i : Int} {s : S} : isM (.int i) .non s = .ok (.bl false) s := nr rfl
theorem x_is3 {i : Str} {s : S} : isM (.str i) .non s = .ok (.bl false) s := nr rfl
theorem x_is4 {i : List D} {s : S} : isM (.lst i) .non s = .ok (.bl false) s := nr rfl
theorem x_is5 {i : List D} {s : S} : isM (.tup i) .non s = .ok (.bl false) s := nr rfl
theorem x_isn1 {s : S} : isnotM .non .non s = .ok (.bl false) s := nr rfl
theorem x_isn2 {i : Int} {s : S} : isnotM (.int i) .non s = .ok (.bl true) s := nr rfl
theorem x_isn3 {i : Str} {s : S} : isnotM (.str i) .non s = .ok (.bl true) s := nr rfl
theorem x_isn4 {i : List D} {s : S} : isnotM (.lst i) .non s = .ok (.bl true) s := nr rfl
theorem x_isn5 {i : List D} {s : S} : isnotM (.tup i) .non s = .ok (.bl true) s := nr rfl
/-! append to the list that is the last cell -/
theorem x_meth {T : String} {f : M D} {fs : M (List D)} {g : D → List D → M D} {s : S} : methM T f fs g s = (f s).then' fun d s => if isTy T s d = true then bnd fs (fun ds => g d ds) s else .bad := nr rfl
theorem last_cell {vh : List Cell} {c : Cell} : (vh ++ [c])[vh.length]? = some c := by simp
theorem isTy_last {l : List (Option D)} {vh : List Cell} {ds : List D} : isTy "list" ⟨l, vh ++ [.lst ds]⟩ (.cell vh.length) = true := by
  unfold isTy lstOf
  simp [last_cell]
/-- the codes of a written text -/
def cd (s : String) : List Nat := (Str.ofString s).cps.toList
theorem lit (s : String) : Str.ofString s = tx (cd s) := (tx_of _).symm
theorem cd_nil : cd "" = [] := by decide +kernel
/-- ranks -/
def Pl.rank : Pl → D
  | .non => .tup [.int 0, .int 0, .str (tx [])]
  | .int i => .tup [.int 1, .int i, .str (tx [])]
  | .str cs => .tup [.int 2, .int 0, .str (tx cs)]
/-! numbers of few bits -/
theorem x_lenTx {cs : List Nat} {s : S} (h : cs.length ≤ 16777216) : lenM [.str (tx cs)] s = .ok (.int cs.length) s := by rw [x_lenS (by rw [tx_len]; exact lenOk_of h), tx_len]
theorem x_addTx {a b : List Nat} {s : S} (h : a.length + b.length ≤ 16777216) : addM (.str (tx a)) (.str (tx b)) s = .ok (.str (tx (a ++ b))) s := by rw [x_addS, tx_len, tx_len, if_pos (lenOk_of h), tx_app]
theorem x_slVTx {cs : List Nat} {l u : Option Int} {s : S} (h : cs.length ≤ 16777216) : slV (.str (tx cs)) l u s = .ok (.str (cutS (tx cs) l u)) s := by rw [x_slVS, tx_len, if_pos (lenOk_of h)]
theorem cutS_drop1 (cs : List Nat) (n : Nat) : cutS (tx cs) (some ((n : Int) + 1)) none = tx (cs.drop (n + 1)) := cutS_drop cs (n + 1)
end Fx

/-! Fx: more for reckoning -/
namespace Fx
open PySem PySem.Spec PyProof.Rows L2
theorem x_lk0 : lenOk 0 = true := lenOk_of (by decide)
theorem x_lk1 : lenOk 1 = true := lenOk_of (by decide)
theorem x_lk2 : lenOk 2 = true := lenOk_of (by decide)
theorem x_lk3 : lenOk 3 = true := lenOk_of (by decide)
theorem x_lk4 : lenOk 4 = true := lenOk_of (by decide)
theorem x_lisL {ds : List D} {s : S} : listN [.lst ds] s = .ok (.lst ds) s := nr rfl
theorem x_lisT {ds : List D} {s : S} : listN [.tup ds] s = .ok (.lst ds) s := nr rfl
end Fx

/-! Fx: the order of plain values, plainly -/
namespace Fx
open PySem PySem.Spec PyProof.Rows L2
instance : DecidableEq Pl
  | .non, .non => .isTrue rfl
  | .int i, .int j => if h : i = j then .isTrue (by rw [h]) else .isFalse fun z => h (by cases z; rfl)
  | .str i, .str j => if h : i = j then .isTrue (by rw [h]) else .isFalse fun z => h (by cases z; rfl)
  | .non, .int _ | .non, .str _ | .int _, .non | .int _, .str _ | .str _, .non | .str _, .int _ => .isFalse fun z => by cases z
theorem Pl.irr (p : Pl) : p.lt p = false := by
  cases p with
  | non => rfl
  | int i => simp [Pl.lt]
  | str cs => exact decide_eq_false (List.lt_irrefl cs)
theorem Pl.tr {a b c : Pl} (h : a.lt b = true) (h2 : b.lt c = true) : a.lt c = true := by
  cases a <;> cases b <;> cases c <;> first
    | rfl
    | (simp [Pl.lt] at h; done)
    | (simp [Pl.lt] at h2; done)
    | (simp [Pl.lt] at h h2 ⊢; omega)
    | (simp only [Pl.lt, decide_eq_true_eq] at h h2 ⊢; exact List.lt_trans h h2)
theorem Pl.tri (a b : Pl) : a.lt b = true ∨ a = b ∨ b.lt a = true := by
  cases a with
  | non => cases b <;> first | exact .inr (.inl rfl) | exact .inl rfl
  | int i =>
    cases b with
    | non => exact .inr (.inr rfl)
    | int j =>
      rcases Int.lt_trichotomy i j with h | h | h
      · exact .inl (decide_eq_true h)
      · exact .inr (.inl (by rw [h]))
      · exact .inr (.inr (decide_eq_true h))
    | str c => exact .inl rfl
  | str x =>
    cases b with
    | non => exact .inr (.inr rfl)
    | int j => exact .inr (.inr rfl)
    | str y =>
      by_cases h : x < y
      · exact .inl (decide_eq_true h)
      · by_cases h2 : y < x
        · exact .inr (.inr (decide_eq_true h2))
        · exact .inr (.inl (by rw [List.le_antisymm (List.not_lt.mp h2) (List.not_lt.mp h)]))
/-- not after -/
def Pl.le (a b : Pl) : Bool := !b.lt a
theorem Pl.le_trans {a b c : Pl} (h : a.le b = true) (h2 : b.le c = true) : a.le c = true := by
  unfold Pl.le at *
  cases q : c.lt a with
  | false => rfl
  | true =>
    rcases Pl.tri b c with h3 | h3 | h3
    · rw [Pl.tr h3 q] at h; cases h
    · rw [h3, q] at h; cases h
    · rw [h3] at h2; cases h2
/-! what == sees of them -/
def Pl.py : Pl → PyData
  | .non => .none
  | .int i => .int i
  | .str cs => .str (tx cs)
def Pl.ok : Pl → Prop
  | .str cs => ∀ c ∈ cs, c < 1114112
  | _ => True
theorem strOk_tx {cs : List Nat} (h : ∀ c ∈ cs, c < 1114112) : PySem.PyData.strOk (tx cs) = true := by
  show (cs.toArray.all fun c => decide (c < 0x110000)) = true
  rw [List.all_toArray, List.all_eq_true]
  exact fun c hc => decide_eq_true (h c hc)
theorem Pl.pyT (p : Pl) : Fx.pyT p.d = some p.py := by cases p <;> rfl
theorem Pl.pyL : ∀ ps : List Pl, Fx.pyL (ps.map Pl.d) = some (ps.map Pl.py)
  | [] => rfl
  | p :: ps => by rw [List.map_cons, Fx.pyL, Pl.pyT, Pl.pyL ps]; rfl
theorem Pl.can {p : Pl} (h : p.ok) : p.py.canLay0 = true := by
  cases p with
  | str cs => exact strOk_tx h
  | _ => rfl
theorem Pl.canL : ∀ {ps : List Pl}, (∀ p ∈ ps, p.ok) → PyData.canLayAll0 (ps.map Pl.py) = true
  | [], _ => rfl
  | p :: ps, h => by
    rw [List.map_cons, PyData.canLayAll0, Pl.can (h p List.mem_cons_self), Pl.canL fun q hq => h q (List.mem_cons_of_mem _ hq)]
    rfl
theorem Pl.dep (p : Pl) : p.py.depth = 0 := by cases p <;> rfl
theorem Pl.depL : ∀ ps : List Pl, PyData.depthAll (ps.map Pl.py) = 0
  | [] => rfl
  | p :: ps => by rw [List.map_cons, PyData.depthAll, Pl.dep, Pl.depL ps]; rfl
theorem Pl.shaped {p : Pl} (h : p.ok) : SeqAt.shaped p.py = true := by
  unfold SeqAt.shaped
  rw [Pl.can h, Pl.dep]; rfl
theorem Pl.shapedL {ps : List Pl} (h : ∀ p ∈ ps, p.ok) : SeqAt.shaped (.list (ps.map Pl.py)) = true := by
  unfold SeqAt.shaped PyData.canLay0 PyData.depth
  rw [Pl.canL h, Pl.depL]; rfl
theorem Pl.eqv (a b : Pl) : PyData.eqv a.py b.py = decide (a = b) := by
  cases a <;> cases b <;> first
    | (simp [Pl.py, PyData.eqv]; done)
    | (simp only [Pl.py, PyData.eqv]
       refine Eq.symm ?_
       rename_i x y
       by_cases h : x = y
       · subst h; simp
       · rw [decide_eq_false (fun z => h (by cases z; rfl))]
         refine Eq.symm (Bool.eq_false_iff.mpr fun z => h ?_)
         first | exact tx_inj (eq_of_beq z) | exact eq_of_beq z)
theorem Pl.eqvL : ∀ as bs : List Pl, PyData.eqvAll (as.map Pl.py) (bs.map Pl.py) = decide (as = bs)
  | [], [] => rfl
  | [], b :: bs => by simp [PyData.eqvAll]
  | a :: as, [] => by simp [PyData.eqvAll]
  | a :: as, b :: bs => by
    rw [List.map_cons, List.map_cons, PyData.eqvAll, Pl.eqv, Pl.eqvL as bs]
    by_cases h : a = b
    · by_cases h2 : as = bs
      · simp [h, h2]
      · simp [h, h2]
    · simp [h]
theorem pyD_pls {s : S} {ps : List Pl} : pyD s (.lst (ps.map Pl.d)) = some (.list (ps.map Pl.py)) := by
  show Fx.pyT _ = _
  unfold Fx.pyT
  rw [Pl.pyL]; rfl
theorem x_eqPls {as bs : List Pl} {s : S} (ha : ∀ p ∈ as, p.ok) (hb : ∀ p ∈ bs, p.ok) : eqM (.lst (as.map Pl.d)) (.lst (bs.map Pl.d)) s = .ok (.bl (decide (as = bs))) s := by
  show eqD _ _ s = _
  unfold eqD
  rw [pyD_pls, pyD_pls]
  dsimp only
  rw [Pl.shapedL ha, Pl.shapedL hb, PyData.eqv, Pl.eqvL]
  rfl
theorem x_nePls {as bs : List Pl} {s : S} (ha : ∀ p ∈ as, p.ok) (hb : ∀ p ∈ bs, p.ok) : neM (.lst (as.map Pl.d)) (.lst (bs.map Pl.d)) s = .ok (.bl (!decide (as = bs))) s := by
  show neD _ _ s = _
  unfold neD
  rw [pyD_pls, pyD_pls]
  dsimp only
  rw [Pl.shapedL ha, Pl.shapedL hb, PyData.eqv, Pl.eqvL]
  rfl
/-! ### sorted by a key that ranks as they do -/
/-! ### the rank (0, 0, ''), (1, n, ''), (2, 0, text) -/
def Pl.key : Pl → PyData
  | .non => .tuple [.int 0, .int 0, .str (Str.ofString "")]
  | .int i => .tuple [.int 1, .int i, .str (Str.ofString "")]
  | .str cs => .tuple [.int 2, .int 0, .str (tx cs)]
/-! ### rising keys -/
def Rise (ks : List Pl) : Prop := ks.Pairwise fun a b => a.lt b = true
theorem Rise.at {ks : List Pl} (h : Rise ks) {i j : Nat} (hi : i < ks.length) (hj : j < ks.length) (hij : i < j) : ks[i].lt ks[j] = true := List.pairwise_iff_getElem.mp h i j hi hj hij
end Fx

/-! Fx: plain values put in order one by one, plainly -/
namespace Fx
open PySem PySem.Spec PyProof.Rows L2
/-- rising rows with the same members are the same -/
theorem Rise.ext : ∀ {as bs : List Pl}, Rise as → Rise bs → (∀ x, x ∈ as ↔ x ∈ bs) → as = bs
  | [], [], _, _, _ => rfl
  | [], b :: bs, _, _, h => by have := (h b).mpr List.mem_cons_self; cases this
  | a :: as, [], _, _, h => by have := (h a).mp List.mem_cons_self; cases this
  | a :: as, b :: bs, ha, hb, h => by
    have a1 := List.pairwise_cons.mp ha
    have b1 := List.pairwise_cons.mp hb
    have e : a = b := by
      rcases List.mem_cons.mp ((h a).mp List.mem_cons_self) with h1 | h1
      · exact h1
      · rcases List.mem_cons.mp ((h b).mpr List.mem_cons_self) with h2 | h2
        · exact h2.symm
        · have q1 := b1.1 a h1
          have q2 := Pl.tr q1 (a1.1 b h2)
          rw [Pl.irr] at q2; cases q2
    subst e
    congr 1
    refine Rise.ext a1.2 b1.2 fun x => ⟨fun hx => ?_, fun hx => ?_⟩
    · rcases List.mem_cons.mp ((h x).mp (List.mem_cons_of_mem _ hx)) with rfl | h1
      · have := a1.1 x hx
        rw [Pl.irr] at this; cases this
      · exact h1
    · rcases List.mem_cons.mp ((h x).mpr (List.mem_cons_of_mem _ hx)) with rfl | h1
      · have := b1.1 x hx
        rw [Pl.irr] at this; cases this
      · exact h1
end Fx

/-! Fx: objects of own classes, their fields and methods; promises of other kinds -/
namespace Fx
open PySem PySem.Spec PyProof.Rows L2
variable {X : Cx} {W : WX}
/-! ### one of two readings -/
def altM {α : Type} (f g : M α) : M α := fun s => match f s with
  | .bad => g s
  | r => r
theorem alt_is {α : Type} (f g : M α) (s : S) : altM f g s = f s ∨ altM f g s = g s := by
  unfold altM
  cases f s with
  | bad => exact .inr rfl
  | ok a s' => exact .inl rfl
  | exc e s' => exact .inl rfl
theorem pe_either {e : Expr} {t u : TE} (h : PE X e t) (k : PE X e u) : PE X e (fun σ H Q => t σ H Q ∨ u σ H Q) :=
  ⟨fun pins s σ H Q I q => q.elim (h.run pins s σ H Q I) (k.run pins s σ H Q I)⟩
theorem de_or2 {e : Expr} {f g h : M D} (a : DE X W e f) (b : DE X W e g) (c : ∀ s, h s = f s ∨ h s = g s) : DE X W e h := by
  obtain ⟨t, p, r⟩ := a
  obtain ⟨u, q, k⟩ := b
  refine ⟨_, pe_either p q, fun w H σ s Q R z => ?_⟩
  rcases c s with e | e
  · rw [e] at z; exact .inl (r w H σ s Q R z)
  · rw [e] at z; exact .inr (k w H σ s Q R z)
/-! ### fields -/
def clsIn (K : PySem.W.Frag) (x : Str) (C : Addr) : Prop := PySem.W.nsIn K mainGlobals x = some (some (.ref C))
def objOf (s : S) (x : Str) : D → Option (List (Str × D))
  | .cell n => match s.vh[n]? with
    | some (.obj y fs) => if y = x then some fs else none
    | _ => none
  | _ => none
section
variable {K : PySem.W.Frag} {w : Wd} {H : Hp} {σ : L2.St} {s : S} {v : V} {d : D}
theorem RS.obj (R : RS K w H σ s) (r : Rep K w v d) {x : Str} {fs : List (Str × D)} (h : objOf s x d = some fs) : ∃ n a C dx vs, d = .cell n ∧ v = .ref a ∧ s.vh[n]? = some (.obj x fs) ∧ w.ρ[n]? = some a ∧ clsIn K x C ∧ H a = some (.ins C dx vs) ∧ RepF K w vs fs := by
  cases r with
  | @cell a n h1 =>
    obtain ⟨c, e, hc⟩ := R.cellOf h1
    unfold objOf at h
    simp only [e] at h
    cases c with
    | lst xs => simp at h
    | dct _ => simp at h
    | dctL _ _ _ => simp at h
    | dctN _ _ => simp at h
    | obj y gs =>
      simp only at h
      split at h
      · next q => cases h; subst q; obtain ⟨C, dx, vs, h2, h3, h4⟩ := hc; exact ⟨n, a, C, dx, vs, rfl, rfl, e, h1, h2, h3, h4⟩
      · cases h
  | _ => simp [objOf] at h
theorem RepF.lookup : ∀ {vs : List (Str × V)} {fs : List (Str × D)} {f : Str} {d : D}, RepF K w vs fs → fs.lookup f = some d → ∃ v, vs.lookup f = some v ∧ Rep K w v d
  | _, _, f, d, .nil, e => by cases e
  | _, _, f, d, .cons (k := k) h t, e => by
    rw [List.lookup_cons] at e ⊢
    cases q : f == k with
    | true => rw [q] at e; cases e; exact ⟨_, rfl, h⟩
    | false => rw [q] at e; exact RepF.lookup t e
theorem RepF.length : ∀ {vs : List (Str × V)} {fs : List (Str × D)}, RepF K w vs fs → vs.length = fs.length
  | _, _, .nil => rfl
  | _, _, .cons _ t => by simp only [List.length_cons]; rw [RepF.length t]
def putD (f : Str) (v : D) : List (Str × D) → List (Str × D)
  | [] => [(f, v)]
  | (g, x) :: r => if g = f then (g, v) :: r else (g, x) :: putD f v r
theorem RepF.put (r : Rep K w v d) {f : Str} : ∀ {vs : List (Str × V)} {fs : List (Str × D)}, RepF K w vs fs → RepF K w (putF f v vs) (putD f d fs)
  | _, _, .nil => .cons r .nil
  | _, _, .cons (k := k) h t => by
    unfold putF putD
    split
    · exact .cons r t
    · exact .cons h (RepF.put r t)
end
def fldM (x f : Str) (d : D) : M D := fun s => match objOf s x d with
  | some fs => match fs.lookup f with
    | some v => .ok v s
    | none => .bad
  | none => .bad
def stoM (x f : Str) (v : D) (d : D) : M Out := fun s => match d, objOf s x d with
  | .cell n, some fs => if fs.length < 1000 then .ok .nx ⟨s.loc, s.vh.set n (.obj x (putD f v fs))⟩ else .bad
  | _, _ => .bad
def fldS (x f : Str) (fo fv : M D) : M Out := bnd fv fun v => bnd fo fun d => stoM x f v d
/-! ### a call answers a promise -/
/-- a def or method that hands back a new list or dict of its own, and changes nothing -/
abbrev Nf := List D → List Cell → Option Cell
def ncC (b : Nat) : Cell → Bool
  | .lst ds => ncL b ds
  | .dct kvs => kvs.all fun kv => nc b kv.2
  | .dctL _ _ kvs => kvs.all fun kv => nc b kv.2
  | .dctN _ kvs => kvs.all fun kv => nc b kv.2
  | .obj _ fs => fs.all fun kv => nc b kv.2
open Classical in
noncomputable def finN (vh : List Cell) (s : S) : D → Option Cell
  | .cell n => if s.vh.take vh.length = vh then (if vh.length ≤ n then (match s.vh[n]? with
    | some c => if ncC vh.length c = true then some c else none
    | none => none) else none) else none
  | _ => none
noncomputable def runN (n : Nat) (g : M Out) : Nf := fun ds vh => match g (initS n ds vh) with
  | .ok (.rt d) s => finN vh s d
  | _ => none
def SpN (K : PySem.W.Frag) (n : Nat) (F : Nf) : Sp := fun vs H Q _ => vs.length = n ∧ ∃ w σ s ds c, RS K w H σ s ∧ RepL K w vs ds ∧ F ds s.vh = some c ∧ ∀ w' H' v, Le w H w' H' → RS K w' H' σ s → (pN K).p H w' H' v c → Q v H'
def callN (n : Nat) (F : Nf) (ds : List D) : M Cell := fun s => if ds.length = n then match F ds s.vh with
  | some c => .ok c s
  | none => .bad else .bad
/-! ### behind a def: its own cells are forgotten -/
section
variable {K : PySem.W.Frag} {w w0 : Wd} {H H0 : Hp} {σ σ0 : L2.St} {s s0 : S} {b : Nat}
def Wd.cut (w : Wd) (b : Nat) : Wd := ⟨w.ρ.take b, w.F⟩
mutual
theorem cut_rep : ∀ {v : V} {d : D}, Rep K w v d → nc b d = true → Rep K (w.cut b) v d
  | _, _, .non, _ => .non
  | _, _, .bl x, _ => .bl x
  | _, _, .int i, _ => .int i
  | _, _, .str x, _ => .str x
  | _, _, .ref a, _ => .ref a
  | _, _, .emp h, _ => .emp h
  | _, _, .err h t, c => .err h (cut_repL t (by simpa [nc] using c))
  | _, _, .tup h t, c => .tup h (cut_repL t (by simpa [nc] using c))
  | _, _, .pr h r q, c => by
    unfold nc at c
    rw [Bool.and_eq_true] at c
    exact .pr h (cut_rep r c.1) (cut_rep q c.2)
  | _, _, .lst h t, c => .lst h (cut_repL t (by simpa [nc] using c))
  | _, _, .cell (n := n) h, c => .cell (by
      have hn : n < b := by simpa [nc] using c
      show (w.ρ.take b)[n]? = _
      rw [List.getElem?_take, if_pos hn]; exact h)
theorem cut_repL : ∀ {vs : List V} {ds : List D}, RepL K w vs ds → ncL b ds = true → RepL K (w.cut b) vs ds
  | _, _, .nil, _ => .nil
  | _, _, .cons h t, c => by
    have c : (nc b _ && ncL b _) = true := c
    rw [Bool.and_eq_true] at c
    exact .cons (cut_rep h c.1) (cut_repL t c.2)
end
theorem cut_repK : ∀ {vs : List (Key × V)} {ds : List (Key × D)}, RepK K w vs ds → (ds.all fun kv => nc b kv.2) = true → RepK K (w.cut b) vs ds
  | _, _, .nil, _ => .nil
  | _, _, .cons h t, c => by
    rw [List.all_cons, Bool.and_eq_true] at c
    exact .cons (cut_rep h c.1) (cut_repK t c.2)
theorem cut_repF : ∀ {vs : List (Str × V)} {ds : List (Str × D)}, RepF K w vs ds → (ds.all fun kv => nc b kv.2) = true → RepF K (w.cut b) vs ds
  | _, _, .nil, _ => .nil
  | _, _, .cons h t, c => by
    rw [List.all_cons, Bool.and_eq_true] at c
    exact .cons (cut_rep h c.1) (cut_repF t c.2)
theorem cut_repN : ∀ {xs : NX} {ds : List (NestedKey × D)}, RepN K w xs ds → (ds.all fun kv => nc b kv.2) = true → RepN K (w.cut b) xs ds
  | _, _, .nil, _ => .nil
  | _, _, .cons hk hq r ru h t, c => by
    rw [List.all_cons, Bool.and_eq_true] at c
    exact .cons hk hq (cut_rep r (nk_nc hk)) ru (cut_rep h c.1) (cut_repN t c.2)
theorem cut_cell {a : Addr} {c : Cell} (h : CellIs K w H a c) (hc : ncC b c = true) : CellIs K (w.cut b) H a c := by
  cases c with
  | lst ds => obtain ⟨vs, h1, h2⟩ := h; exact ⟨vs, h1, cut_repL h2 hc⟩
  | dct kvs => obtain ⟨vs, h1, h2⟩ := h; exact ⟨vs, h1, cut_repK h2 hc⟩
  | dctL o us kvs => obtain ⟨h1, h2⟩ := h; exact ⟨h1, cut_repK h2 hc⟩
  | dctN wd kvs => obtain ⟨xs, h1, h2⟩ := h; exact ⟨xs, h1, cut_repN h2 hc⟩
  | obj x fs => obtain ⟨C, dx, vs, h0, h1, h2⟩ := h; exact ⟨C, dx, vs, h0, h1, cut_repF h2 hc⟩
theorem nc_ofK : ∀ {vs : List (Key × V)} {ds : List (Key × D)}, RepK K w0 vs ds → w0.ρ.length ≤ b → (ds.all fun kv => nc b kv.2) = true
  | _, _, .nil, _ => rfl
  | _, _, .cons h t, c => by
    rw [List.all_cons, nc_of h c, nc_ofK t c]; rfl
theorem nc_ofF : ∀ {vs : List (Str × V)} {ds : List (Str × D)}, RepF K w0 vs ds → w0.ρ.length ≤ b → (ds.all fun kv => nc b kv.2) = true
  | _, _, .nil, _ => rfl
  | _, _, .cons h t, c => by
    rw [List.all_cons, nc_of h c, nc_ofF t c]; rfl
theorem nc_ofN : ∀ {xs : NX} {ds : List (NestedKey × D)}, RepN K w0 xs ds → w0.ρ.length ≤ b → (ds.all fun kv => nc b kv.2) = true
  | _, _, .nil, _ => rfl
  | _, _, .cons _ _ _ _ h t, c => by
    rw [List.all_cons, nc_of h c, nc_ofN t c]; rfl
theorem ncC_of {a : Addr} {c : Cell} (h : CellIs K w0 H0 a c) (hb : w0.ρ.length ≤ b) : ncC b c = true := by
  cases c with
  | lst ds => obtain ⟨vs, h1, h2⟩ := h; exact nc_ofL h2 hb
  | dct kvs => obtain ⟨vs, h1, h2⟩ := h; exact nc_ofK h2 hb
  | dctL o us kvs => obtain ⟨h1, h2⟩ := h; exact nc_ofK h2 hb
  | dctN wd kvs => obtain ⟨xs, h1, h2⟩ := h; exact nc_ofN h2 hb
  | obj x fs => obtain ⟨C, dx, vs, h0, h1, h2⟩ := h; exact nc_ofF h2 hb
theorem RS.ncs (R0 : RS K w0 H0 σ0 s0) : ∀ c ∈ s0.vh, ncC s0.vh.length c = true := fun c hc => by
  obtain ⟨n, hn, e⟩ := List.mem_iff_getElem.mp hc
  obtain ⟨a, _, h⟩ := R0.addrOf (n := n) (c := c) (by rw [List.getElem?_eq_getElem hn, e])
  exact ncC_of h (Nat.le_of_eq R0.cl)
theorem RS.cut (R0 : RS K w0 H0 σ0 s0) (l : Le w0 H0 w H) (R : RS K w H σ s) (hb : b = s0.vh.length) (hl : b ≤ s.vh.length) (hc : ∀ c ∈ s.vh.take b, ncC b c = true) : Le w0 H0 (w.cut b) H ∧ RS K (w.cut b) H σ0 ⟨s0.loc, s.vh.take b⟩ := by
  subst hb
  have hlen : s0.vh.length ≤ w.ρ.length := by rw [R.cl]; exact hl
  have le : w0.le (w.cut s0.vh.length) := ⟨fun n a e => by
    have hn : n < s0.vh.length := by rw [← R0.cl]; exact (List.getElem?_eq_some_iff.mp e).1
    show (w.ρ.take s0.vh.length)[n]? = some a
    rw [List.getElem?_take, if_pos hn]; exact l.le.1 n a e, l.le.2⟩
  refine ⟨⟨le, l.keep, fun a h => l.newρ a (List.mem_of_mem_take h), l.newF⟩, R.sub, R0.len, fun i d e => ?_, ?_, R.nd.sublist (List.take_sublist _ _), fun a ha => R.out a (List.mem_of_mem_take ha), fun n a c e1 e2 => ?_⟩
  · obtain ⟨v, h1, h2⟩ := R0.loc i d e
    exact ⟨v, h1, h2.upW le⟩
  · show (w.ρ.take s0.vh.length).length = (s.vh.take s0.vh.length).length
    rw [List.length_take, List.length_take]; omega
  · have e1 : (w.ρ.take s0.vh.length)[n]? = some a := e1
    have e2 : (s.vh.take s0.vh.length)[n]? = some c := e2
    have hm := List.mem_of_getElem? e2
    have hn : n < s0.vh.length := by
      have := (List.getElem?_eq_some_iff.mp e2).1
      rw [List.length_take] at this; omega
    rw [List.getElem?_take, if_pos hn] at e1 e2
    exact cut_cell (R.cells n a c e1 e2) (hc c hm)
end
open Classical in
/-- writes cells of its caller, what it made besides is forgotten -/
noncomputable def finW (b : Nat) (s : S) (d : D) : Option (D × List Cell) := if b ≤ s.vh.length then (if (s.vh.take b).all (ncC b) = true then (if nc b d = true then some (d, s.vh.take b) else none) else none) else none
noncomputable def runW (n : Nat) (g : M Out) : Sf := fun ds vh => match g (initS n ds vh) with
  | .ok (.rt d) s => finW vh.length s d
  | .ok .nx s => finW vh.length s .non
  | _ => none
section
variable {P : Program} {wd : World} {K : PySem.W.Frag} {mg : Str → Option Value} {base : Heap} {x qual : Str} {st : Stmt} {f : Addr} {fd : FuncData} {N ps : List Str} {k : Nat} {g : M Out}
theorem fn_new (F : Fun K x qual st f fd) (Sc : FnScope N ps (defScope st)) (hle : ps.length ≤ N.length)
    (body : ∀ (cdv : Value) (A : Around) (outer : List Env) (s : Shared) (H : Hp) (E : XK), Room k (A.deeper (envOfC qual (defScope st) s.heap.objs.size f cdv)) →
      DSs (cxOf CX0 P wd K mg base N qual (defScope st) f cdv A outer s H E).nox W0 (defBody st) g) : FnOk P wd K mg base CX0 (k + 1) f fd ps (SpN K ps.length (runN N.length g)) := by
  refine F.ok Sc (fun vs H Q E h => h.1) fun cdv A outer s H vs Q E hr h => ?_
  obtain ⟨t, p, r⟩ := body cdv A outer s H E hr
  obtain ⟨hl, w, σ, z, ds, c, R, rv, e, q⟩ := h
  refine ⟨t, p, r w H _ (initS N.length ds z.vh) _ (start_ok (ps := ps) R rv) ?_⟩
  show PostS K W0 w H (g (initS N.length ds z.vh)) _
  unfold runN at e
  cases hg : g (initS N.length ds z.vh) with
  | bad => rw [hg] at e; cases e
  | exc x s1 => rw [hg] at e; cases e
  | ok o s1 =>
    rw [hg] at e
    cases o with
    | brk => cases e
    | cnt => cases e
    | nx => cases e
    | rt d0 =>
      intro w' H' σ' v l R' rv
      cases d0 with
      | cell n =>
        unfold finN at e
        dsimp only at e
        by_cases h1 : s1.vh.take z.vh.length = z.vh
        · rw [if_pos h1] at e
          by_cases h2 : z.vh.length ≤ n
          · rw [if_pos h2] at e
            cases hc' : s1.vh[n]? with
            | none => rw [hc'] at e; cases e
            | some c' =>
              rw [hc'] at e
              dsimp only at e
              by_cases h3 : ncC z.vh.length c' = true
              · rw [if_pos h3] at e
                cases e
                cases rv with
                | @cell a0 _ hr =>
                  have hl2 : z.vh.length ≤ s1.vh.length := by
                    have := congrArg List.length h1
                    rw [List.length_take] at this; omega
                  obtain ⟨l2, R2⟩ := RS.cut R l R' rfl hl2 (by rw [h1]; exact R.ncs)
                  rw [h1] at R2
                  have hcell := R'.cells _ _ _ hr hc'
                  refine q _ _ _ l2 R2 ⟨_, rfl, R'.out _ (List.mem_of_getElem? hr), fun hm => ?_, cut_cell hcell h3, ?_⟩
                  · obtain ⟨m, hm1, hm2⟩ := List.mem_iff_getElem.mp hm
                    have e1 : (w'.ρ.take z.vh.length)[m]? = some a0 := by
                      rw [← hm2]
                      exact List.getElem?_eq_getElem hm1
                    have hmb : m < z.vh.length := by
                      have : m < (w'.ρ.take z.vh.length).length := hm1
                      rw [List.length_take] at this; omega
                    rw [List.getElem?_take, if_pos hmb] at e1
                    have i1 := List.getElem?_eq_some_iff.mp e1
                    have i2 := List.getElem?_eq_some_iff.mp hr
                    have := (List.getElem_inj R'.nd).mp (i1.2.trans i2.2.symm)
                    omega
                  · cases hH : H a0 with
                    | none => rfl
                    | some o =>
                      exfalso
                      rcases l.newρ a0 (List.mem_of_getElem? hr) with z1 | z1
                      · obtain ⟨m, hm1, hm2⟩ := List.mem_iff_getElem.mp z1
                        have e1 : w.ρ[m]? = some a0 := by rw [List.getElem?_eq_getElem hm1, hm2]
                        have e2 := l.le.1 m a0 e1
                        have i1 := List.getElem?_eq_some_iff.mp e2
                        have i2 := List.getElem?_eq_some_iff.mp hr
                        have := (List.getElem_inj R'.nd).mp (i1.2.trans i2.2.symm)
                        have hz : m < z.vh.length := by rw [← R.cl]; exact hm1
                        omega
                      · rw [hH] at z1; cases z1
              · rw [if_neg h3] at e; cases e
          · rw [if_neg h2] at e; cases e
        · rw [if_neg h1] at e; cases e
      | _ => simp [finN] at e
theorem fn_wr (F : Fun K x qual st f fd) (Sc : FnScope N ps (defScope st)) (hle : ps.length ≤ N.length)
    (body : ∀ (cdv : Value) (A : Around) (outer : List Env) (s : Shared) (H : Hp) (E : XK), Room k (A.deeper (envOfC qual (defScope st) s.heap.objs.size f cdv)) →
      DSs (cxOf CX0 P wd K mg base N qual (defScope st) f cdv A outer s H E).nox W0 (defBody st) g) : FnOk P wd K mg base CX0 (k + 1) f fd ps (SpS K ps.length (runW N.length g)) := by
  refine F.ok Sc (fun vs H Q E h => h.1) fun cdv A outer s H vs Q E hr h => ?_
  obtain ⟨t, p, r⟩ := body cdv A outer s H E hr
  obtain ⟨hl, w, σ, z, ds, d, vh, R, rv, e, q⟩ := h
  refine ⟨t, p, r w H _ (initS N.length ds z.vh) _ (start_ok (ps := ps) R rv) ?_⟩
  show PostS K W0 w H (g (initS N.length ds z.vh)) _
  unfold runW at e
  have fin_ok : ∀ {d0 : D} {s1 : S}, finW z.vh.length s1 d0 = some (d, vh) → ∀ w' H' σ' v, Le w H w' H' → RS K w' H' σ' s1 → Rep K w' v d0 → Q v H' := fun {d0 s1} e w' H' σ' v l R' rv => by
    unfold finW at e
    split at e
    · next h1 =>
      split at e
      · next h2 =>
        split at e
        · next h3 =>
          cases e
          rw [List.all_eq_true] at h2
          obtain ⟨l2, R2⟩ := RS.cut R l R' rfl h1 h2
          exact q _ _ _ l2 R2 (cut_rep rv h3)
        · cases e
      · cases e
    · cases e
  cases hg : g (initS N.length ds z.vh) with
  | bad => rw [hg] at e; cases e
  | exc x s1 => rw [hg] at e; cases e
  | ok o s1 =>
    rw [hg] at e
    cases o with
    | brk => cases e
    | cnt => cases e
    | rt d0 => exact fun w' H' σ' v l R' rv => fin_ok e w' H' σ' v l R' rv
    | nx => exact fun w' H' σ' l R' => fin_ok e w' H' σ' .non l R' .non
end
end Fx

/-! Fx: calls of defs and methods by their promises, new objects -/
namespace Fx
open PySem PySem.Spec PyProof.Rows L2
variable {X : Cx} {W : WX}
structure FnQ (P : Program) (wd : World) (K : PySem.W.Frag) (mg : Str → Option Value) (base : Heap) (x : Str) (k : Nat) (sp : Sp) : Prop where
  ex : ∃ (f : Addr) (fd : FuncData) (ps : List Str), mg x = some (.ref f) ∧ PySem.W.keepIn K (.ref f) = true ∧ Binds K fd ps [] ∧ FnOk P wd K mg base CX0 k f fd ps sp
structure Met (P : Program) (wd : World) (K : PySem.W.Frag) (mg : Str → Option Value) (base : Heap) (x m : Str) (k : Nat) (sp : Sp) : Prop where
  ex : ∃ (C f : Addr) (fd : FuncData) (ps : List Str), clsIn K x C ∧ Meth K C m f ∧ Binds K fd ps [] ∧ FnOk P wd K mg base CX0 k f fd ps sp
structure MkQ (P : Program) (wd : World) (K : PySem.W.Frag) (mg : Str → Option Value) (base : Heap) (x : Str) (k : Nat) (sp : Sp) : Prop where
  ex : ∃ (C f : Addr) (fd : FuncData) (ps : List Str), clsIn K x C ∧ mg x = some (.ref C) ∧ Mk K C f ∧ Binds K fd ps [] ∧ FnOk P wd K mg base CX0 k f fd ps sp
section
variable {P : Program} {wd : World} {K : PySem.W.Frag} {mg : Str → Option Value} {base : Heap} {x m : Str} {j k n : Nat} {sp : Sp}
theorem FnQ.mono (h : FnQ P wd K mg base x j sp) (l : j ≤ k) : FnQ P wd K mg base x k sp := let ⟨f, fd, ps, a, b, c, d⟩ := h.ex; ⟨f, fd, ps, a, b, c, d.mono l⟩
theorem Met.mono (h : Met P wd K mg base x m j sp) (l : j ≤ k) : Met P wd K mg base x m k sp := let ⟨C, f, fd, ps, a, b, c, d⟩ := h.ex; ⟨C, f, fd, ps, a, b, c, d.mono l⟩
theorem FnP.q {F : Pf} (h : FnP P wd K mg base x n k F) : FnQ P wd K mg base x k (SpP K n F) := let ⟨f, fd, ps, _, b, c, d, e⟩ := h.ex; ⟨f, fd, ps, b, c, d, e⟩
theorem FnS.q {F : Sf} (h : FnS P wd K mg base x n k F) : FnQ P wd K mg base x k (SpS K n F) := let ⟨f, fd, ps, _, b, c, d, e⟩ := h.ex; ⟨f, fd, ps, b, c, d, e⟩
end
section
variable {α : Type} {P : Pr V α} {sp : Sp} {g : List D → M α} {x m : Str} {k : Nat} {e o : Expr} {es : List Expr} {fo : M D} {fs : M (List D)} {p pos apos : Pos}
/-! o.m(e, ..) -/
def metM (x m : Str) (fo : M D) (fs : M (List D)) (g : List D → M α) : M α := bnd fo fun d s => match objOf s x d with
  | some gs => if gs.lookup m = none then bnd fs (fun ds => g (d :: ds)) s else .bad
  | none => .bad
def metM0 (x m : Str) (fo : M D) (g : List D → M α) : M α := bnd fo fun d s => match objOf s x d with
  | some gs => if gs.lookup m = none then g [d] s else .bad
  | none => .bad
end
/-! ### C(e, ..) -/
def makeM (x : Str) (n : Nat) (F : Sf) (ds : List D) : M D := fun s => if ds.length + 1 = n then match F (.cell s.vh.length :: ds) (s.vh ++ [.obj x []]) with
  | some (.non, vh) => .ok (.cell s.vh.length) ⟨s.loc, vh⟩
  | _ => .bad else .bad
section
variable {x : Str} {n k : Nat} {F : Sf} {e : Expr} {es : List Expr} {fs : M (List D)} {p pos : Pos}
end
/-! ### as the top leaves them -/
structure TopM (K : PySem.W.Frag) (x m q : Str) (st : Stmt) (ps : List Str) : Prop where
  ex : ∃ (C f : Addr) (fd : FuncData), clsIn K x C ∧ Fun K m q st f fd ∧ Meth K C m f ∧ Binds K fd ps []
structure TopI (K : PySem.W.Frag) (mg : Str → Option Value) (x q : Str) (st : Stmt) (ps : List Str) : Prop where
  ex : ∃ (C f : Addr) (fd : FuncData), clsIn K x C ∧ mg x = some (.ref C) ∧ Fun K "__init__" q st f fd ∧ Mk K C f ∧ Binds K fd ps []
section
variable {P : Program} {wd : World} {K : PySem.W.Frag} {mg : Str → Option Value} {base : Heap} {x m q : Str} {st : Stmt} {N ps : List Str} {k : Nat} {g : M Out}
theorem TopM.fnN (T : TopM K x m q st ps) (Sc : FnScope N ps (defScope st)) (hle : ps.length ≤ N.length)
    (body : ∀ (f : Addr) (cdv : Value) (A : Around) (outer : List Env) (s : Shared) (H : Hp) (E : XK), Room k (A.deeper (envOfC q (defScope st) s.heap.objs.size f cdv)) →
      DSs (cxOf CX0 P wd K mg base N q (defScope st) f cdv A outer s H E).nox W0 (defBody st) g) : Met P wd K mg base x m (k + 1) (SpN K ps.length (runN N.length g)) :=
  let ⟨C, f, fd, a, F, M, b⟩ := T.ex
  ⟨C, f, fd, ps, a, M, b, fn_new F Sc hle fun cdv A outer s H E hr => body f cdv A outer s H E hr⟩
theorem TopM.fnS (T : TopM K x m q st ps) (Sc : FnScope N ps (defScope st)) (hle : ps.length ≤ N.length)
    (body : ∀ (f : Addr) (cdv : Value) (A : Around) (outer : List Env) (s : Shared) (H : Hp) (E : XK), Room k (A.deeper (envOfC q (defScope st) s.heap.objs.size f cdv)) →
      DSs (cxOf CX0 P wd K mg base N q (defScope st) f cdv A outer s H E).nox W0 (defBody st) g) : Met P wd K mg base x m (k + 1) (SpS K ps.length (runS N.length g)) :=
  let ⟨C, f, fd, a, F, M, b⟩ := T.ex
  ⟨C, f, fd, ps, a, M, b, fn_st F Sc hle fun cdv A outer s H E hr => body f cdv A outer s H E hr⟩
theorem TopM.fnW (T : TopM K x m q st ps) (Sc : FnScope N ps (defScope st)) (hle : ps.length ≤ N.length)
    (body : ∀ (f : Addr) (cdv : Value) (A : Around) (outer : List Env) (s : Shared) (H : Hp) (E : XK), Room k (A.deeper (envOfC q (defScope st) s.heap.objs.size f cdv)) →
      DSs (cxOf CX0 P wd K mg base N q (defScope st) f cdv A outer s H E).nox W0 (defBody st) g) : Met P wd K mg base x m (k + 1) (SpS K ps.length (runW N.length g)) :=
  let ⟨C, f, fd, a, F, M, b⟩ := T.ex
  ⟨C, f, fd, ps, a, M, b, fn_wr F Sc hle fun cdv A outer s H E hr => body f cdv A outer s H E hr⟩
theorem TopI.fnS (T : TopI K mg x q st ps) (Sc : FnScope N ps (defScope st)) (hle : ps.length ≤ N.length)
    (body : ∀ (f : Addr) (cdv : Value) (A : Around) (outer : List Env) (s : Shared) (H : Hp) (E : XK), Room k (A.deeper (envOfC q (defScope st) s.heap.objs.size f cdv)) →
      DSs (cxOf CX0 P wd K mg base N q (defScope st) f cdv A outer s H E).nox W0 (defBody st) g) : MkQ P wd K mg base x (k + 1) (SpS K ps.length (runS N.length g)) :=
  let ⟨C, f, fd, a, a2, F, M, b⟩ := T.ex
  ⟨C, f, fd, ps, a, a2, M, b, fn_st F Sc hle fun cdv A outer s H E hr => body f cdv A outer s H E hr⟩
theorem Top.fnN (T : Top K mg x st ps) (Sc : FnScope N ps (defScope st)) (hle : ps.length ≤ N.length)
    (body : ∀ (f : Addr) (cdv : Value) (A : Around) (outer : List Env) (s : Shared) (H : Hp) (E : XK), Room k (A.deeper (envOfC x (defScope st) s.heap.objs.size f cdv)) →
      DSs (cxOf CX0 P wd K mg base N x (defScope st) f cdv A outer s H E).nox W0 (defBody st) g) : FnQ P wd K mg base x (k + 1) (SpN K ps.length (runN N.length g)) :=
  let ⟨f, fd, F, m, b, _⟩ := T.ex
  ⟨f, fd, ps, m, F.kp, b, fn_new F Sc hle fun cdv A outer s H E hr => body f cdv A outer s H E hr⟩
theorem Top.fnW (T : Top K mg x st ps) (Sc : FnScope N ps (defScope st)) (hle : ps.length ≤ N.length)
    (body : ∀ (f : Addr) (cdv : Value) (A : Around) (outer : List Env) (s : Shared) (H : Hp) (E : XK), Room k (A.deeper (envOfC x (defScope st) s.heap.objs.size f cdv)) →
      DSs (cxOf CX0 P wd K mg base N x (defScope st) f cdv A outer s H E).nox W0 (defBody st) g) : FnS P wd K mg base x ps.length (k + 1) (runW N.length g) :=
  let ⟨f, fd, F, m, b, _⟩ := T.ex
  ⟨f, fd, ps, rfl, m, F.kp, b, fn_wr F Sc hle fun cdv A outer s H E hr => body f cdv A outer s H E hr⟩
end
end Fx

/-! Fx: dicts with numbers or texts as keys; sorted of ints, of dicts, of sets of ints -/
namespace Fx
open PySem PySem.Spec PyProof.Rows L2
variable {X : Cx} {W : WX}
def keyD : D → Option Key
  | .int i => some (.inl i)
  | .str x => some (.inr x)
  | _ => none
def dK : Key → D
  | .inl i => .int i
  | .inr x => .str x
section
variable {α : Type}
def valA (kvs : List (Key × α)) (k : Key) : Option α := (kvs.find? fun kv => decide (kv.1 = k)).map (·.2)
def putA (kvs : List (Key × α)) (k : Key) (v : α) : List (Key × α) := if (kvs.any fun kv => decide (kv.1 = k)) = true then kvs.map (fun kv => if kv.1 = k then (kv.1, v) else kv) else kvs ++ [(k, v)]
def dropA (kvs : List (Key × α)) (k : Key) : List (Key × α) := kvs.filter fun kv => decide (kv.1 ≠ k)
def mergeA (kvs more : List (Key × α)) : List (Key × α) := more.foldl (fun acc kv => putA acc kv.1 kv.2) kvs
end
def dctR (s : S) : D → Option (List (Key × D))
  | .cell n => match s.vh[n]? with
    | some (.dct ds) => some ds
    | some (.dctL _ _ ds) => some ds
    | _ => none
  | _ => none
section
variable {K : PySem.W.Frag} {w : Wd} {H : Hp} {σ : L2.St} {s : S} {v : V} {d : D}
theorem key_of {k : Key} (r : Rep K w v d) (h : keyD d = some k) : v = kV k := by
  cases r <;> simp [keyD] at h <;> subst h <;> rfl
theorem RS.dictR (R : RS K w H σ s) (r : Rep K w v d) {ds : List (Key × D)} (h : dctR s d = some ds) : ∃ a vs, v = .ref a ∧ Rd H a (.dK vs) ∧ RepK K w vs ds := by
  cases r with
  | cell h1 =>
    obtain ⟨c, e, hc⟩ := R.cellOf h1
    unfold dctR at h
    simp only [e] at h
    cases c with
    | lst xs => simp at h
    | obj _ _ => simp at h
    | dct _ => simp at h; subst h; obtain ⟨vs, h2, h3⟩ := hc; exact ⟨_, _, rfl, .inl h2, h3⟩
    | dctL o us kvs => simp at h; subst h; obtain ⟨h2, h3⟩ := hc; exact ⟨_, _, rfl, .inr ⟨o, h2⟩, h3⟩
    | dctN _ _ => simp at h
  | _ => simp [dctR] at h
theorem RepK.val {k : Key} : ∀ {vs : List (Key × V)} {ds : List (Key × D)}, RepK K w vs ds → (valA ds k = none → valV vs k = none) ∧ ∀ d, valA ds k = some d → ∃ v, valV vs k = some v ∧ Rep K w v d
  | _, _, .nil => ⟨fun _ => rfl, fun d h => by cases h⟩
  | _, _, .cons (k := k') h t => by
    by_cases e : k' = k
    · refine ⟨fun z => ?_, fun d z => ?_⟩
      · simp [valA, List.find?_cons, e] at z
      · simp [valA, List.find?_cons, e] at z
        subst z
        exact ⟨_, by simp [valV, List.find?_cons, e], h⟩
    · obtain ⟨i1, i2⟩ := RepK.val (k := k) t
      refine ⟨fun z => ?_, fun d z => ?_⟩
      · have := i1 (by simpa [valA, List.find?_cons, e] using z)
        simpa [valV, List.find?_cons, e] using this
      · obtain ⟨u, h1, h2⟩ := i2 d (by simpa [valA, List.find?_cons, e] using z)
        exact ⟨u, by simpa [valV, List.find?_cons, e] using h1, h2⟩
theorem RepK.any {k : Key} : ∀ {vs : List (Key × V)} {ds : List (Key × D)}, RepK K w vs ds → (vs.any fun kv => decide (kv.1 = k)) = (ds.any fun kv => decide (kv.1 = k))
  | _, _, .nil => rfl
  | _, _, .cons h t => by rw [List.any_cons, List.any_cons, RepK.any t]
theorem RepK.append : ∀ {vs us : List (Key × V)} {ds es : List (Key × D)}, RepK K w vs ds → RepK K w us es → RepK K w (vs ++ us) (ds ++ es)
  | _, _, _, _, .nil, s => s
  | _, _, _, _, .cons r t, s => .cons r (RepK.append t s)
theorem RepK.map {k : Key} (r : Rep K w v d) : ∀ {vs : List (Key × V)} {ds : List (Key × D)}, RepK K w vs ds → RepK K w (vs.map fun kv => if kv.1 = k then (kv.1, v) else kv) (ds.map fun kv => if kv.1 = k then (kv.1, d) else kv)
  | _, _, .nil => .nil
  | _, _, .cons (k := k') h t => by
    rw [List.map_cons, List.map_cons]
    by_cases e : k' = k
    · rw [if_pos e, if_pos e]; exact .cons r (RepK.map r t)
    · rw [if_neg e, if_neg e]; exact .cons h (RepK.map r t)
theorem RepK.put {k : Key} {vs : List (Key × V)} {ds : List (Key × D)} (t : RepK K w vs ds) (r : Rep K w v d) : RepK K w (putK vs k v) (putA ds k d) := by
  unfold putK putA
  rw [RepK.any t]
  split
  · exact RepK.map r t
  · exact RepK.append t (.cons r .nil)
theorem RepK.drop {k : Key} : ∀ {vs : List (Key × V)} {ds : List (Key × D)}, RepK K w vs ds → RepK K w (dropK vs k) (dropA ds k)
  | _, _, .nil => .nil
  | _, _, .cons (k := k') h t => by
    have ih := RepK.drop (k := k) t
    unfold dropK dropA at ih ⊢
    by_cases e : k' = k
    · rw [List.filter_cons_of_neg (by simp [e]), List.filter_cons_of_neg (by simp [e])]; exact ih
    · rw [List.filter_cons_of_pos (by simp [e]), List.filter_cons_of_pos (by simp [e])]; exact .cons h ih
theorem RepK.keys : ∀ {vs : List (Key × V)} {ds : List (Key × D)}, RepK K w vs ds → vs.map (·.1) = ds.map (·.1)
  | _, _, .nil => rfl
  | _, _, .cons h t => by rw [List.map_cons, List.map_cons, RepK.keys t]
end
/-! d[k], k in d -/
def dgetM (d e : D) : M D := fun s => match dctR s d, keyD e with
  | some kvs, some k => match valA kvs k with
    | some v => .ok v s
    | none => .bad
  | _, _ => .bad
def dinM (b : Bool) (e d : D) : M D := fun s => match dctR s d, keyD e with
  | some kvs, some k => .ok (.bl ((valA kvs k).isSome == b)) s
  | _, _ => .bad
section
variable {o i : Expr} {fo fi : M D} {pos pos' : Pos} {k : Nat}
theorem bin_or {op op1 op2 : D → D → M D} {a b : M D} (h : ∀ d e s, op d e s = op1 d e s ∨ op d e s = op2 d e s) (s : S) : bin op a b s = bin op1 a b s ∨ bin op a b s = bin op2 a b s := by
  unfold bin bnd
  cases a s with
  | bad => exact .inl rfl
  | exc x s' => exact .inl rfl
  | ok d s1 =>
    dsimp only
    cases b s1 with
    | bad => exact .inl rfl
    | exc x s' => exact .inl rfl
    | ok e s2 => exact h d e s2
theorem de_dget (hu : X.A.units + 1 < cLine) (ho : DE X W o fo) (hi : DE X W i fi) (hs : NoSl i) : DE X W (.Subscript o i pos) (bin dgetM fo fi) := by
  obtain ⟨t, p, r⟩ := ho
  obtain ⟨u, q, h⟩ := hi
  refine ⟨_, pe_dget hu p q hs, fun w H σ s Q R z => ?_⟩
  refine r.bnd R z fun d s1 w1 H1 v1 l1 R1 r1 p1 => ?_
  refine h.bnd R1 p1 fun e s2 w2 H2 v2 l2 R2 r2 p2 => ?_
  unfold dgetM at p2
  split at p2
  · next kvs k hd hk =>
    obtain ⟨a, vs, e1, h1, h2⟩ := R2.dictR (Rep.up l2 r1) hd
    have e2 := key_of r2 hk
    split at p2
    · next v hv =>
      obtain ⟨y, h3, h4⟩ := (RepK.val (k := k) h2).2 v hv
      exact ⟨a, y, e1, .inl ⟨vs, k, h1, e2, h3.symm⟩, Post.here p2 R2 h4⟩
    · exact p2.elim
  · exact p2.elim
/-! x in xs, of flat things; c in text, c one sign -/
def flD : D → Option V
  | .non => some .non
  | .bl b => some (.bl b)
  | .int i => some (.int i)
  | .str x => some (.str x)
  | _ => none
def flL : List D → Option (List V)
  | [] => some []
  | d :: ds => match flD d, flL ds with
    | some v, some vs => some (v :: vs)
    | _, _ => none
def sqOf (s : S) (d : D) : Option (List D) := match d with
  | .tup ds => some ds
  | d => lstOf s d
def inQ (b : Bool) (e d : D) : M D := fun s => match sqOf s d with
  | some ds => match flD e, flL ds with
    | some v, some vs => .ok (.bl (inV v vs == b)) s
    | _, _ => .bad
  | none => .bad
def inT (b : Bool) (e d : D) : M D := match e, d with
  | .str x, .str z => match x.cps.toList with
    | [c] => ret (.bl (decide (c ∈ z.cps.toList) == b))
    | _ => fail
  | _, _ => fail
def inM (e d : D) : M D := altM (inT true e d) (inQ true e d)
def ninM (e d : D) : M D := altM (inT false e d) (inQ false e d)
/-! both kinds in one -/
def ixAM (d e : D) : M D := altM (dgetM d e) (ixM d e)
def inAM (e d : D) : M D := altM (dinM true e d) (inM e d)
def ninAM (e d : D) : M D := altM (dinM false e d) (ninM e d)
theorem de_ixA (hu : X.A.units + 1 < cLine) (ho : DE X W o fo) (hi : DE X W i fi) (hs : PlainIx i := by exact fun _ _ => rfl) : DE X W (.Subscript o i pos) (bin ixAM fo fi) :=
  de_or2 (de_dget hu ho hi hs) (de_ix ho hi hs) (bin_or fun d e s => alt_is _ _ s)
/-! d[k] = v -/
def dputM (v d e : D) : M Out := fun s => match d, keyD e with
  | .cell n, some k => match s.vh[n]? with
    | some (.dct kvs) => if kvs.length < sizeLine then .ok .nx ⟨s.loc, s.vh.set n (.dct (putA kvs k v))⟩ else .bad
    | _ => .bad
  | _, _ => .bad
def dputS (fo fi fv : M D) : M Out := bnd fv fun v => bnd fo fun d => bnd fi fun e => dputM v d e
end
/-! {k: v, ..} -/
def pairM (p q : M D) (r : M (List (Key × D))) : M (List (Key × D)) := bnd p fun d => bnd q fun e => bnd r fun ds => match keyD d with
  | some k => ret ((k, e) :: ds)
  | none => fail
def dspM (r : M (List (Key × D))) : M Cell := bnd r fun ds => if ds.length ≤ 15 then ret (.dct (mergeA [] ds)) else fail
section
variable {k v : Expr} {ks : List (Option Expr)} {vs : List Expr} {fk fv : M D} {fr : M (List (Key × D))} {pos : Pos}
end
end Fx

/-! Fx: sets of ints made of lists -/
namespace L2
open PySem PySem.Spec PyProof.Rows
section
variable {P : Program} {w : World} {A : Around} {E : Value → Shared → Prop} {s : Shared}
variable {X : Cx}
end
end L2

/-! Fx: sorted, of lists, dicts, sets -/
namespace Fx
open PySem PySem.Spec PyProof.Rows L2
variable {X : Cx} {W : WX}
/-! ### the results, plainly -/
def insZ (x : Int) : List Int → List Int
  | [] => [x]
  | y :: r => if x < y then x :: y :: r else if x = y then y :: r else y :: insZ x r
def setZ (ns : List Int) : List Int := ns.foldr insZ []
/-! texts -/
/-! ### sorted(d) -/
def intsOf : List D → Option (List Int)
  | [] => some []
  | .int i :: r => (intsOf r).map (i :: ·)
  | _ => none
section
variable {e : Expr} {fs : M (List D)} {p pos : Pos}
/-- sorted(set(xs)), fewer than 64 ints -/
def sortSetM (d : D) : M Cell := fun s => match lstOf s d with
  | some ds => match intsOf ds with
    | some ns => if ns.length < 64 then .ok (.lst ((setZ ns).map D.int)) s else .bad
    | none => .bad
  | none => .bad
end
end Fx

/-! Fx: odds and ends for the printed texts -/
namespace Fx
open PySem PySem.Spec PyProof.Rows L2
variable {X : Cx} {W : WX}
/-! int(flag), int(n) -/
def intM : List D → M D
  | [.int i] => ret (.int i)
  | [.bl b] => ret (.int (b2i b))
  | _ => fail
/-! list(reversed(xs)) -/
end Fx

/-! Fx: equations for objects, dicts, and the like -/
namespace Fx
open PySem PySem.Spec PyProof.Rows L2
/-! one of two -/
def Res.alt {α : Type} (r q : Res α) : Res α := match r with
  | .bad => q
  | r => r
theorem x_alt {α : Type} {f g : M α} {s : S} : altM f g s = (f s).alt (g s) := by unfold altM Res.alt; rfl
theorem x_altO {α : Type} {a : α} {s : S} {q : Res α} : (Res.ok a s).alt q = .ok a s := nr rfl
theorem x_altB {α : Type} {q : Res α} : (Res.bad : Res α).alt q = q := nr rfl
theorem x_altI {α : Type} {c : Prop} [Decidable c] {a b q : Res α} : (if c then a else b).alt q = if c then a.alt q else b.alt q := by split <;> rfl
/-! cells -/
theorem x_at0 {α : Type} {vh r : List α} {c : α} : (vh ++ c :: r)[vh.length]? = some c := by simp
theorem x_at1 {α : Type} {vh r : List α} {a c : α} : (vh ++ a :: c :: r)[vh.length + 1]? = some c := by
  rw [List.getElem?_append_right (by omega)]; simp
theorem x_at2 {α : Type} {vh r : List α} {a b c : α} : (vh ++ a :: b :: c :: r)[vh.length + 2]? = some c := by
  rw [List.getElem?_append_right (by omega)]; simp
theorem x_at3 {α : Type} {vh r : List α} {a b d c : α} : (vh ++ a :: b :: d :: c :: r)[vh.length + 3]? = some c := by
  rw [List.getElem?_append_right (by omega)]; simp
theorem x_st0 {α : Type} {vh r : List α} {a c : α} : (vh ++ a :: r).set vh.length c = vh ++ c :: r := by
  rw [List.set_append_right _ _ (by omega)]; simp
theorem x_st1 {α : Type} {vh r : List α} {a b c : α} : (vh ++ a :: b :: r).set (vh.length + 1) c = vh ++ a :: c :: r := by
  rw [List.set_append_right _ _ (by omega)]; simp
theorem x_st2 {α : Type} {vh r : List α} {a b d c : α} : (vh ++ a :: b :: d :: r).set (vh.length + 2) c = vh ++ a :: b :: c :: r := by
  rw [List.set_append_right _ _ (by omega)]; simp
/-! objects -/
def fldR (x f : Str) (o : Option Cell) (s : S) : Res D := match o with
  | some (.obj y fs) => if y = x then Res.opt (fs.lookup f) s else .bad
  | _ => .bad
theorem x_fld {x f : Str} {n : Nat} {s : S} : fldM x f (.cell n) s = fldR x f s.vh[n]? s := by
  unfold fldM fldR objOf
  dsimp only
  cases s.vh[n]? with
  | none => rfl
  | some c =>
    cases c with
    | obj y fs =>
      dsimp only
      by_cases h : y = x
      · rw [if_pos h, if_pos h]; dsimp only; cases fs.lookup f <;> rfl
      · rw [if_neg h, if_neg h]
    | _ => rfl
def stoR (x f : Str) (v : D) (n : Nat) (o : Option Cell) (s : S) : Res Out := match o with
  | some (.obj y fs) => if y = x then (if fs.length < 1000 then .ok .nx ⟨s.loc, s.vh.set n (.obj y (putD f v fs))⟩ else .bad) else .bad
  | _ => .bad
theorem x_fldS {x f : Str} {fo fv : M D} {s : S} : fldS x f fo fv s = (fv s).then' fun v => bnd fo fun d => stoM x f v d := nr rfl
theorem x_sto {x f : Str} {v : D} {n : Nat} {s : S} : stoM x f v (.cell n) s = stoR x f v n s.vh[n]? s := by
  have e : objOf s x (.cell n) = match s.vh[n]? with | some (.obj y fs) => (if y = x then some fs else none) | _ => none := rfl
  unfold stoM stoR
  rw [e]
  cases s.vh[n]? with
  | none => rfl
  | some c =>
    cases c with
    | obj y fs =>
      dsimp only
      by_cases h : y = x
      · subst h; rw [if_pos rfl, if_pos rfl]
      · rw [if_neg h, if_neg h]
    | _ => rfl
def metK {α : Type} (x m : Str) (fs : M (List D)) (g : List D → M α) (d : D) : M α := fun s => match objOf s x d with
  | some gs => if gs.lookup m = none then bnd fs (fun ds => g (d :: ds)) s else .bad
  | none => .bad
def metR {α : Type} (x m : Str) (o : Option Cell) (r : Res α) : Res α := match o with
  | some (.obj y fs) => if y = x then (if fs.lookup m = none then r else .bad) else .bad
  | _ => .bad
theorem x_met {α : Type} {x m : Str} {fo : M D} {fs : M (List D)} {g : List D → M α} {s : S} : metM x m fo fs g s = (fo s).then' (metK x m fs g) := nr rfl
theorem x_metK {α : Type} {x m : Str} {fs : M (List D)} {g : List D → M α} {n : Nat} {s : S} : metK x m fs g (.cell n) s = metR x m s.vh[n]? ((fs s).then' fun ds => g (.cell n :: ds)) := by
  unfold metK metR objOf
  dsimp only
  cases s.vh[n]? with
  | none => rfl
  | some c =>
    cases c with
    | obj y fs =>
      dsimp only
      by_cases h : y = x
      · rw [if_pos h, if_pos h]; rfl
      · rw [if_neg h, if_neg h]
    | _ => rfl
def metK0 {α : Type} (x m : Str) (g : List D → M α) (d : D) : M α := fun s => match objOf s x d with
  | some gs => if gs.lookup m = none then g [d] s else .bad
  | none => .bad
theorem x_met0 {α : Type} {x m : Str} {fo : M D} {g : List D → M α} {s : S} : metM0 x m fo g s = (fo s).then' (metK0 x m g) := nr rfl
theorem x_metK0 {α : Type} {x m : Str} {g : List D → M α} {n : Nat} {s : S} : metK0 x m g (.cell n) s = metR x m s.vh[n]? (g [.cell n] s) := by
  unfold metK0 metR objOf
  dsimp only
  cases s.vh[n]? with
  | none => rfl
  | some c =>
    cases c with
    | obj y fs =>
      dsimp only
      by_cases h : y = x
      · rw [if_pos h, if_pos h]
      · rw [if_neg h, if_neg h]
    | _ => rfl
/-! calls -/
def callNR (o : Option Cell) (s : S) : Res Cell := match o with
  | some c => .ok c s
  | none => .bad
theorem x_callN {n : Nat} {F : Nf} {ds : List D} {s : S} : callN n F ds s = if ds.length = n then callNR (F ds s.vh) s else .bad := nr rfl
theorem x_callNR {c : Cell} {s : S} : callNR (some c) s = .ok c s := nr rfl
def callSR (o : Option (D × List Cell)) (s : S) : Res D := match o with
  | some (d, vh) => .ok d ⟨s.loc, vh⟩
  | none => .bad
theorem x_callS {n : Nat} {F : Sf} {ds : List D} {s : S} : callS n F ds s = if ds.length = n then callSR (F ds s.vh) s else .bad := nr rfl
theorem x_callSR {d : D} {vh : List Cell} {s : S} : callSR (some (d, vh)) s = .ok d ⟨s.loc, vh⟩ := nr rfl
def mkR (o : Option (D × List Cell)) (n : Nat) (s : S) : Res D := match o with
  | some (.non, vh) => .ok (.cell n) ⟨s.loc, vh⟩
  | _ => .bad
theorem x_make {x : Str} {n : Nat} {F : Sf} {ds : List D} {s : S} : makeM x n F ds s = if ds.length + 1 = n then mkR (F (.cell s.vh.length :: ds) (s.vh ++ [.obj x []])) s.vh.length s else .bad := by
  unfold makeM mkR
  split
  · generalize F (.cell s.vh.length :: ds) (s.vh ++ [.obj x []]) = r
    cases r with
    | none => rfl
    | some p => obtain ⟨d, vh⟩ := p; cases d <;> rfl
  · rfl
theorem x_mkR {n : Nat} {vh : List Cell} {s : S} : mkR (some (.non, vh)) n s = .ok (.cell n) ⟨s.loc, vh⟩ := nr rfl
/-! dicts -/
def ixCR (o : Option Cell) (i : Int) (s : S) : Res D := match o with
  | some (.dct kvs) => Res.opt (valA kvs (.inl i)) s
  | some (.dctL _ _ kvs) => Res.opt (valA kvs (.inl i)) s
  | some (.lst ds) => Res.opt (atI ds i) s
  | _ => .bad
theorem x_ixC {n : Nat} {i : Int} {s : S} : ixAM (.cell n) (.int i) s = ixCR s.vh[n]? i s := by
  unfold ixAM altM ixCR dgetM dctR ixM lstOf keyD
  dsimp only
  cases s.vh[n]? with
  | none => rfl
  | some c =>
    cases c with
    | dct kvs => dsimp only; cases valA kvs (.inl i) <;> rfl
    | dctL _ _ kvs => dsimp only; cases valA kvs (.inl i) <;> rfl
    | lst ds => dsimp only; cases atI ds i <;> rfl
    | obj _ _ => rfl
    | dctN _ _ => rfl
theorem x_ixCd {kvs : List (Key × D)} {i : Int} {s : S} : ixCR (some (.dct kvs)) i s = Res.opt (valA kvs (.inl i)) s := nr rfl
theorem x_ixCl {ds : List D} {i : Int} {s : S} : ixCR (some (.lst ds)) i s = Res.opt (atI ds i) s := nr rfl
theorem x_ixAL {ds : List D} {i : Int} {s : S} : ixAM (.lst ds) (.int i) s = Res.opt (atI ds i) s := by
  show (altM (dgetM (.lst ds) (.int i)) (ixM (.lst ds) (.int i))) s = _
  rw [show altM (dgetM (.lst ds) (.int i)) (ixM (.lst ds) (.int i)) s = ixM (.lst ds) (.int i) s from rfl, x_ixL]
theorem x_ixAT {ds : List D} {i : Int} {s : S} : ixAM (.tup ds) (.int i) s = Res.opt (atI ds i) s := by
  rw [show ixAM (.tup ds) (.int i) s = ixM (.tup ds) (.int i) s from rfl, x_ixT]
theorem x_ixAS {x : Str} {i : Int} {s : S} : ixAM (.str x) (.int i) s = ixM (.str x) (.int i) s := nr rfl
def dstR (o : Option Cell) (x : Str) (s : S) : Res D := match o with
  | some (.dct kvs) => Res.opt (valA kvs (.inr x)) s
  | some (.dctL _ _ kvs) => Res.opt (valA kvs (.inr x)) s
  | _ => .bad
theorem x_ixD {n : Nat} {x : Str} {s : S} : ixAM (.cell n) (.str x) s = dstR s.vh[n]? x s := by
  unfold ixAM altM dstR dgetM dctR ixM keyD
  dsimp only
  cases s.vh[n]? with
  | none => rfl
  | some c =>
    cases c with
    | dct kvs => dsimp only; cases valA kvs (.inr x) <;> rfl
    | dctL _ _ kvs => dsimp only; cases valA kvs (.inr x) <;> rfl
    | lst ds => rfl
    | obj _ _ => rfl
    | dctN _ _ => rfl
theorem x_dstR {kvs : List (Key × D)} {x : Str} {s : S} : dstR (some (.dct kvs)) x s = Res.opt (valA kvs (.inr x)) s := nr rfl
def inCR (b : Bool) (o : Option Cell) (k : Key) (q : Res D) (s : S) : Res D := match o with
  | some (.dct kvs) => .ok (.bl ((valA kvs k).isSome == b)) s
  | some (.dctL _ _ kvs) => .ok (.bl ((valA kvs k).isSome == b)) s
  | _ => q
theorem x_inC {n : Nat} {i : Int} {s : S} : inAM (.int i) (.cell n) s = inCR true s.vh[n]? (.inl i) (inQ true (.int i) (.cell n) s) s := by
  unfold inAM altM inCR dinM dctR keyD
  dsimp only
  cases s.vh[n]? with
  | none => rfl
  | some c => cases c <;> rfl
theorem x_ninC {n : Nat} {i : Int} {s : S} : ninAM (.int i) (.cell n) s = inCR false s.vh[n]? (.inl i) (inQ false (.int i) (.cell n) s) s := by
  unfold ninAM altM inCR dinM dctR keyD
  dsimp only
  cases s.vh[n]? with
  | none => rfl
  | some c => cases c <;> rfl
theorem x_inS {n : Nat} {i : Str} {s : S} : inAM (.str i) (.cell n) s = inCR true s.vh[n]? (.inr i) (inQ true (.str i) (.cell n) s) s := by
  unfold inAM altM inCR dinM dctR keyD
  dsimp only
  cases s.vh[n]? with
  | none => rfl
  | some c => cases c <;> rfl
theorem x_ninS {n : Nat} {i : Str} {s : S} : ninAM (.str i) (.cell n) s = inCR false s.vh[n]? (.inr i) (inQ false (.str i) (.cell n) s) s := by
  unfold ninAM altM inCR dinM dctR keyD
  dsimp only
  cases s.vh[n]? with
  | none => rfl
  | some c => cases c <;> rfl
theorem x_inCd {b : Bool} {kvs : List (Key × D)} {k : Key} {q : Res D} {s : S} : inCR b (some (.dct kvs)) k q s = .ok (.bl ((valA kvs k).isSome == b)) s := nr rfl
theorem x_inCl {b : Bool} {ds : List D} {k : Key} {q : Res D} {s : S} : inCR b (some (.lst ds)) k q s = q := nr rfl
theorem flL_ints : ∀ ns : List Int, flL (ns.map D.int) = some (ns.map V.int)
  | [] => rfl
  | n :: r => by rw [List.map_cons, flL, flL_ints r]; rfl
theorem inV_ints (i : Int) (ns : List Int) : inV (.int i) (ns.map V.int) = decide (i ∈ ns) := by
  unfold inV
  induction ns with
  | nil => rfl
  | cons n r ih =>
    rw [List.map_cons, List.any_cons, ih]
    show ((n == i) || decide (i ∈ r)) = _
    by_cases h : n = i
    · subst h; simp
    · rw [beq_eq_false_iff_ne.mpr h, Bool.false_or]
      have : ¬ i = n := fun z => h z.symm
      simp [this]
theorem x_inL {i : Int} {ns : List Int} {s : S} : inAM (.int i) (.lst (ns.map D.int)) s = .ok (.bl (decide (i ∈ ns))) s := by
  show inQ true (.int i) (.lst (ns.map D.int)) s = _
  unfold inQ sqOf lstOf
  dsimp only
  rw [flL_ints]
  show Res.ok (D.bl (inV (.int i) (ns.map V.int) == true)) s = _
  rw [inV_ints, beq_true]
theorem x_ninL {i : Int} {ns : List Int} {s : S} : ninAM (.int i) (.lst (ns.map D.int)) s = .ok (.bl (!decide (i ∈ ns))) s := by
  show inQ false (.int i) (.lst (ns.map D.int)) s = _
  unfold inQ sqOf lstOf
  dsimp only
  rw [flL_ints]
  show Res.ok (D.bl (inV (.int i) (ns.map V.int) == false)) s = _
  rw [inV_ints, beq_false]
theorem x_dputS {fo fi fv : M D} {s : S} : dputS fo fi fv s = (fv s).then' fun v => bnd fo fun d => bnd fi fun e => dputM v d e := nr rfl
def dputR (v : D) (n : Nat) (k : Key) (o : Option Cell) (s : S) : Res Out := match o with
  | some (.dct kvs) => if kvs.length < sizeLine then .ok .nx ⟨s.loc, s.vh.set n (.dct (putA kvs k v))⟩ else .bad
  | _ => .bad
theorem x_dput {v : D} {n : Nat} {i : Int} {s : S} : dputM v (.cell n) (.int i) s = dputR v n (.inl i) s.vh[n]? s := by
  unfold dputM dputR keyD
  dsimp only
  all_goals (cases s.vh[n]? with
    | none => rfl
    | some c => cases c <;> rfl)
theorem x_dputT {v : D} {n : Nat} {i : Str} {s : S} : dputM v (.cell n) (.str i) s = dputR v n (.inr i) s.vh[n]? s := by
  unfold dputM dputR keyD
  dsimp only
  all_goals (cases s.vh[n]? with
    | none => rfl
    | some c => cases c <;> rfl)
theorem x_dputR {v : D} {n : Nat} {k : Key} {kvs : List (Key × D)} {s : S} (h : kvs.length < 16777216) : dputR v n k (some (.dct kvs)) s = .ok .nx ⟨s.loc, s.vh.set n (.dct (putA kvs k v))⟩ := by
  unfold dputR
  dsimp only
  rw [if_pos (by rw [sizeLine_eq]; exact h)]
theorem x_pair {p q : M D} {r : M (List (Key × D))} {s : S} : pairM p q r s = (p s).then' fun d => bnd q fun e => bnd r fun ds => match keyD d with | some k => ret ((k, e) :: ds) | none => fail := nr rfl
theorem x_keyI {i : Int} : keyD (.int i) = some (.inl i) := nr rfl
theorem x_keyS {i : Str} : keyD (.str i) = some (.inr i) := nr rfl
theorem x_dsp {r : M (List (Key × D))} {s : S} : dspM r s = (r s).then' fun ds => if ds.length ≤ 15 then ret (.dct (mergeA [] ds)) else fail := nr rfl
theorem x_merge1 {k : Key} {v : D} : mergeA [] [(k, v)] = [(k, v)] := nr rfl
/-! lists that are cells -/
def isTyR (o : Option Cell) : Bool := match o with
  | some (.lst _) => true
  | _ => false
theorem x_isTyC {n : Nat} {s : S} : isTy "list" s (.cell n) = isTyR s.vh[n]? := by
  unfold isTy isTyR lstOf dctOf
  dsimp only
  cases s.vh[n]? with
  | none => rfl
  | some c => cases c <;> rfl
theorem x_isTyR {ds : List D} : isTyR (some (.lst ds)) = true := nr rfl
def appR (n : Nat) (e : D) (o : Option Cell) (s : S) : Res D := match o with
  | some (.lst ds) => if ds.length < sizeLine then .ok .non ⟨s.loc, s.vh.set n (.lst (ds ++ [e]))⟩ else .bad
  | _ => .bad
theorem x_app {n : Nat} {e : D} {s : S} : appM (.cell n) [e] s = appR n e s.vh[n]? s := by
  unfold appM wrM appR
  dsimp only
  cases s.vh[n]? with
  | none => rfl
  | some c =>
    cases c with
    | lst ds =>
      dsimp only
      by_cases h : ds.length < sizeLine
      · rw [if_pos h, if_pos h]
      · rw [if_neg h, if_neg h]
    | _ => rfl
theorem x_appR {n : Nat} {e : D} {ds : List D} {s : S} (h : ds.length < 16777216) : appR n e (some (.lst ds)) s = .ok .non ⟨s.loc, s.vh.set n (.lst (ds ++ [e]))⟩ := by
  unfold appR
  dsimp only
  rw [if_pos (by rw [sizeLine_eq]; exact h)]
theorem x_meth0 {T : String} {f : M D} {g : D → M D} {s : S} : meth0M T f g s = (f s).then' fun d s => if isTy T s d = true then g d s else .bad := nr rfl
def clrR (n : Nat) (o : Option Cell) (s : S) : Res D := match o with
  | some (.lst _) => .ok .non ⟨s.loc, s.vh.set n (.lst [])⟩
  | _ => .bad
theorem x_clrC {n : Nat} {s : S} : clrM (.cell n) s = clrR n s.vh[n]? s := by
  unfold clrM wrM clrR
  dsimp only
  all_goals (cases s.vh[n]? with
    | none => rfl
    | some c => cases c <;> rfl)
theorem x_clrR {n : Nat} {ds : List D} {s : S} : clrR n (some (.lst ds)) s = .ok .non ⟨s.loc, s.vh.set n (.lst [])⟩ := nr rfl
def seqR (n : Nat) (o : Option Cell) (s : S) : Res Wk := match o with
  | some (.lst ds) => .ok ⟨ds, fun s' => itemsOf s' (.cell n) = some ds⟩ s
  | _ => .bad
theorem x_seqC {n : Nat} {s : S} : seqI (.cell n) s = seqR n s.vh[n]? s := by
  unfold seqI seqR itemsOf lstOf
  dsimp only
  cases h : s.vh[n]? with
  | none => rfl
  | some c => cases c <;> rfl
theorem x_seqCR {n : Nat} {ds : List D} {s : S} : seqR n (some (.lst ds)) s = .ok ⟨ds, fun s' => itemsOf s' (.cell n) = some ds⟩ s := nr rfl
def lenR (o : Option Cell) (s : S) : Res D := match o with
  | some (.lst ds) => .ok (.int ds.length) s
  | some (.dct kvs) => .ok (.int kvs.length) s
  | _ => .bad
theorem x_lenC {n : Nat} {s : S} : lenM [.cell n] s = lenR s.vh[n]? s := by
  unfold lenM lenR lstOf dctOf
  dsimp only
  cases h : s.vh[n]? with
  | none => rfl
  | some c => cases c <;> rfl
theorem x_lenR {ds : List D} {s : S} : lenR (some (.lst ds)) s = .ok (.int ds.length) s := nr rfl
theorem x_lenRd {ds : List (Key × D)} {s : S} : lenR (some (.dct ds)) s = .ok (.int ds.length) s := nr rfl
def isaR (T : String) (o : Option Cell) (s : S) : Res D := match o with
  | some (.lst _) => .ok (.bl (isaT T "list")) s
  | some (.dct _) => .ok (.bl (isaT T "dict")) s
  | _ => .bad
theorem x_isaC {T : String} {n : Nat} {s : S} : isaM T (.cell n) s = isaR T s.vh[n]? s := by
  unfold isaM isaR tyName
  dsimp only
  cases h : s.vh[n]? with
  | none => rfl
  | some c => cases c <;> rfl
theorem x_isaR {T : String} {ds : List D} {s : S} : isaR T (some (.lst ds)) s = .ok (.bl (isaT T "list")) s := nr rfl
theorem x_isaRd {T : String} {ds : List (Key × D)} {s : S} : isaR T (some (.dct ds)) s = .ok (.bl (isaT T "dict")) s := nr rfl
theorem litD (s : String) : D.str (Str.ofString s) = D.str (tx (cd s)) := by rw [lit]
theorem x_lstO {ds : List D} {s : S} : lstOf s (.lst ds) = some ds := nr rfl
/-! sorted, ints -/
theorem intsOf_map : ∀ ns : List Int, intsOf (ns.map D.int) = some ns
  | [] => rfl
  | n :: r => by rw [List.map_cons, intsOf, intsOf_map r]; rfl
theorem x_sortSet {ns : List Int} {s : S} (h : ns.length < 64) : sortSetM (.lst (ns.map D.int)) s = .ok (.lst ((setZ ns).map D.int)) s := by
  unfold sortSetM lstOf
  dsimp only
  rw [intsOf_map]
  dsimp only
  rw [if_pos h]
/-! == of lists of ints -/
theorem ints_pl (ns : List Int) : (ns.map D.int) = (ns.map Pl.int).map Pl.d := by rw [List.map_map]; rfl
theorem ints_ok {ns : List Int} : ∀ p ∈ ns.map Pl.int, p.ok := fun p h => by
  obtain ⟨n, _, rfl⟩ := List.mem_map.mp h
  trivial
theorem plI_inj {as bs : List Int} : (as.map Pl.int = bs.map Pl.int) = (as = bs) := by
  refine propext ⟨fun h => ?_, fun h => by rw [h]⟩
  have := congrArg (List.map fun p => match p with | Pl.int i => i | _ => 0) h
  rw [List.map_map, List.map_map] at this
  simpa [Function.comp_def] using this
theorem x_eqIs {as bs : List Int} {s : S} : eqM (.lst (as.map D.int)) (.lst (bs.map D.int)) s = .ok (.bl (decide (as = bs))) s := by
  rw [ints_pl, ints_pl, x_eqPls ints_ok ints_ok]
  simp only [plI_inj]
theorem x_neIs {as bs : List Int} {s : S} : neM (.lst (as.map D.int)) (.lst (bs.map D.int)) s = .ok (.bl (!decide (as = bs))) s := by
  rw [ints_pl, ints_pl, x_nePls ints_ok ints_ok]
  simp only [plI_inj]
/-! a def that hands back a new cell -/
/-! comprehensions, over anything -/
theorem lc_gen0 {α : Type} {ok : S → Prop} {i : Nat} {c : M Bool} {e : M D} {l0 l : List (Option D)} {vh : List Cell} {g v : α → D} {p : α → Bool} (hok : ∀ l, ok ⟨l, vh⟩) : ∀ (as : List α) (acc : List D), (acc.length + as.length ≤ 16777216) →
    (∀ a ∈ as, ∃ l1, c ⟨l0.set i (some (g a)), vh⟩ = .ok (p a) ⟨l1, vh⟩ ∧ (p a = true → ∃ l2, e ⟨l1, vh⟩ = .ok (v a) ⟨l2, vh⟩)) →
    lcLoop ok i c e l0 l (as.map g) acc ⟨l0, vh⟩ = .ok (.lst (acc ++ (as.filter p).map v)) ⟨l, vh⟩
  | [], acc, _, _ => by
    rw [List.map_nil]
    unfold lcLoop
    rw [if_pos (hok l0)]
    simp
  | a :: as, acc, hl, h => by
    obtain ⟨l1, h1, h2⟩ := h a List.mem_cons_self
    have hlen : acc.length < sizeLine := Nat.lt_of_lt_of_le (show acc.length < 16777216 by simp at hl; omega) (by decide)
    rw [List.map_cons]
    unfold lcLoop
    rw [if_pos ⟨hok l0, hlen⟩]
    cases hq : p a with
    | false =>
      rw [hq] at h1
      have e1 : c { (⟨l0, vh⟩ : S) with loc := l0.set i (some (g a)) } = .ok false ⟨l1, vh⟩ := h1
      rw [e1]
      have := lc_gen0 (l := l) (v := v) hok as acc (by simp at hl; omega) (fun b hb => h b (List.mem_cons_of_mem _ hb))
      rw [List.filter_cons, if_neg (by rw [hq]; decide)]
      exact this
    | true =>
      rw [hq] at h1
      obtain ⟨l2, h3⟩ := h2 hq
      have e1 : c { (⟨l0, vh⟩ : S) with loc := l0.set i (some (g a)) } = .ok true ⟨l1, vh⟩ := h1
      rw [e1]
      dsimp only
      rw [h3]
      have := lc_gen0 (l := l) (v := v) hok as (acc ++ [v a]) (by simp at hl ⊢; omega) (fun b hb => h b (List.mem_cons_of_mem _ hb))
      rw [List.filter_cons, if_pos hq, List.map_cons]
      simpa using this
theorem lc_gen {α : Type} {f : M Wk} {i : Nat} {c : M Bool} {e : M D} {l : List (Option D)} {vh : List Cell} {ok : S → Prop} (as : List α) (g v : α → D) (p : α → Bool) (hf : f ⟨l, vh⟩ = .ok ⟨as.map g, ok⟩ ⟨l, vh⟩) (hok : ∀ l, ok ⟨l, vh⟩) (hl : as.length ≤ 16777216)
    (h : ∀ a ∈ as, ∃ l1, c ⟨(l.set i none).set i (some (g a)), vh⟩ = .ok (p a) ⟨l1, vh⟩ ∧ (p a = true → ∃ l2, e ⟨l1, vh⟩ = .ok (v a) ⟨l2, vh⟩)) : lcM f i c e ⟨l, vh⟩ = .ok (.lst ((as.filter p).map v)) ⟨l, vh⟩ := by
  unfold lcM
  rw [bnd_ok hf]
  have := lc_gen0 (l := l) (v := v) hok as [] (by simpa using hl) h
  simpa using this
theorem lc_pure {α : Type} {f : M Wk} {i : Nat} {c : M Bool} {e : M D} {l : List (Option D)} {vh : List Cell} {ok : S → Prop} (as : List α) (g v : α → D) (p : α → Bool) (hf : f ⟨l, vh⟩ = .ok ⟨as.map g, ok⟩ ⟨l, vh⟩) (hok : ∀ l, ok ⟨l, vh⟩) (hl : as.length ≤ 16777216)
    (h1 : ∀ a ∈ as, c ⟨(l.set i none).set i (some (g a)), vh⟩ = .ok (p a) ⟨(l.set i none).set i (some (g a)), vh⟩) (h2 : ∀ a ∈ as, p a = true → e ⟨(l.set i none).set i (some (g a)), vh⟩ = .ok (v a) ⟨(l.set i none).set i (some (g a)), vh⟩) : lcM f i c e ⟨l, vh⟩ = .ok (.lst ((as.filter p).map v)) ⟨l, vh⟩ :=
  lc_gen as g v p hf hok hl fun a ha => ⟨_, h1 a ha, fun q => ⟨_, h2 a ha q⟩⟩
end Fx

/-! Fx: max of a list, list(range), three names in a target -/
namespace Fx
open PySem PySem.Spec PyProof.Rows L2
variable {X : Cx} {W : WX}
def maxZ : List Int → Int
  | [] => 0
  | [a] => a
  | a :: b :: r => max a (maxZ (b :: r))
def maxlM : List D → M D
  | [d] => fun s => match lstOf s d with
    | some ds => match intsOf ds with
      | some ns => if ns = [] then .bad else .ok (.int (maxZ ns)) s
      | none => .bad
    | none => .bad
  | _ => fail
theorem x_maxl {ns : List Int} {s : S} (h : ns ≠ []) : maxlM [.lst (ns.map D.int)] s = .ok (.int (maxZ ns)) s := by
  unfold maxlM lstOf
  dsimp only
  rw [intsOf_map]
  dsimp only
  rw [if_neg h]
/-! for a, b, c in .. -/
def unp3 (i j k : Nat) (d : D) : M Out := fun s => match d with
  | .tup [x, y, z] => .ok .nx { s with loc := ((s.loc.set i (some x)).set j (some y)).set k (some z) }
  | _ => .bad
/-! list(range(n)) -/
theorem x_intB {b : Bool} {s : S} : intM [.bl b] s = .ok (.int (if b = true then 1 else 0)) s := by cases b <;> rfl
theorem x_intI {i : Int} {s : S} : intM [.int i] s = .ok (.int i) s := nr rfl
end Fx

/-! Fx: list(reversed(a list)) -/
namespace RT
open PySem PySem.Spec PyProof.Rows L2
section
variable {prog : Program} {w : World} {A : Around} {E : Value → Shared → Prop} {s : Shared}
end
section
variable {X : Cx}
end
end RT
namespace Fx
open PySem PySem.Spec PyProof.Rows L2
variable {X : Cx} {W : WX}
end Fx

/-! Fx: C.m(self, ..) of a def read off its class; isinstance of own classes; equal data -/
namespace Fx
open PySem PySem.Spec PyProof.Rows L2
variable {X : Cx} {W : WX}
/-- a def m of the class x, read off the class -/
structure CfQ (P : Program) (wd : World) (K : PySem.W.Frag) (mg : Str → Option Value) (base : Heap) (x m : Str) (k : Nat) (sp : Sp) : Prop where
  ex : ∃ (C f : Addr) (fd : FuncData) (ps : List Str), mg x = some (.ref C) ∧ ClX.CRead K C (.type "type") ∧ PySem.W.findCls K (.ref C) (.type "type") m = some (.val (.ref f)) ∧ PySem.W.keepIn K (.ref f) = true ∧ Binds K fd ps [] ∧ FnOk P wd K mg base CX0 k f fd ps sp
section
variable {C f : Addr} {fd : FuncData} {ps : List Str} {mc : Value} {k : Nat} {sp : Sp} {CX : CXT} {x m : Str} {e : Expr} {es : List Expr} {E : XK} {ds : List Value} {dvs : List V} {t : TA} {p pos apos : Pos}
end
section
variable {α : Type} {P : Pr V α} {sp : Sp} {g : List D → M α} {x m : Str} {k : Nat} {e : Expr} {es : List Expr} {fs : M (List D)} {p pos apos : Pos}
end
structure TopF (K : PySem.W.Frag) (mg : Str → Option Value) (x m q : Str) (st : Stmt) (ps : List Str) : Prop where
  ex : ∃ (C f : Addr) (fd : FuncData), mg x = some (.ref C) ∧ ClX.CRead K C (.type "type") ∧ PySem.W.findCls K (.ref C) (.type "type") m = some (.val (.ref f)) ∧ PySem.W.keepIn K (.ref f) = true ∧ Fun K m q st f fd ∧ Binds K fd ps []
section
variable {P : Program} {wd : World} {K : PySem.W.Frag} {mg : Str → Option Value} {base : Heap} {x m q : Str} {st : Stmt} {N ps : List Str} {k : Nat} {g : M Out}
theorem TopF.fnS (T : TopF K mg x m q st ps) (Sc : FnScope N ps (defScope st)) (hle : ps.length ≤ N.length)
    (body : ∀ (f : Addr) (cdv : Value) (A : Around) (outer : List Env) (s : Shared) (H : Hp) (E : XK), Room k (A.deeper (envOfC q (defScope st) s.heap.objs.size f cdv)) →
      DSs (cxOf CX0 P wd K mg base N q (defScope st) f cdv A outer s H E).nox W0 (defBody st) g) : CfQ P wd K mg base x m (k + 1) (SpS K ps.length (runS N.length g)) :=
  let ⟨C, f, fd, a, a2, a3, a4, F, b⟩ := T.ex
  ⟨C, f, fd, ps, a, a2, a3, a4, b, fn_st F Sc hle fun cdv A outer s H E hr => body f cdv A outer s H E hr⟩
end
/-! ### isinstance(x, T), T an own class -/
structure IsoP (K : PySem.W.Frag) (mg : Str → Option Value) (x T : Str) (b : Bool) : Prop where
  ex : ∃ C CT, clsIn K x C ∧ mg T = some (.ref CT) ∧ PySem.W.findIn K (.ref C) "__class__" = some (some (.builtin "object.__class__")) ∧ PySem.W.specialIn K (.builtin "object.__class__") "__get__" = some (some (.builtin "getset_descriptor.__get__")) ∧
    PySem.W.takesIn K (.builtin "object.__class__") = some true ∧ PySem.W.mroIn K C (.type "object") = some true ∧ PySem.W.kitOne K (.ref C) (.ref CT) = some b
/-! ### equal data -/
mutual
def eqOk : D → Bool
  | .non => true
  | .bl _ => true
  | .int _ => true
  | .str x => PySem.PyData.strOk x
  | .tup xs => eqOkL xs
  | .lst xs => eqOkL xs
  | .cell _ => false
  | .ref _ => false
  | .pr _ _ => false
  | .emp => false
  | .err _ _ _ => false
def eqOkL : List D → Bool
  | [] => true
  | x :: r => eqOk x && eqOkL r
end
mutual
def dpt : D → Nat
  | .tup xs => dptL xs + 1
  | .lst xs => dptL xs + 1
  | .non => 0
  | .bl _ => 0
  | .int _ => 0
  | .str _ => 0
  | .cell _ => 0
  | .ref _ => 0
  | .pr _ _ => 0
  | .emp => 0
  | .err _ _ _ => 0
def dptL : List D → Nat
  | [] => 0
  | x :: r => max (dpt x) (dptL r)
end
mutual
theorem dq_self : ∀ (d : D), eqOk d = true → ∃ p, pyT d = some p ∧ p.canLay0 = true ∧ PyData.eqv p p = true ∧ p.depth = dpt d
  | .non, _ => ⟨.none, rfl, rfl, rfl, rfl⟩
  | .bl b, _ => ⟨.bool b, rfl, rfl, by simp [PyData.eqv], rfl⟩
  | .int i, _ => ⟨.int i, rfl, rfl, by simp [PyData.eqv], rfl⟩
  | .str x, h => ⟨.str x, rfl, h, by simp [PyData.eqv], rfl⟩
  | .tup xs, h => by
    obtain ⟨ps, h1, h2, h3, h4⟩ := dq_selfL xs h
    exact ⟨.tuple ps, by unfold pyT; rw [h1]; rfl, h2, h3, by unfold PyData.depth dpt; rw [h4]⟩
  | .lst xs, h => by
    obtain ⟨ps, h1, h2, h3, h4⟩ := dq_selfL xs h
    exact ⟨.list ps, by unfold pyT; rw [h1]; rfl, h2, h3, by unfold PyData.depth dpt; rw [h4]⟩
  | .cell _, h => by cases h
  | .ref _, h => by cases h
  | .pr _ _, h => by cases h
  | .emp, h => by cases h
  | .err _ _ _, h => by cases h
theorem dq_selfL : ∀ (ds : List D), eqOkL ds = true → ∃ ps, pyL ds = some ps ∧ PyData.canLayAll0 ps = true ∧ PyData.eqvAll ps ps = true ∧ PyData.depthAll ps = dptL ds
  | [], _ => ⟨[], rfl, rfl, rfl, rfl⟩
  | d :: ds, h => by
    have h : (eqOk d && eqOkL ds) = true := h
    rw [Bool.and_eq_true] at h
    obtain ⟨p, a1, a2, a3, a4⟩ := dq_self d h.1
    obtain ⟨ps, b1, b2, b3, b4⟩ := dq_selfL ds h.2
    exact ⟨p :: ps, by unfold pyL; rw [a1, b1], by unfold PyData.canLayAll0; rw [a2, b2]; rfl, by unfold PyData.eqvAll; rw [a3, b3]; rfl, by unfold PyData.depthAll dptL; rw [a4, b4]⟩
end
/-- data that can be compared with itself, not too deep -/
def Eqd (n : Nat) (d : D) : Prop := eqOk d = true ∧ dpt d ≤ n
theorem Eqd.mono {n m : Nat} {d : D} (h : Eqd n d) (l : n ≤ m) : Eqd m d := ⟨h.1, Nat.le_trans h.2 l⟩
theorem eqdL {n : Nat} : ∀ {ds : List D}, (∀ d ∈ ds, Eqd n d) → eqOkL ds = true ∧ dptL ds ≤ n
  | [], _ => ⟨rfl, Nat.zero_le _⟩
  | d :: ds, h => by
    obtain ⟨a1, a2⟩ := h d List.mem_cons_self
    obtain ⟨b1, b2⟩ := eqdL fun e he => h e (List.mem_cons_of_mem _ he)
    exact ⟨by unfold eqOkL; rw [a1, b1]; rfl, by unfold dptL; exact Nat.max_le.mpr ⟨a2, b2⟩⟩
theorem Eqd.tup {n : Nat} {ds : List D} (h : ∀ d ∈ ds, Eqd n d) : Eqd (n + 1) (.tup ds) := ⟨(eqdL h).1, Nat.succ_le_succ (eqdL h).2⟩
theorem Eqd.lst {n : Nat} {ds : List D} (h : ∀ d ∈ ds, Eqd n d) : Eqd (n + 1) (.lst ds) := ⟨(eqdL h).1, Nat.succ_le_succ (eqdL h).2⟩
theorem Eqd.non {n : Nat} : Eqd n .non := ⟨rfl, Nat.zero_le _⟩
theorem Eqd.int {n : Nat} (i : Int) : Eqd n (.int i) := ⟨rfl, Nat.zero_le _⟩
theorem Eqd.bl {n : Nat} (b : Bool) : Eqd n (.bl b) := ⟨rfl, Nat.zero_le _⟩
theorem Eqd.tx {n : Nat} {cs : List Nat} (h : ∀ c ∈ cs, c < 1114112) : Eqd n (.str (tx cs)) := ⟨strOk_tx h, Nat.zero_le _⟩
theorem eqD_self {d : D} {s : S} (h : Eqd 64 d) : eqD d d s = .ok (.bl true) s ∧ neD d d s = .ok (.bl false) s := by
  obtain ⟨p, h1, h2, h3, h4⟩ := dq_self d h.1
  have h5 : pyD s d = some p := by
    cases d with
    | cell n => cases h1
    | _ => exact h1
  have h6 : SeqAt.shaped p = true := by
    unfold SeqAt.shaped
    rw [h2, h4]
    exact decide_eq_true h.2
  unfold eqD neD
  rw [h5]
  dsimp only
  rw [h6, h3]
  exact ⟨rfl, rfl⟩
theorem x_eqSelf {d : D} {s : S} (h : Eqd 64 d) : eqM d d s = .ok (.bl true) s := by
  unfold eqM
  split
  · show Res.ok _ _ = _
    rw [decide_eq_true rfl]
  · exact (eqD_self h).1
theorem x_neSelf {d : D} {s : S} (h : Eqd 64 d) : neM d d s = .ok (.bl false) s := by
  unfold neM
  split
  · show Res.ok _ _ = _
    rw [decide_eq_true rfl]
    rfl
  · exact (eqD_self h).2
end Fx

/-! Fx: text * int -/
namespace Fx
open PySem PySem.Spec PyProof.Rows L2
variable {X : Cx} {W : WX}
end Fx

/-! Fx: dicts that are walked: locked for one statement or one expression -/
namespace Fx
open PySem PySem.Spec PyProof.Rows L2
variable {X : Cx} {W : WX}
section
variable {K : PySem.W.Frag} {w : Wd} {H : Hp} {σ : L2.St} {s : S}
theorem RS.cellV (R : RS K w H σ s) {i n : Nat} (h : s.loc[i]? = some (some (.cell n))) : ∃ a, w.ρ[n]? = some a := by
  obtain ⟨v, _, r⟩ := R.loc i _ h
  cases r with
  | cell h => exact ⟨_, h⟩
/-- the state locked -/
theorem RS.lock (R : RS K w H σ s) {n : Nat} {a : Addr} {us : List (Key × V)} {kvs : List (Key × D)} (od : Obj) (h : w.ρ[n]? = some a) (hr : RepK K w us kvs) : RS K w (upd H a (.frz od (.dK us))) σ ⟨s.loc, s.vh.set n (.dctL od us kvs)⟩ := R.setCell h ⟨upd_same, hr⟩
end
section
variable {e : Expr} {f : M D} {g : M Cell}
end
/-! ### for k in d -/
end Fx

/-! Fx: sets of texts, made of lists, sorted -/
namespace L2
open PySem PySem.Spec PyProof.Rows
def txOf (e : Int × Value) : Str := match e.2 with
  | .str x _ => x
  | _ => Str.empty
def TGood (w : World) (e : Int × Value) : Prop := ∃ x tk, e.2 = Value.str x tk ∧ e.1 = hashStr w x
/-- at a stands the set of the texts for which T holds, n in all; its table rises and can be walked -/
def SetT (w : World) (h : Heap) (a : Addr) (T : Str → Prop) (n : Nat) : Prop :=
  ∃ ob es ep tb, h.get? a = some ob ∧ ob.ExactSet ∧ ob.data = .set es ep tb ∧ (∀ e ∈ es.toList, TGood w e) ∧ (es.toList.map txOf).Nodup ∧ (∀ x, T x ↔ x ∈ es.toList.map txOf) ∧
    es.size < scanBound ∧ tb.fits es.size = true ∧ es.size = n ∧ Ris tb.place.toList ∧ (w.params.followText "set-order" = true ∨ tb.led = true)
section
variable {P : Program} {w : World} {h h' : Heap} {a : Addr} {T : Str → Prop} {n : Nat}
theorem SetT.at (R : SetT w h a T n) (k : ∀ o, h.get? a = some o → h'.get? a = some o) : SetT w h' a T n := let ⟨ob, es, ep, tb, g, r⟩ := R; ⟨ob, es, ep, tb, k ob g, r⟩
theorem SetT.congr {T' : Str → Prop} (R : SetT w h a T n) (e : ∀ x, T' x ↔ T x) : SetT w h a T' n := by
  have : T' = T := funext fun x => propext (e x)
  rw [this]; exact R
end
section
variable {P : Program} {w : World} {A : Around} {E : Value → Shared → Prop} {s : Shared} {a : Addr} {T : Str → Prop} {n : Nat}
end
section
variable {P : Program} {w : World} {A : Around} {E : Value → Shared → Prop} {s : Shared}
end
section
variable {X : Cx}
end
end L2

/-! Fx: sorted(set(xs)), texts -/
namespace Fx
open PySem PySem.Spec PyProof.Rows L2
variable {X : Cx} {W : WX}
/-- each once -/
def dd : List Str → List Str
  | [] => []
  | x :: r => if x ∈ dd r then dd r else x :: dd r
section
variable {e : Expr} {p pos : Pos}
end
end Fx

/-! Fx: dicts whose keys are trees of tuples -/
namespace Fx
open PySem PySem.Spec PyProof.Rows L2
variable {X : Cx} {W : WX}
open Classical in
noncomputable def dctNR (wd : World) (s : S) : D → Option (Nat × List (NestedKey × D))
  | .cell n => match s.vh[n]? with
    | some (.dctN wd' kvs) => if wd' = wd then some (n, kvs) else none
    | _ => none
  | _ => none
/-- a tree of tuples, at most eight deep -/
def nkey : D → Option NestedKey
  | .tup ds => match nkD (.tup ds) with
    | some q => if q.depth ≤ 8 then some q else none
    | none => none
  | _ => none
def valN (kvs : List (NestedKey × D)) (q : NestedKey) : Option D := (kvs.find? fun kv => decide (kv.1 = q)).map (·.2)
def putN (kvs : List (NestedKey × D)) (q : NestedKey) (d : D) : List (NestedKey × D) := if (valN kvs q).isSome = true then kvs.map (fun kv => if kv.1 = q then (kv.1, d) else kv) else kvs ++ [(q, d)]
def dropN (kvs : List (NestedKey × D)) (q : NestedKey) : List (NestedKey × D) := kvs.filter fun kv => decide (kv.1 ≠ q)
section
variable {K : PySem.W.Frag} {w : Wd} {H : Hp} {σ : L2.St} {s : S} {v : V} {d : D} {q : NestedKey}
theorem RepN.length : ∀ {xs : NX} {ds : List (NestedKey × D)}, RepN K w xs ds → xs.length = ds.length
  | _, _, .nil => rfl
  | _, _, .cons _ _ _ _ _ t => by rw [List.length_cons, List.length_cons, RepN.length t]
theorem RepN.val (q : NestedKey) : ∀ {xs : NX} {ds : List (NestedKey × D)}, RepN K w xs ds → (valN ds q = none → atKey xs q = none) ∧ ∀ d, valN ds q = some d → ∃ p v, atKey xs q = some p ∧ RelV v p.2 ∧ Rep K w v d
  | _, _, .nil => ⟨fun _ => rfl, fun d h => by cases h⟩
  | _, _, .cons (q := q') hk hq r ru h t => by
    by_cases e : q' = q
    · refine ⟨fun z => ?_, fun d z => ?_⟩
      · simp [valN, List.find?_cons, e] at z
      · simp [valN, List.find?_cons, e] at z
        subst z
        exact ⟨_, _, by simp only [atKey, List.find?_cons, e, decide_true, Option.map_some]; rfl, ru, h⟩
    · obtain ⟨i1, i2⟩ := RepN.val q t
      refine ⟨fun z => ?_, fun d z => ?_⟩
      · have := i1 (by simpa [valN, List.find?_cons, e] using z)
        simpa [atKey, List.find?_cons, e] using this
      · obtain ⟨p, u, h1, h2⟩ := i2 d (by simpa [valN, List.find?_cons, e] using z)
        exact ⟨p, u, by simpa [atKey, List.find?_cons, e] using h1, h2⟩
theorem RepN.isome {xs : NX} {ds : List (NestedKey × D)} (h : RepN K w xs ds) (q : NestedKey) : (atKey xs q).isSome = (valN ds q).isSome := by
  cases e : valN ds q with
  | none => rw [(h.val q).1 e]; rfl
  | some d => obtain ⟨p, _, e2, _⟩ := (h.val q).2 d e; rw [e2]; rfl
theorem RepN.append : ∀ {xs ys : NX} {ds es : List (NestedKey × D)}, RepN K w xs ds → RepN K w ys es → RepN K w (xs ++ ys) (ds ++ es)
  | _, _, _, _, .nil, s => s
  | _, _, _, _, .cons hk hq r ru h t, s => .cons hk hq r ru h (RepN.append t s)
theorem RepN.map {u : Value} (rv : RelV v u) (rd : Rep K w v d) : ∀ {xs : NX} {ds : List (NestedKey × D)}, RepN K w xs ds → RepN K w (xs.map (putAt q u)) (ds.map fun kv => if kv.1 = q then (kv.1, d) else kv)
  | _, _, .nil => .nil
  | _, _, .cons (q := q') hk hq r ru h t => by
    rw [List.map_cons, List.map_cons]
    by_cases e : q' = q
    · unfold putAt
      rw [if_pos e, if_pos e]
      exact .cons hk hq r rv rd (RepN.map rv rd t)
    · rw [if_neg e]
      unfold putAt
      rw [if_neg e]
      exact .cons hk hq r ru h (RepN.map rv rd t)
theorem RepN.put {q : NestedKey} {xs : NX} {ds : List (NestedKey × D)} (t : RepN K w xs ds) {b : Addr} {u : Value} {kd : D} (hk : nkD kd = some q) (hq : q.depth ≤ 8) (r : Rep K w (.ref b) kd) (rv : RelV v u) (rd : Rep K w v d) : RepN K w (storedH xs q b u) (putN ds q d) := by
  unfold storedH putN
  rw [t.isome q]
  split
  · exact RepN.map rv rd t
  · exact RepN.append t (.cons hk hq r rv rd .nil)
theorem RepN.drop (q : NestedKey) : ∀ {xs : NX} {ds : List (NestedKey × D)}, RepN K w xs ds → RepN K w (withoutH xs q) (dropN ds q)
  | _, _, .nil => .nil
  | _, _, .cons (q := q') hk hq r ru h t => by
    have ih := RepN.drop q t
    unfold withoutH dropN at ih ⊢
    by_cases e : q' = q
    · rw [List.filter_cons_of_neg (by simp [e]), List.filter_cons_of_neg (by simp [e])]; exact ih
    · rw [List.filter_cons_of_pos (by simp [e]), List.filter_cons_of_pos (by simp [e])]; exact .cons hk hq r ru h ih
end
/-! ### trees of tuples, in the heap -/
section
variable {pins : List (Addr × Obj)} {σ : L2.St} {H : Hp} {s : Shared} {w : Wd}
mutual
theorem nested_of (sub : ∀ a o, w.F a = some o → H a = some o) (I : Inv X pins σ H s) : ∀ {v : V} {d : D} {q : NestedKey} {u : Value}, Rep X.K w v d → nkD d = some q → RelV v u → NestedIs s.heap q u
  | _, _, _, _, .non, h, r => by cases h; cases r; exact .none
  | _, _, _, _, .bl b, h, r => by cases h; cases r; exact .bool rfl
  | _, _, _, _, .int i, h, r => by cases h; obtain ⟨t, rfl⟩ := r; exact .int i t
  | _, _, _, _, .str x, h, r => by cases h; obtain ⟨t, rfl⟩ := r; exact .text x t
  | _, _, _, _, .ref a, h, _ => by cases h
  | _, _, _, _, .pr _ _ _, h, _ => by cases h
  | _, _, _, _, .emp _, h, _ => by cases h
  | _, _, _, _, .err _ _, h, _ => by cases h
  | _, _, _, _, .tup (ds := ds) h1 t, h, r => by
    obtain ⟨its, rv, ⟨o, e1, e2, n, e3⟩, _⟩ := I.tuple (sqT_up sub h1.sq)
    unfold nkD at h
    cases e : nkL ds with
    | none => rw [e] at h; cases h
    | some ks =>
      rw [e] at h
      cases h
      cases r
      exact .tup e1 e2 e3 (nested_all sub I t e rv)
  | _, _, _, _, .lst _ _, h, _ => by cases h
  | _, _, _, _, .cell _, h, _ => by cases h
theorem nested_all (sub : ∀ a o, w.F a = some o → H a = some o) (I : Inv X pins σ H s) : ∀ {vs : List V} {ds : List D} {ks : List NestedKey} {us : List Value}, RepL X.K w vs ds → nkL ds = some ks → Vals vs us → NestedAll s.heap ks us
  | _, _, _, _, .nil, h, r => by cases h; cases r; exact .nil
  | _, _, _, _, .cons (d := d) (ds := ds) h1 t, h, r => by
    unfold nkL at h
    cases e1 : nkD d with
    | none => rw [e1] at h; cases h
    | some k =>
      cases e2 : nkL ds with
      | none => rw [e1, e2] at h; cases h
      | some ks =>
        rw [e1, e2] at h
        cases h
        cases r with
        | cons ra rr => exact .cons (nested_of sub I h1 e1 ra) (nested_all sub I t e2 rr)
end
end
/-! ### the steps -/
noncomputable def nPopM (wd : World) (d e : D) : M D := fun s => match dctNR wd s d, nkey e with
  | some (n, kvs), some q => match valN kvs q with
    | some v => .ok v ⟨s.loc, s.vh.set n (.dctN wd (dropN kvs q))⟩
    | none => .bad
  | _, _ => .bad
noncomputable def nPopE (wd : World) (fo fi : M D) : M D := bnd fo fun d s => if (dctNR wd s d).isSome = true then bnd fi (fun e => nPopM wd d e) s else .bad
section
variable {o i value : Expr} {fo fi fv : M D} {pos pos' apos cpos : Pos}
end
/-! ### equations -/
theorem x_npop {wd : World} {fo fi : M D} {s : S} : nPopE wd fo fi s = (fo s).then' fun d s => if (dctNR wd s d).isSome = true then bnd fi (fun e => nPopM wd d e) s else .bad := nr rfl
end Fx

/-! Fx: extend, range with a step, chained comparisons -/
namespace PySem
open Sem (wp)
end PySem
namespace L2
open PySem PySem.Spec PyProof.Rows
end L2
namespace Fx
open PySem PySem.Spec PyProof.Rows L2
variable {X : Cx} {W : WX}
/-! range(a, b, -1) -/
/-! a op1 b op2 c -/
end Fx

/-! Fx: len(set(xs)) of unlike ints -/
namespace Fx
open PySem PySem.Spec PyProof.Rows L2
variable {X : Cx} {W : WX}
end Fx

/-! Fx: xs[i] = v of a list -/
namespace Fx
open PySem PySem.Spec PyProof.Rows L2
section
variable {prog : Program} {w : World} {A : Around} {E : Value → Shared → Prop} {s : Shared}
end
section
variable {X : Cx} {o i value : Expr} {pos pos' : Pos}
end
def lputM (v d e : D) : M Out := fun s => match d, e with
  | .cell n, .int i => match s.vh[n]? with
    | some (.lst ds) => if 0 ≤ i ∧ i.toNat < ds.length then .ok .nx ⟨s.loc, s.vh.set n (.lst (ds.set i.toNat v))⟩ else .bad
    | _ => .bad
  | _, _ => .bad
def lputS (fo fi fv : M D) : M Out := bnd fv fun v => bnd fo fun d => bnd fi fun e => lputM v d e
section
variable {X : Cx} {W : WX} {o i : Expr} {fo fi : M D} {pos pos' : Pos}
end
/-! equations -/
theorem x_lputS {fo fi fv : M D} {s : S} : lputS fo fi fv s = (fv s).then' fun v => bnd fo fun d => bnd fi fun e => lputM v d e := nr rfl
theorem x_unp2 {i j : Nat} {a b : D} {s : S} : unp2 i j (.tup [a, b]) s = .ok .nx ⟨(s.loc.set i (some a)).set j (some b), s.vh⟩ := nr rfl
theorem x_unp3 {i j k : Nat} {a b c : D} {s : S} : unp3 i j k (.tup [a, b, c]) s = .ok .nx ⟨((s.loc.set i (some a)).set j (some b)).set k (some c), s.vh⟩ := nr rfl
end Fx

/-! Fx: dicts by their methods: get, pop, update; dict(pairs), dict(d), list(d); values, items; reversed -/
namespace Fx
open PySem PySem.Spec PyProof.Rows L2
variable {X : Cx} {W : WX}
/-! ### dict(x) -/
/-! ### list(d) -/
/-! ### d.get(k), d.get(k, x), d.pop(k), d.pop(k, x) -/
def getM (d e : D) (x : D) : M D := fun s => match dctR s d, keyD e with
  | some kvs, some k => .ok ((valA kvs k).getD x) s
  | _, _ => .bad
/-- a dict, then what is done with it -/
def onD (fo : M D) (f : D → M D) : M D := bnd fo fun d s => if (dctR s d).isSome = true then f d s else .bad
def getE1 (fo fk : M D) : M D := onD fo fun d => bnd fk fun e => getM d e .non
def getE2 (fo fk fx : M D) : M D := onD fo fun d => bnd fk fun e => bnd fx fun x => getM d e x
def popDM (d e : D) (x : Option D) : M D := fun s => match d, keyD e with
  | .cell n, some k => match s.vh[n]? with
    | some (.dct kvs) => match valA kvs k, x with
      | some v, _ => .ok v ⟨s.loc, s.vh.set n (.dct (dropA kvs k))⟩
      | none, some x => .ok x s
      | none, none => .bad
    | _ => .bad
  | _, _ => .bad
def popE1 (fo fk : M D) : M D := onD fo fun d => bnd fk fun e => popDM d e none
def popE2 (fo fk fx : M D) : M D := onD fo fun d => bnd fk fun e => bnd fx fun x => popDM d e (some x)
section
variable {o e f : Expr} {fo fe ff : M D} {apos cpos : Pos}
end
/-! ### reversed(xs), walked -/
def revI (d : D) : M Wk := fun s => match d with
  | .tup ds => .ok ⟨ds.reverse, fun _ => True⟩ s
  | d => match lstOf s d with
    | some ds => .ok ⟨ds.reverse, fun s' => lstOf s' d = some ds⟩ s
    | none => .bad
end Fx

/-! Fx: d.update(e); d.values(), d.items(), walked under the lock; equations for dicts -/
namespace Fx
open PySem PySem.Spec PyProof.Rows L2
variable {X : Cx} {W : WX}
/-! ### d.update(e), e another dict -/
def isC (n : Nat) : D → Bool
  | .cell m => m == n
  | _ => false
def updM (d e : D) : M D := fun s => match d, dctR s e with
  | .cell n, some more => match s.vh[n]? with
    | some (.dct kvs) => if (!isC n e && lenOk (kvs.length + more.length)) = true then .ok .non ⟨s.loc, s.vh.set n (.dct (mergeA kvs more))⟩ else .bad
    | _ => .bad
  | _, _ => .bad
def updE (fo fe : M D) : M D := onD fo fun d => bnd fe fun e => updM d e
section
variable {o e : Expr} {fo fe : M D} {apos cpos : Pos}
end
/-! ### for v in d.values(), for k, v in d.items() -/
theorem RepK.at2 {K : PySem.W.Frag} {w : Wd} {us : List (Key × V)} {kvs : List (Key × D)} (h : RepK K w us kvs) : ∀ {i : Nat} {k : Key} {d : D}, kvs[i]? = some (k, d) → ∃ v, us[i]? = some (k, v) ∧ Rep K w v d := by
  induction h with
  | nil => intro i k d h; simp at h
  | cons r t ih =>
    intro i k d h
    cases i with
    | zero => cases h; exact ⟨_, rfl, r⟩
    | succ i => exact ih h
/-! ### equations -/
section
variable {fo fk fx fe : M D} {s : S}
theorem x_onD {F : D → M D} : onD fo F s = (fo s).then' fun d s => if (dctR s d).isSome = true then F d s else .bad := nr rfl
theorem x_getE1 : getE1 fo fk s = onD fo (fun d => bnd fk fun e => getM d e .non) s := nr rfl
theorem x_getE2 : getE2 fo fk fx s = onD fo (fun d => bnd fk fun e => bnd fx fun x => getM d e x) s := nr rfl
theorem x_popE1 : popE1 fo fk s = onD fo (fun d => bnd fk fun e => popDM d e none) s := nr rfl
theorem x_popE2 : popE2 fo fk fx s = onD fo (fun d => bnd fk fun e => bnd fx fun x => popDM d e (some x)) s := nr rfl
theorem x_updE : updE fo fe s = onD fo (fun d => bnd fe fun e => updM d e) s := nr rfl
theorem keyD_int {i : Int} : keyD (.int i) = some (.inl i) := rfl
theorem keyD_str {x : Str} : keyD (.str x) = some (.inr x) := rfl
theorem x_revT {ds : List D} : revI (.tup ds) s = .ok ⟨ds.reverse, fun _ => True⟩ s := nr rfl
theorem x_revL {ds : List D} : revI (.lst ds) s = .ok ⟨ds.reverse, fun _ => True⟩ s := by
  have h : (fun s' : S => lstOf s' (.lst ds) = some ds) = fun _ => True := funext fun s' => propext ⟨fun _ => trivial, fun _ => rfl⟩
  show Res.ok (Wk.mk _ (fun s' : S => lstOf s' (.lst ds) = some ds)) s = _
  rw [h]
theorem x_unpP {i j : Nat} {a b : D} : unp2 i j (.pr a b) s = .ok .nx ⟨(s.loc.set i (some a)).set j (some b), s.vh⟩ := nr rfl
end
/-! ### methods that ask themselves -/
section
variable {P : Program} {wd : World} {K : PySem.W.Frag} {mg : Str → Option Value} {base : Heap} {x m q : Str} {st : Stmt} {ps : List Str} {k : Nat}
theorem TopM.nilN (T : TopM K x m q st ps) : Met P wd K mg base x m k (SpN K ps.length fun _ _ => none) :=
  let ⟨C, f, fd, a, F, M, b⟩ := T.ex
  ⟨C, f, fd, ps, a, M, b, fun _ _ _ _ h => h.1, fun _ _ _ _ _ _ _ _ _ _ _ _ _ h => by obtain ⟨_, _, _, _, _, _, _, _, e, _⟩ := h; cases e⟩
end
/-! ### isinstance(x, (T, U)), own classes -/
section
variable {X : Cx} {W : WX}
end
/-! ### the least of a list of ints -/
section
variable {X : Cx} {W : WX}
def minZ : List Int → Int
  | [] => 0
  | [a] => a
  | a :: b :: r => min a (minZ (b :: r))
def minlM : List D → M D
  | [d] => fun s => match lstOf s d with
    | some ds => match intsOf ds with
      | some ns => if ns = [] then .bad else .ok (.int (minZ ns)) s
      | none => .bad
    | none => .bad
  | _ => fail
theorem x_minl {ns : List Int} {s : S} (h : ns ≠ []) : minlM [.lst (ns.map D.int)] s = .ok (.int (minZ ns)) s := by
  unfold minlM lstOf
  dsimp only
  rw [intsOf_map]
  dsimp only
  rw [if_neg h]
end
end Fx

/-! Fx: defs that may raise -/
namespace Fx
open PySem PySem.Spec PyProof.Rows L2
inductive Rz where
  | ok (d : D) (vh : List Cell)
  | exc (e : Ex) (vh : List Cell)
  | bad
abbrev Xf := List D → List Cell → Rz
/-- what a raise of e asks, where W' is wished of the exceptions as they stand in the heap -/
def LW (K : PySem.W.Frag) (mg : Str → Option Value) (W' : L2.WX) : WX := fun e w H σ => ∀ C, mg e.cls = some (.ref C) →
  (e.fs = [] → W' (.ref C) none σ H) ∧ (e.fs ≠ [] → ∀ d vs, H d = none → RepF K w vs e.fs → W' (.ref C) (some d) σ (upd H d (.xd vs)))
/-- the same, whatever the slots -/
def LE (K : PySem.W.Frag) (mg : Str → Option Value) (E : XK) : WX := LW K mg fun c d _ H => E c d H
def SpX (K : PySem.W.Frag) (mg : Str → Option Value) (n : Nat) (F : Xf) : Sp := fun vs H Q E => vs.length = n ∧ ∃ w σ s ds, RS K w H σ s ∧ RepL K w vs ds ∧ match F ds s.vh with
  | .ok d vh => ∀ w' H' v, Le w H w' H' → RS K w' H' σ ⟨s.loc, vh⟩ → Rep K w' v d → Q v H'
  | .exc e vh => ∀ w' H', Le w H w' H' → RS K w' H' σ ⟨s.loc, vh⟩ → LE K mg E e w' H' σ
  | .bad => False
noncomputable def runXS (n : Nat) (g : M Out) : Xf := fun ds vh => match g (initS n ds vh) with
  | .ok (.rt d) s => .ok d s.vh
  | .ok .nx s => .ok .non s.vh
  | .exc e s => .exc e s.vh
  | _ => .bad
def okP (o : Option D) (vh : List Cell) : Rz := match o with
  | some d => .ok d vh
  | none => .bad
open Classical in
noncomputable def runXP (n : Nat) (g : M Out) : Xf := fun ds vh => match g (initS n ds vh) with
  | .ok (.rt d) s => okP (fin vh s d) vh
  | .ok .nx s => okP (fin vh s .non) vh
  | .exc e s => if s.vh.take vh.length = vh ∧ (e.fs.all fun kv => nc vh.length kv.2) = true then .exc e vh else .bad
  | _ => .bad
def okW (o : Option (D × List Cell)) : Rz := match o with
  | some (d, vh) => .ok d vh
  | none => .bad
noncomputable def runXW (n : Nat) (g : M Out) : Xf := fun ds vh => match g (initS n ds vh) with
  | .ok (.rt d) s => okW (finW vh.length s d)
  | .ok .nx s => okW (finW vh.length s .non)
  | .exc e s => match finW vh.length s .non with
    | some (_, vh') => if (e.fs.all fun kv => nc vh.length kv.2) = true then .exc e vh' else .bad
    | none => .bad
  | _ => .bad
section
variable {P : Program} {wd : World} {K : PySem.W.Frag} {mg : Str → Option Value} {base : Heap} {x qual : Str} {st : Stmt} {f : Addr} {fd : FuncData} {N ps : List Str} {k : Nat} {g : M Out}
theorem fnX_S (F : Fun K x qual st f fd) (Sc : FnScope N ps (defScope st)) (hle : ps.length ≤ N.length)
    (body : ∀ (cdv : Value) (A : Around) (outer : List Env) (s : Shared) (H : Hp) (E : XK), Room k (A.deeper (envOfC qual (defScope st) s.heap.objs.size f cdv)) →
      DSs (cxOf (L2.CX P wd) P wd K mg base N qual (defScope st) f cdv A outer s H E) (LE K mg E) (defBody st) g) : FnOk P wd K mg base (L2.CX P wd) (k + 1) f fd ps (SpX K mg ps.length (runXS N.length g)) := by
  refine F.okX Sc (fun vs H Q E h => h.1) fun cdv A outer s H vs Q E hr h => ?_
  obtain ⟨t, p, r⟩ := body cdv A outer s H E hr
  obtain ⟨hl, w, σ, z, ds, R, rv, m⟩ := h
  refine ⟨t, p, r w H _ (initS N.length ds z.vh) _ (start_ok (ps := ps) R rv) ?_⟩
  show PostS K (LE K mg E) w H (g (initS N.length ds z.vh)) _
  unfold runXS at m
  have back : ∀ {s1 : S} {w' H' σ'}, Le w H w' H' → RS K w' H' σ' s1 → RS K w' H' σ ⟨z.loc, s1.vh⟩ := fun {s1 w' H' σ'} l R' => R'.other (l := z.loc) R.len fun i d hi => by
    obtain ⟨v, h1, h2⟩ := R.loc i d hi
    exact ⟨v, h1, Rep.up l h2⟩
  cases hg : g (initS N.length ds z.vh) with
  | bad => rw [hg] at m; exact m.elim
  | exc e s1 => rw [hg] at m; exact fun w' H' σ' l R' => m w' H' l (back l R')
  | ok o s1 =>
    rw [hg] at m
    cases o with
    | brk => exact m.elim
    | cnt => exact m.elim
    | rt d0 => exact fun w' H' σ' v l R' rv => m w' H' v l (back l R') rv
    | nx => exact fun w' H' σ' l R' => m w' H' .non l (back l R') .non
theorem nc_fields {b : Nat} {w : Wd} {H : Hp} : ∀ {vs : List (Str × V)} {ds : List (Str × D)}, RepF K w vs ds → (ds.all fun kv => nc b kv.2) = true → RepF K (w.fall b H) vs ds
  | _, _, .nil, _ => .nil
  | _, _, .cons h t, c => by
    rw [List.all_cons, Bool.and_eq_true] at c
    exact .cons (nc_rep h c.1) (nc_fields t c.2)
theorem cut_fields {b : Nat} {w : Wd} : ∀ {vs : List (Str × V)} {ds : List (Str × D)}, RepF K w vs ds → (ds.all fun kv => nc b kv.2) = true → RepF K (w.cut b) vs ds := fun h c => cut_repF h c
theorem fnX_P (F : Fun K x qual st f fd) (Sc : FnScope N ps (defScope st)) (hle : ps.length ≤ N.length)
    (body : ∀ (cdv : Value) (A : Around) (outer : List Env) (s : Shared) (H : Hp) (E : XK), Room k (A.deeper (envOfC qual (defScope st) s.heap.objs.size f cdv)) →
      DSs (cxOf (L2.CX P wd) P wd K mg base N qual (defScope st) f cdv A outer s H E) (LE K mg E) (defBody st) g) : FnOk P wd K mg base (L2.CX P wd) (k + 1) f fd ps (SpX K mg ps.length (runXP N.length g)) := by
  refine F.okX Sc (fun vs H Q E h => h.1) fun cdv A outer s H vs Q E hr h => ?_
  obtain ⟨t, p, r⟩ := body cdv A outer s H E hr
  obtain ⟨hl, w, σ, z, ds, R, rv, m⟩ := h
  refine ⟨t, p, r w H _ (initS N.length ds z.vh) _ (start_ok (ps := ps) R rv) ?_⟩
  show PostS K (LE K mg E) w H (g (initS N.length ds z.vh)) _
  unfold runXP at m
  have fin_ok : ∀ {d0 : D} {s1 : S}, (match okP (fin z.vh s1 d0) z.vh with
      | .ok d vh => ∀ w' H' v, Le w H w' H' → RS K w' H' σ ⟨z.loc, vh⟩ → Rep K w' v d → Q v H'
      | .exc e vh => ∀ w' H', Le w H w' H' → RS K w' H' σ ⟨z.loc, vh⟩ → LE K mg E e w' H' σ
      | .bad => False) → ∀ w' H' σ' v, Le w H w' H' → RS K w' H' σ' s1 → Rep K w' v d0 → Q v H' := fun {d0 s1} e w' H' σ' v l R' rv => by
    cases hf : fin z.vh s1 d0 with
    | none => rw [hf] at e; exact e.elim
    | some d =>
      rw [hf] at e
      unfold fin at hf
      split at hf
      · next hp =>
        obtain ⟨l2, R2⟩ := RS.back R l R' hp rfl
        exact e _ _ _ l2 R2 (thaw_rep R' 8 rv hf)
      · cases hf
  cases hg : g (initS N.length ds z.vh) with
  | bad => rw [hg] at m; exact m.elim
  | exc e s1 =>
    rw [hg] at m
    dsimp only at m
    intro w' H' σ' l R'
    by_cases hp : s1.vh.take z.vh.length = z.vh ∧ (e.fs.all fun kv => nc z.vh.length kv.2) = true
    · rw [if_pos hp] at m
      obtain ⟨h1, h2⟩ := hp
      obtain ⟨l2, R2⟩ := RS.back R l R' h1 rfl
      have := m _ _ l2 R2
      intro C hC
      exact ⟨(this C hC).1, fun hne d vs hd rf => (this C hC).2 hne d vs hd (nc_fields rf h2)⟩
    · rw [if_neg hp] at m; exact m.elim
  | ok o s1 =>
    rw [hg] at m
    cases o with
    | brk => exact m.elim
    | cnt => exact m.elim
    | rt d0 => exact fun w' H' σ' v l R' rv => fin_ok m w' H' σ' v l R' rv
    | nx => exact fun w' H' σ' l R' => fin_ok m w' H' σ' .non l R' .non
theorem fnX_W (F : Fun K x qual st f fd) (Sc : FnScope N ps (defScope st)) (hle : ps.length ≤ N.length)
    (body : ∀ (cdv : Value) (A : Around) (outer : List Env) (s : Shared) (H : Hp) (E : XK), Room k (A.deeper (envOfC qual (defScope st) s.heap.objs.size f cdv)) →
      DSs (cxOf (L2.CX P wd) P wd K mg base N qual (defScope st) f cdv A outer s H E) (LE K mg E) (defBody st) g) : FnOk P wd K mg base (L2.CX P wd) (k + 1) f fd ps (SpX K mg ps.length (runXW N.length g)) := by
  refine F.okX Sc (fun vs H Q E h => h.1) fun cdv A outer s H vs Q E hr h => ?_
  obtain ⟨t, p, r⟩ := body cdv A outer s H E hr
  obtain ⟨hl, w, σ, z, ds, R, rv, m⟩ := h
  refine ⟨t, p, r w H _ (initS N.length ds z.vh) _ (start_ok (ps := ps) R rv) ?_⟩
  show PostS K (LE K mg E) w H (g (initS N.length ds z.vh)) _
  unfold runXW at m
  have cut : ∀ {d0 : D} {s1 : S} {d : D} {vh : List Cell}, finW z.vh.length s1 d0 = some (d, vh) → ∀ w' H' σ', Le w H w' H' → RS K w' H' σ' s1 → (∀ v, Rep K w' v d0 → Rep K (w'.cut z.vh.length) v d) ∧ Le w H (w'.cut z.vh.length) H' ∧ RS K (w'.cut z.vh.length) H' σ ⟨z.loc, vh⟩ := fun {d0 s1 d vh} e w' H' σ' l R' => by
    unfold finW at e
    split at e
    · next h1 =>
      split at e
      · next h2 =>
        split at e
        · next h3 =>
          cases e
          rw [List.all_eq_true] at h2
          obtain ⟨l2, R2⟩ := RS.cut R l R' rfl h1 h2
          exact ⟨fun v rv => cut_rep rv h3, l2, R2⟩
        · cases e
      · cases e
    · cases e
  have fin_ok : ∀ {d0 : D} {s1 : S}, (match okW (finW z.vh.length s1 d0) with
      | .ok d vh => ∀ w' H' v, Le w H w' H' → RS K w' H' σ ⟨z.loc, vh⟩ → Rep K w' v d → Q v H'
      | .exc e vh => ∀ w' H', Le w H w' H' → RS K w' H' σ ⟨z.loc, vh⟩ → LE K mg E e w' H' σ
      | .bad => False) → ∀ w' H' σ' v, Le w H w' H' → RS K w' H' σ' s1 → Rep K w' v d0 → Q v H' := fun {d0 s1} e w' H' σ' v l R' rv => by
    cases hf : finW z.vh.length s1 d0 with
    | none => rw [hf] at e; exact e.elim
    | some p =>
      obtain ⟨d, vh⟩ := p
      rw [hf] at e
      obtain ⟨a, b, c⟩ := cut hf w' H' σ' l R'
      exact e _ _ _ b c (a v rv)
  cases hg : g (initS N.length ds z.vh) with
  | bad => rw [hg] at m; exact m.elim
  | exc e s1 =>
    rw [hg] at m
    dsimp only at m
    intro w' H' σ' l R'
    cases hf : finW z.vh.length s1 .non with
    | none => rw [hf] at m; exact m.elim
    | some p =>
      obtain ⟨d, vh⟩ := p
      rw [hf] at m
      dsimp only at m
      by_cases h2 : (e.fs.all fun kv => nc z.vh.length kv.2) = true
      · rw [if_pos h2] at m
        obtain ⟨a, b, c⟩ := cut hf w' H' σ' l R'
        have := m _ _ b c
        intro C hC
        exact ⟨(this C hC).1, fun hne d vs hd rf => (this C hC).2 hne d vs hd (cut_fields rf h2)⟩
      · rw [if_neg h2] at m; exact m.elim
  | ok o s1 =>
    rw [hg] at m
    cases o with
    | brk => exact m.elim
    | cnt => exact m.elim
    | rt d0 => exact fun w' H' σ' v l R' rv => fin_ok m w' H' σ' v l R' rv
    | nx => exact fun w' H' σ' l R' => fin_ok m w' H' σ' .non l R' .non
end
/-! ### calls of such defs -/
structure FnX (P : Program) (wd : World) (K : PySem.W.Frag) (mg : Str → Option Value) (base : Heap) (x : Str) (n k : Nat) (F : Xf) : Prop where
  ex : ∃ (f : Addr) (fd : FuncData) (ps : List Str), mg x = some (.ref f) ∧ PySem.W.keepIn K (.ref f) = true ∧ Binds K fd ps [] ∧ FnOk P wd K mg base (L2.CX P wd) k f fd ps (SpX K mg n F)
structure MetX (P : Program) (wd : World) (K : PySem.W.Frag) (mg : Str → Option Value) (base : Heap) (x m : Str) (n k : Nat) (F : Xf) : Prop where
  ex : ∃ (C f : Addr) (fd : FuncData) (ps : List Str), clsIn K x C ∧ Meth K C m f ∧ Binds K fd ps [] ∧ FnOk P wd K mg base (L2.CX P wd) k f fd ps (SpX K mg n F)
def rzM (r : Rz) : M D := fun s => match r with
  | .ok d vh => .ok d ⟨s.loc, vh⟩
  | .exc e vh => .exc e ⟨s.loc, vh⟩
  | .bad => .bad
def callX (n : Nat) (F : Xf) (ds : List D) : M D := fun s => if ds.length = n then rzM (F ds s.vh) s else .bad
section
variable {X : Cx} {W' : L2.WX} {n k : Nat} {F : Xf} {x m : Str} {e o : Expr} {es : List Expr} {fo : M D} {fs : M (List D)} {p pos apos : Pos}
theorem ansX {w : Wd} {H : Hp} {σ : L2.St} {s : S} {vs : List V} {ds : List D} {Q : V → Hp → Prop} (R : RS X.K w H σ s) (r : RepL X.K w vs ds) (z : Post X.K (LW X.K X.mg W') (pD X.K) w H σ (callX n F ds s) Q) : SpX X.K X.mg n F vs H Q (WE W' σ) := by
  unfold callX at z
  split at z
  · next hl =>
    refine ⟨(RepL.length r).trans hl, w, σ, s, ds, R, r, ?_⟩
    unfold rzM at z
    cases hF : F ds s.vh with
    | ok d vh => rw [hF] at z; exact fun w' H' v l R' r' => z w' H' v l R' r'
    | exc e vh => rw [hF] at z; exact fun w' H' l R' => z w' H' l R'
    | bad => rw [hF] at z; exact z.elim
  · exact z.elim
theorem de_callX (h : FnX X.prog X.w X.K X.mg X.base x n k F) (tk : L2.Takes X W') (hr : Room k X.A) (ha : DA X (LW X.K X.mg W') (e :: es) fs) (hg : Gl X x := by rfl) (hdb : (x == ("__debug__" : Str)) = false := by decide)
    (he : starEach (e :: es) X.env = (false, eval e X.env) :: starEach es X.env := by rfl) (hpl : (backTo pos (starEach es X.env)).any (·.1) = false := by rfl) : DE X (LW X.K X.mg W') (.Call (.Name x p) (e :: es) [] pos) (bnd fs (callX n F)) := by
  obtain ⟨f, fd, ps, hm, hk, hb, G⟩ := h.ex
  obtain ⟨t, q, r⟩ := ha
  exact ⟨_, pe_callS G hr hg hm hk hb (fun σ => passAt tk σ) q hdb he hpl, fun w H σ s Q R z => r.bnd R z fun ds s1 w1 H1 vs l1 R1 r1 p1 => ansX R1 r1 p1⟩
end
end Fx

/-! Fx: raise -/
namespace Fx
open PySem PySem.Spec PyProof.Rows L2
/-- a class of errors without an own __init__ -/
structure Xc0 (K : PySem.W.Frag) (mg : Str → Option Value) (x : Str) : Prop where
  ex : ∃ C, mg x = some (.ref C) ∧ PySem.W.excIn K C [.type "ValueError", .type "Exception", .type "BaseException", .type "object"] "ValueError.__new__" = true ∧ PySem.W.keepIn K (.ref C) = true ∧
    PySem.W.subIn K (.ref C) (.type "BaseException") = some true ∧ PySem.W.typeIn K (.ref C) = some (.type "type")
section
variable {X : Cx} {W' : L2.WX} {x : Str} {C : Addr} {p pos pos' : Pos}
theorem pmk_own0 (q : PySem.W.excIn X.K C [.type "ValueError", .type "Exception", .type "BaseException", .type "object"] "ValueError.__new__" = true) (gC : X.mg x = some (.ref C)) (kC : PySem.W.keepIn X.K (.ref C) = true) (r : Raises X (.ref C)) (hg : Gl X x)
    (hdb : (x == ("__debug__" : Str)) = false := by decide) : PMk X (.Call (.Name x p) [] [] pos) (fun _ H Q => Q (.ref C) none H) := by
  intro pins s σ H Q I h
  refine wpAny_Call_Name_kw (ld_glob I hg gC ?_ hdb)
  refine PySem.W.callWith_K0 (first := []) I.kIn kC ?_
  show wpAny _ _ (call (.ref C) []) _ _ _
  obtain ⟨bm, N, nm, qn, bs, hdct, sn, sub, ab, col, dd, k0, k1, k2, k3, k5, mN, hC, hN, hni, T⟩ := exc_obj I.kIn q
  exact wpAny_call_exc_subT PySem.F.excBase_ValueError T hC hN hni (fun h' e hm => mk_of I hm r h (I.hok.gone hm.new)) (by show 0 ≤ sizeLine; omega)
def raiseM (x : Str) (ns : List Str) (ds : List D) : M Out := fun s => if ds.length = ns.length then .exc ⟨x, (ns.zip ds).reverse⟩ s else .bad
theorem ds_raise0 (q : Xc0 X.K X.mg x) (tk : L2.Takes X W') (hc : X.calm = true := by rfl) (hg : Gl X x := by rfl) (hdb : (x == ("__debug__" : Str)) = false := by decide) : DS X (LW X.K X.mg W') (.Raise (some (.Call (.Name x p) [] [] pos)) none pos') (raiseM x [] []) := by
  obtain ⟨C, gC, e1, e2, e3, e4⟩ := q.ex
  refine ⟨_, ps_raise hc tk (pmk_own0 e1 gC e2 (raises_own e3 e4) hg hdb), fun w H σ s D R z => ?_⟩
  have z : PostS X.K (LW X.K X.mg W') w H (.exc ⟨x, []⟩ s) D := z
  exact (z w H σ (Le.refl w H) R C gC).1 rfl
end
/-! ### errors that keep what they are made of -/
def SpE (K : PySem.W.Frag) (ns : List Str) : Sp := fun vs H Q _ => ∃ (a C : Addr) (us : List V), vs = .ref a :: us ∧ us.length = ns.length ∧ H a = some (exo a C none) ∧ OexC K C ∧ (∀ f ∈ ns, PySem.W.findIn K (.ref C) f = some none) ∧
  ∀ d, H d = none → d ≠ a → Q .non (upd (upd H d (exd d (ns.zip us).reverse)) a (exo a C (some d)))
structure Xc1 (P : Program) (wd : World) (K : PySem.W.Frag) (mg : Str → Option Value) (base : Heap) (x : Str) (ns : List Str) (k : Nat) : Prop where
  ex : ∃ (C fI : Addr) (fd : FuncData) (ps : List Str), mg x = some (.ref C) ∧ OexC K C ∧ (∀ f ∈ ns, PySem.W.findIn K (.ref C) f = some none) ∧ PySem.W.findIn K (.ref C) "__init__" = some (some (.ref fI)) ∧ PySem.W.typeIn K (.ref fI) = some (.type "function") ∧ Binds K fd ps [] ∧
    FnOk P wd K mg base CX0 k fI fd ps (SpE K ns)
section
variable {P : Program} {wd : World} {K : PySem.W.Frag} {mg : Str → Option Value} {base : Heap} {qual n m : Str} {st : Stmt} {f : Addr} {fd : FuncData} {N ps : List Str} {k : Nat}
theorem sv {us : List V} {N : List Str} {i : Nat} {v : V} (h : us[i]? = some v) : (start N us)[i]? = some (some v) := by
  have hi := (List.getElem?_eq_some_iff.mp h).1
  show (us.map some ++ _)[i]? = _
  rw [List.getElem?_append_left (by rw [List.length_map]; exact hi), List.getElem?_map, h]
  rfl
theorem init1 (F : Fun K "__init__" qual st f fd) (Sc : FnScope N ps (defScope st)) (h2 : ps.length = 2)
    (body : ∀ (cdv : Value) (A : Around) (outer : List Env) (s : Shared) (H : Hp) (E : XK), PSs (cxOf CX0 P wd K mg base N qual (defScope st) f cdv A outer s H E).nox (defBody st) (tOst K n (tVar 0) (tVar 1))) : FnOk P wd K mg base CX0 (k + 1) f fd ps (SpE K [n]) := by
  refine F.ok Sc (fun vs H Q E h => ?_) fun cdv A outer s H vs Q E hr h => ?_
  · obtain ⟨a, C, us, e, l, _⟩ := h
    rw [e, List.length_cons, l, h2]; rfl
  · obtain ⟨a, C, us, e, l, ea, T, hf, q⟩ := h
    subst e
    cases us with
    | nil => cases l
    | cons y r =>
      cases r with
      | cons _ _ => cases l
      | nil =>
        exact ⟨_, body cdv A outer s H E, y, sv rfl, .ref a, sv rfl, a, C, rfl, T, hf n List.mem_cons_self, .inl ⟨ea, fun dx hd hne => q dx hd hne⟩⟩
theorem init2 (F : Fun K "__init__" qual st f fd) (Sc : FnScope N ps (defScope st)) (h2 : ps.length = 3)
    (body : ∀ (cdv : Value) (A : Around) (outer : List Env) (s : Shared) (H : Hp) (E : XK), PSs (cxOf CX0 P wd K mg base N qual (defScope st) f cdv A outer s H E).nox (defBody st) (tSeq (tOst K n (tVar 0) (tVar 1)) (tOst K m (tVar 0) (tVar 2)))) : FnOk P wd K mg base CX0 (k + 1) f fd ps (SpE K [n, m]) := by
  refine F.ok Sc (fun vs H Q E h => ?_) fun cdv A outer s H vs Q E hr h => ?_
  · obtain ⟨a, C, us, e, l, _⟩ := h
    rw [e, List.length_cons, l, h2]; rfl
  · obtain ⟨a, C, us, e, l, ea, T, hf, q⟩ := h
    subst e
    cases us with
    | nil => cases l
    | cons y r =>
      cases r with
      | nil => cases l
      | cons y2 r =>
        cases r with
        | cons _ _ => cases l
        | nil =>
          refine ⟨_, body cdv A outer s H E, y, sv rfl, .ref a, sv rfl, a, C, rfl, T, hf n List.mem_cons_self, .inl ⟨ea, fun dx hd hne => ?_⟩⟩
          refine ⟨y2, sv rfl, .ref a, sv rfl, a, C, rfl, T, hf m (List.mem_cons_of_mem _ List.mem_cons_self), .inr ⟨dx, [(n, y)], upd_same, ?_, (by show 1 ≤ 900; decide), ?_⟩⟩
          · rw [upd_ne hne, upd_same]
          · have := q dx hd hne
            have e : upd (upd (upd H dx (exd dx [(n, y)])) a (exo a C (some dx))) dx (exd dx [(m, y2), (n, y)]) = upd (upd H dx (exd dx [(m, y2), (n, y)])) a (exo a C (some dx)) := by
              funext b
              by_cases h1 : b = dx
              · subst h1; rw [upd_same, upd_ne hne, upd_same]
              · rw [upd_ne h1]
                by_cases h3 : b = a
                · subst h3; rw [upd_same, upd_same]
                · rw [upd_ne h3, upd_ne h3, upd_ne h1, upd_ne h1]
            show Q .non (upd (upd (upd H dx (exd dx [(n, y)])) a (exo a C (some dx))) dx (exd dx [(m, y2), (n, y)]))
            rw [e]
            exact this
end
section
variable {X : Cx} {W' : L2.WX} {x : Str} {ns : List Str} {k : Nat} {e : Expr} {es : List Expr} {fs : M (List D)} {p pos pos' : Pos}
theorem repF_zip {K : PySem.W.Frag} {w : Wd} : ∀ {ns : List Str} {vs : List V} {ds : List D}, RepL K w vs ds → RepF K w (ns.zip vs) (ns.zip ds)
  | [], _, _, _ => .nil
  | _ :: _, _, _, .nil => .nil
  | _ :: ns, _, _, .cons h t => .cons h (repF_zip t)
theorem repF_app {K : PySem.W.Frag} {w : Wd} : ∀ {vs us : List (Str × V)} {ds es : List (Str × D)}, RepF K w vs ds → RepF K w us es → RepF K w (vs ++ us) (ds ++ es)
  | _, _, _, _, .nil, s => s
  | _, _, _, _, .cons h t, s => .cons h (repF_app t s)
theorem repF_rev {K : PySem.W.Frag} {w : Wd} : ∀ {vs : List (Str × V)} {ds : List (Str × D)}, RepF K w vs ds → RepF K w vs.reverse ds.reverse
  | _, _, .nil => .nil
  | _, _, .cons h t => by
    rw [List.reverse_cons, List.reverse_cons]
    exact repF_app (repF_rev t) (.cons h .nil)
theorem ds_raise1 (q : Xc1 X.prog X.w X.K X.mg X.base x ns k) (hn : ns ≠ []) (hn2 : ns.length ≤ 10) (tk : L2.Takes X W') (hr : Room (k + 1) X.A) (ha : DA X (LW X.K X.mg W') (e :: es) fs) (hc : X.calm = true := by rfl) (hg : Gl X x := by rfl) (hdb : (x == ("__debug__" : Str)) = false := by decide)
    (he : starEach (e :: es) X.env = (false, eval e X.env) :: starEach es X.env := by rfl) (hpl : (backTo pos (starEach es X.env)).any (·.1) = false := by rfl) : DS X (LW X.K X.mg W') (.Raise (some (.Call (.Name x p) (e :: es) [] pos)) none pos') (bnd fs (raiseM x ns)) := by
  obtain ⟨C, fI, fd, ps, gC, T, hno, iC, tI, hb, G⟩ := q.ex
  obtain ⟨t, qa, r⟩ := ha
  refine ⟨_, ps_raise hc tk (pmk_oex T iC tI G hr hb .nil pass0 hg gC qa hdb he hpl), fun w H σ s D R z => ?_⟩
  refine r.bndS R z fun ds s1 w1 H1 vs l1 R1 r1 p1 => ?_
  unfold raiseM at p1
  split at p1
  · next hl =>
    have hv : vs.length = ns.length := (RepL.length r1).trans hl
    refine ⟨by omega, fun a ha => ⟨a, C, vs, by rw [List.append_nil], hv, upd_same, T, hno, fun d hd hne => ?_⟩⟩
    have hd1 : H1 d = none := by rw [upd_ne hne] at hd; exact hd
    refine ⟨rfl, d, (ns.zip vs).reverse, upd_same, by rw [upd_ne hne, upd_same], hd1, ?_⟩
    have eH : upd (del (upd (upd (upd H1 a (exo a C none)) d (exd d (ns.zip vs).reverse)) a (exo a C (some d))) a) d (.xd (ns.zip vs).reverse) = upd H1 d (.xd (ns.zip vs).reverse) := by
      funext b
      by_cases h1 : b = d
      · subst h1; rw [upd_same, upd_same]
      · rw [upd_ne h1, upd_ne h1]
        by_cases h2 : b = a
        · subst h2; rw [del_same, ha]
        · rw [del_ne h2, upd_ne h2, upd_ne h1, upd_ne h2]
    rw [eH]
    have hne : (⟨x, (ns.zip ds).reverse⟩ : Ex).fs ≠ [] := fun z => by
      have z : (ns.zip ds).reverse = [] := z
      have z2 := congrArg List.length z
      rw [List.length_reverse, List.length_zip, hl, Nat.min_self] at z2
      exact hn (List.length_eq_zero_iff.mp z2)
    have p1 : PostS X.K (LW X.K X.mg W') w1 H1 (.exc ⟨x, (ns.zip ds).reverse⟩ s1) D := p1
    exact (p1 w1 H1 σ (Le.refl w1 H1) R1 C gC).2 hne d _ hd1 (repF_rev (repF_zip r1))
  · exact p1.elim
end
end Fx

/-! Fx: try .. except -/
namespace Fx
open PySem PySem.Spec PyProof.Rows L2
/-- the caught error, as the world knows it -/
structure XAt (K : PySem.W.Frag) (mg : Str → Option Value) (cls : Value) (d : Option Addr) (e : Ex) (w : Wd) : Prop where
  cl : ∃ C, mg e.cls = some (.ref C) ∧ cls = .ref C
  fs : (e.fs = [] ∧ d = none) ∨ ∃ dd vs, d = some dd ∧ w.F dd = some (.xd vs) ∧ RepF K w vs e.fs
theorem XAt.up {K : PySem.W.Frag} {mg : Str → Option Value} {cls : Value} {d : Option Addr} {e : Ex} {w w' : Wd} {H H' : Hp} (h : XAt K mg cls d e w) (l : Le w H w' H') : XAt K mg cls d e w' :=
  ⟨h.cl, h.fs.imp id fun ⟨dd, vs, a, b, c⟩ => ⟨dd, vs, a, l.le.2 _ _ b, c.upW l.le⟩⟩
/-- what an own class of errors must say, so that isinstance asks its instances rightly -/
structure ExcQ (K : PySem.W.Frag) (C : Addr) : Prop where
  cl : (PySem.W.clsIn K C).isSome = true
  hg : PySem.W.findIn K (.ref C) "__getattribute__" = some (some (.builtin "BaseException.__getattribute__"))
  hk : PySem.W.findIn K (.ref C) "__getattr__" = some none
  hs : PySem.W.subIn K (.ref C) (.type "BaseException") = some true
  ha : PySem.W.findIn K (.ref C) "__class__" = some (some (.builtin "object.__class__"))
  hn : PySem.W.specialIn K (.builtin "object.__class__") "__get__" = some (some (.builtin "getset_descriptor.__get__"))
  ht : PySem.W.takesIn K (.builtin "object.__class__") = some true
  hm : PySem.W.mroIn K C (.type "object") = some true
/-- e.f, errors of the class x -/
structure XcF (K : PySem.W.Frag) (mg : Str → Option Value) (x f : Str) : Prop where
  ex : ∃ C, mg x = some (.ref C) ∧ XfC K C ∧ PySem.W.findIn K (.ref C) f = some none
/-- isinstance(e, T), errors of the class x -/
structure XcI (K : PySem.W.Frag) (mg : Str → Option Value) (x T : Str) (b : Bool) : Prop where
  ex : ∃ C CT, mg x = some (.ref C) ∧ mg T = some (.ref CT) ∧ ExcQ K C ∧ PySem.W.kitOne K (.ref C) (.ref CT) = some b
/-- .. T a class of the language -/
structure XcB (K : PySem.W.Frag) (mg : Str → Option Value) (x : Str) (T : String) (b : Bool) : Prop where
  ex : ∃ C, mg x = some (.ref C) ∧ ExcQ K C ∧ PySem.W.kitOne K (.ref C) (.type T) = some b
/-- except T, errors of the class x -/
structure XcP (K : PySem.W.Frag) (mg : Str → Option Value) (x T : Str) (b : Bool) : Prop where
  ex : ∃ C CT, mg x = some (.ref C) ∧ mg T = some (.ref CT) ∧ PySem.W.exmOne K (.ref C) (.ref CT) = some b
inductive Tab (P : Str → Bool → Prop) : List (Str × Bool) → Prop
  | nil : Tab P []
  | cons {x : Str} {b : Bool} {r : List (Str × Bool)} (h : P x b) (t : Tab P r) : Tab P ((x, b) :: r)
theorem Tab.at {P : Str → Bool → Prop} : ∀ {r : List (Str × Bool)} {x : Str} {b : Bool}, Tab P r → r.lookup x = some b → P x b
  | _, _, _, .nil, e => by cases e
  | _, x, b, .cons (x := y) (b := c) (r := r) h t, e => by
    rw [List.lookup_cons] at e
    by_cases k : x = y
    · subst k
      rw [beq_self_eq_true] at e
      cases e
      exact h
    · rw [beq_eq_false_iff_ne.mpr k] at e
      exact Tab.at t e
section
variable {X : Cx} {a : Addr} {oe : Obj} {cls : Value} {d : Option Addr} {e : Ex} {pn : List (Addr × Obj)} {i : Nat} {ex b : Expr} {es rest : List Expr} {p p2 pos : Pos} {n : Str} {v u : S → Option D} {vs : S → Option (List D)}
end
/-! ### the statement -/
def tryM (f : M Out) (tab : List (Str × Bool)) (su : Ex → M Out) : M Out := fun s => match f s with
  | .exc e s' => match tab.lookup e.cls with
    | some true => su e s'
    | some false => .exc e s'
    | none => .bad
  | r => r
/-- what is let out, told to the machine -/
def OutW (K : PySem.W.Frag) (mg : Str → Option Value) (W : WX) (Wout : L2.WX) : Prop := ∀ e w H σ C, mg e.cls = some (.ref C) → W e w H σ →
  (e.fs = [] → Wout (.ref C) none σ H) ∧ (e.fs ≠ [] → ∀ d vs, H d = none → RepF K w vs e.fs → Wout (.ref C) (some d) σ (upd H d (.xd vs)))
theorem outW0 {K : PySem.W.Frag} {mg : Str → Option Value} {Wout : L2.WX} : OutW K mg W0 Wout := fun _ _ _ _ _ _ h => h.elim
section
variable {X : Cx} {W : WX} {Wout : L2.WX} {body : List Stmt} {f : M Out} {T n y : Str} {tab : List (Str × Bool)} {i j : Nat} {ex : Expr} {v : Ex → S → Option D} {np p' p2 pos pos' : Pos}
end
end Fx

/-! Fx: defs that may raise, by the text; the classes of errors -/
namespace Fx
open PySem PySem.Spec PyProof.Rows L2
section
variable {P : Program} {wd : World} {K : PySem.W.Frag} {mg : Str → Option Value} {base : Heap} {x m q : Str} {st : Stmt} {N ps : List Str} {k : Nat} {g : M Out}
theorem Top.fnXS (T : Top K mg x st ps) (Sc : FnScope N ps (defScope st)) (hle : ps.length ≤ N.length)
    (body : ∀ (f : Addr) (cdv : Value) (A : Around) (outer : List Env) (s : Shared) (H : Hp) (E : XK), Room k (A.deeper (envOfC x (defScope st) s.heap.objs.size f cdv)) →
      DSs (cxOf (L2.CX P wd) P wd K mg base N x (defScope st) f cdv A outer s H E) (LE K mg E) (defBody st) g) : FnX P wd K mg base x ps.length (k + 1) (runXS N.length g) :=
  let ⟨f, fd, F, m, b, _⟩ := T.ex
  ⟨f, fd, ps, m, F.kp, b, fnX_S F Sc hle fun cdv A outer s H E hr => body f cdv A outer s H E hr⟩
theorem Top.fnXP (T : Top K mg x st ps) (Sc : FnScope N ps (defScope st)) (hle : ps.length ≤ N.length)
    (body : ∀ (f : Addr) (cdv : Value) (A : Around) (outer : List Env) (s : Shared) (H : Hp) (E : XK), Room k (A.deeper (envOfC x (defScope st) s.heap.objs.size f cdv)) →
      DSs (cxOf (L2.CX P wd) P wd K mg base N x (defScope st) f cdv A outer s H E) (LE K mg E) (defBody st) g) : FnX P wd K mg base x ps.length (k + 1) (runXP N.length g) :=
  let ⟨f, fd, F, m, b, _⟩ := T.ex
  ⟨f, fd, ps, m, F.kp, b, fnX_P F Sc hle fun cdv A outer s H E hr => body f cdv A outer s H E hr⟩
theorem Top.fnXW (T : Top K mg x st ps) (Sc : FnScope N ps (defScope st)) (hle : ps.length ≤ N.length)
    (body : ∀ (f : Addr) (cdv : Value) (A : Around) (outer : List Env) (s : Shared) (H : Hp) (E : XK), Room k (A.deeper (envOfC x (defScope st) s.heap.objs.size f cdv)) →
      DSs (cxOf (L2.CX P wd) P wd K mg base N x (defScope st) f cdv A outer s H E) (LE K mg E) (defBody st) g) : FnX P wd K mg base x ps.length (k + 1) (runXW N.length g) :=
  let ⟨f, fd, F, m, b, _⟩ := T.ex
  ⟨f, fd, ps, m, F.kp, b, fnX_W F Sc hle fun cdv A outer s H E hr => body f cdv A outer s H E hr⟩
theorem TopM.fnXS (T : TopM K x m q st ps) (Sc : FnScope N ps (defScope st)) (hle : ps.length ≤ N.length)
    (body : ∀ (f : Addr) (cdv : Value) (A : Around) (outer : List Env) (s : Shared) (H : Hp) (E : XK), Room k (A.deeper (envOfC q (defScope st) s.heap.objs.size f cdv)) →
      DSs (cxOf (L2.CX P wd) P wd K mg base N q (defScope st) f cdv A outer s H E) (LE K mg E) (defBody st) g) : MetX P wd K mg base x m ps.length (k + 1) (runXS N.length g) :=
  let ⟨C, f, fd, a, F, M, b⟩ := T.ex
  ⟨C, f, fd, ps, a, M, b, fnX_S F Sc hle fun cdv A outer s H E hr => body f cdv A outer s H E hr⟩
theorem TopM.fnXP (T : TopM K x m q st ps) (Sc : FnScope N ps (defScope st)) (hle : ps.length ≤ N.length)
    (body : ∀ (f : Addr) (cdv : Value) (A : Around) (outer : List Env) (s : Shared) (H : Hp) (E : XK), Room k (A.deeper (envOfC q (defScope st) s.heap.objs.size f cdv)) →
      DSs (cxOf (L2.CX P wd) P wd K mg base N q (defScope st) f cdv A outer s H E) (LE K mg E) (defBody st) g) : MetX P wd K mg base x m ps.length (k + 1) (runXP N.length g) :=
  let ⟨C, f, fd, a, F, M, b⟩ := T.ex
  ⟨C, f, fd, ps, a, M, b, fnX_P F Sc hle fun cdv A outer s H E hr => body f cdv A outer s H E hr⟩
theorem TopM.fnXW (T : TopM K x m q st ps) (Sc : FnScope N ps (defScope st)) (hle : ps.length ≤ N.length)
    (body : ∀ (f : Addr) (cdv : Value) (A : Around) (outer : List Env) (s : Shared) (H : Hp) (E : XK), Room k (A.deeper (envOfC q (defScope st) s.heap.objs.size f cdv)) →
      DSs (cxOf (L2.CX P wd) P wd K mg base N q (defScope st) f cdv A outer s H E) (LE K mg E) (defBody st) g) : MetX P wd K mg base x m ps.length (k + 1) (runXW N.length g) :=
  let ⟨C, f, fd, a, F, M, b⟩ := T.ex
  ⟨C, f, fd, ps, a, M, b, fnX_W F Sc hle fun cdv A outer s H E hr => body f cdv A outer s H E hr⟩
end
section
variable {P : Program} {wd : World} {K : PySem.W.Frag} {mg : Str → Option Value} {base : Heap} {x m q : Str} {st : Stmt} {ps : List Str} {n j k : Nat} {F : Xf}
theorem FnX.mono (h : FnX P wd K mg base x n j F) (l : j ≤ k) : FnX P wd K mg base x n k F := let ⟨f, fd, ps, a, b, c, d⟩ := h.ex; ⟨f, fd, ps, a, b, c, d.mono l⟩
theorem MetX.mono (h : MetX P wd K mg base x m n j F) (l : j ≤ k) : MetX P wd K mg base x m n k F := let ⟨C, f, fd, ps, a, b, c, d⟩ := h.ex; ⟨C, f, fd, ps, a, b, c, d.mono l⟩
theorem Top.nilX (T : Top K mg x st ps) : FnX P wd K mg base x ps.length k (fun _ _ => .bad) :=
  let ⟨f, fd, F, m, b, _⟩ := T.ex
  ⟨f, fd, ps, m, F.kp, b, fun _ _ _ _ h => h.1, fun _ _ _ _ _ _ _ _ _ _ _ _ _ h => by obtain ⟨_, _, _, _, _, _, _, e⟩ := h; exact e.elim⟩
theorem Top.nilN (T : Top K mg x st ps) : FnQ P wd K mg base x k (SpN K ps.length fun _ _ => none) :=
  let ⟨f, fd, F, m, b, _⟩ := T.ex
  ⟨f, fd, ps, m, F.kp, b, fun _ _ _ _ h => h.1, fun _ _ _ _ _ _ _ _ _ _ _ _ _ h => by obtain ⟨_, _, _, _, _, _, _, _, e, _⟩ := h; cases e⟩
theorem TopM.nilX (T : TopM K x m q st ps) : MetX P wd K mg base x m ps.length k (fun _ _ => .bad) :=
  let ⟨C, f, fd, a, F, M, b⟩ := T.ex
  ⟨C, f, fd, ps, a, M, b, fun _ _ _ _ h => h.1, fun _ _ _ _ _ _ _ _ _ _ _ _ _ h => by obtain ⟨_, _, _, _, _, _, _, e⟩ := h; exact e.elim⟩
end
/-- an own class of errors with an __init__ that keeps ns -/
structure TopE (K : PySem.W.Frag) (mg : Str → Option Value) (x q : Str) (st : Stmt) (ps ns : List Str) : Prop where
  ex : ∃ (C f : Addr) (fd : FuncData), mg x = some (.ref C) ∧ OexC K C ∧ (∀ n ∈ ns, PySem.W.findIn K (.ref C) n = some none) ∧ PySem.W.findIn K (.ref C) "__init__" = some (some (.ref f)) ∧ PySem.W.typeIn K (.ref f) = some (.type "function") ∧ Fun K "__init__" q st f fd ∧ Binds K fd ps []
section
variable {P : Program} {wd : World} {K : PySem.W.Frag} {mg : Str → Option Value} {base : Heap} {x q n m : Str} {st : Stmt} {N ps : List Str}
theorem TopE.mk1 (T : TopE K mg x q st ps [n]) (Sc : FnScope N ps (defScope st)) (h2 : ps.length = 2)
    (body : ∀ (f : Addr) (cdv : Value) (A : Around) (outer : List Env) (s : Shared) (H : Hp) (E : XK), PSs (cxOf CX0 P wd K mg base N q (defScope st) f cdv A outer s H E).nox (defBody st) (tOst K n (tVar 0) (tVar 1))) : Xc1 P wd K mg base x [n] 1 :=
  let ⟨C, f, fd, a, O, hn, hi, ht, F, b⟩ := T.ex
  ⟨C, f, fd, ps, a, O, hn, hi, ht, b, init1 F Sc h2 fun cdv A outer s H E => body f cdv A outer s H E⟩
theorem TopE.mk2 (T : TopE K mg x q st ps [n, m]) (Sc : FnScope N ps (defScope st)) (h2 : ps.length = 3)
    (body : ∀ (f : Addr) (cdv : Value) (A : Around) (outer : List Env) (s : Shared) (H : Hp) (E : XK), PSs (cxOf CX0 P wd K mg base N q (defScope st) f cdv A outer s H E).nox (defBody st) (tSeq (tOst K n (tVar 0) (tVar 1)) (tOst K m (tVar 0) (tVar 2)))) : Xc1 P wd K mg base x [n, m] 1 :=
  let ⟨C, f, fd, a, O, hn, hi, ht, F, b⟩ := T.ex
  ⟨C, f, fd, ps, a, O, hn, hi, ht, b, init2 F Sc h2 fun cdv A outer s H E => body f cdv A outer s H E⟩
theorem xc0_mk {h : Heap} (X : K.In h) (G : h.Ns mainGlobals mg) {C : Addr} (a : PySem.W.nsIn K mainGlobals x = some (some (.ref C))) (e1 : PySem.W.excIn K C [.type "ValueError", .type "Exception", .type "BaseException", .type "object"] "ValueError.__new__" = true) (e2 : PySem.W.keepIn K (.ref C) = true)
    (e3 : PySem.W.subIn K (.ref C) (.type "BaseException") = some true) (e4 : PySem.W.typeIn K (.ref C) = some (.type "type")) : Xc0 K mg x := ⟨C, PySem.W.mg_of X G a, e1, e2, e3, e4⟩
theorem topE_mk {h : Heap} (X : K.In h) (G : h.Ns mainGlobals mg) {ns : List Str} {C f : Addr} {nm : Str} {qn : Str} {Nn : Addr} {bs bm : List Value} {sn : List Str} {sub : List Value} {ab : Bool} {col : Option Bool} {dd : Option Addr} {m0 m1 m2 m3 m5 : Option Value} {oc : Value} {od an : Option Addr} {osl : Array (Option Value)} {kV doc pm cdv ct : Value}
    (a : PySem.W.nsIn K mainGlobals x = some (some (.ref C))) (xL : K.lookup C = some (excClassObj nm qn C Nn bs bm true sn sub ab col dd m0 m1 m2 m3 m5 "ValueError.__new__")) (rv : PySem.HandSPX.refsVE bm = true) (sa : PySem.W.findIn K (.ref C) "__setattr__" = some (some (.builtin "object.__setattr__")))
    (e3 : PySem.W.subIn K (.ref C) (.type "BaseException") = some true) (e4 : PySem.W.typeIn K (.ref C) = some (.type "type")) (e2 : PySem.W.keepIn K (.ref C) = true) (hn : ∀ n ∈ ns, PySem.W.findIn K (.ref C) n = some none) (fi : PySem.W.findIn K (.ref C) "__init__" = some (some (.ref f))) (ft : PySem.W.typeIn K (.ref f) = some (.type "function"))
    (l : K.lookup f = some ⟨oc, od, .func (PySem.W.fnOf "__init__" q (defArgs st) (defBody st) (defScope st) .none kV doc pm an cdv ct), osl⟩) (c : PySem.W.codeIn K cdv q = true) (k : PySem.W.keepIn K (.ref f) = true)
    (b : ∀ (kV doc pm : Value) (an : Option Addr) (cdv ct : Value) (us : List Value), us.length = ps.length → bindArgs (PySem.W.fnOf "__init__" q (defArgs st) (defBody st) (defScope st) .none kV doc pm an cdv ct) ⟨us, []⟩ = pure (ps.zip us)) : TopE K mg x q st ps ns :=
  have F := fun_mk (st := st) l c k
  ⟨C, f, _, PySem.W.mg_of X G a, ⟨⟨_, _, _, _, _, _, _, _, _, _, _, _, _, _, _, xL, rv⟩, sa, e3, e4, e2⟩, hn, fi, ft, F, F.binds b⟩
theorem xcF_mk {h : Heap} (X : K.In h) (G : h.Ns mainGlobals mg) {f : Str} {C : Addr} (a : PySem.W.nsIn K mainGlobals x = some (some (.ref C))) (ga : PySem.W.findIn K (.ref C) "__getattribute__" = some (some (.builtin "BaseException.__getattribute__"))) (gg : PySem.W.findIn K (.ref C) "__getattr__" = some none)
    (e3 : PySem.W.subIn K (.ref C) (.type "BaseException") = some true) (hd : PySem.W.hasDictIn K C = true) (hf : PySem.W.findIn K (.ref C) f = some none) : XcF K mg x f := ⟨C, PySem.W.mg_of X G a, ⟨ga, gg, e3, hd⟩, hf⟩
theorem excQ_mk {C : Addr} (ga : PySem.W.findIn K (.ref C) "__getattribute__" = some (some (.builtin "BaseException.__getattribute__"))) (gg : PySem.W.findIn K (.ref C) "__getattr__" = some none) (e3 : PySem.W.subIn K (.ref C) (.type "BaseException") = some true) (hd : PySem.W.hasDictIn K C = true)
    (k1 : PySem.W.findIn K (.ref C) "__class__" = some (some (.builtin "object.__class__"))) (k2 : PySem.W.specialIn K (.builtin "object.__class__") "__get__" = some (some (.builtin "getset_descriptor.__get__"))) (k3 : PySem.W.takesIn K (.builtin "object.__class__") = some true) (k4 : PySem.W.mroIn K C (.type "object") = some true) : ExcQ K C :=
  ⟨by obtain ⟨cd, hc, _⟩ := PySem.W.any_some hd; rw [hc]; rfl, ga, gg, e3, k1, k2, k3, k4⟩
theorem xcI_mk {h : Heap} (X : K.In h) (G : h.Ns mainGlobals mg) {T : Str} {b : Bool} {C CT : Addr} (a : PySem.W.nsIn K mainGlobals x = some (some (.ref C))) (aT : PySem.W.nsIn K mainGlobals T = some (some (.ref CT))) (Q : ExcQ K C) (k : PySem.W.kitOne K (.ref C) (.ref CT) = some b) : XcI K mg x T b := ⟨C, CT, PySem.W.mg_of X G a, PySem.W.mg_of X G aT, Q, k⟩
theorem xcB_mk {h : Heap} (X : K.In h) (G : h.Ns mainGlobals mg) {T : String} {b : Bool} {C : Addr} (a : PySem.W.nsIn K mainGlobals x = some (some (.ref C))) (Q : ExcQ K C) (k : PySem.W.kitOne K (.ref C) (.type T) = some b) : XcB K mg x T b := ⟨C, PySem.W.mg_of X G a, Q, k⟩
theorem xcP_mk {h : Heap} (X : K.In h) (G : h.Ns mainGlobals mg) {T : Str} {b : Bool} {C CT : Addr} (a : PySem.W.nsIn K mainGlobals x = some (some (.ref C))) (aT : PySem.W.nsIn K mainGlobals T = some (some (.ref CT))) (e3 : PySem.W.subIn K (.ref CT) (.type "BaseException") = some true) (hd : PySem.W.hasDictIn K CT = true)
    (e4 : PySem.W.typeIn K (.ref CT) = some (.type "type")) (s : PySem.W.subIn K (.ref C) (.ref CT) = some b) : XcP K mg x T b := ⟨C, CT, PySem.W.mg_of X G a, PySem.W.mg_of X G aT, PySem.W.exm_ref e3 hd e4 s⟩
end
/-! ### equations -/
section
variable {α : Type} {n i j : Nat} {F : Xf} {ds : List D} {s : S} {e : Ex} {d : D} {vh : List Cell} {x : Str} {fo : M D} {fs : M (List D)}
def rzR (r : Rz) (s : S) : Res D := rzM r s
theorem x_callX : callX n F ds s = if ds.length = n then rzR (F ds s.vh) s else .bad := nr rfl
theorem x_rzO : rzR (.ok d vh) s = .ok d ⟨s.loc, vh⟩ := nr rfl
theorem x_rzE : rzR (.exc e vh) s = .exc e ⟨s.loc, vh⟩ := nr rfl
theorem x_raise {ns : List Str} : raiseM x ns ds s = if ds.length = ns.length then .exc ⟨x, (ns.zip ds).reverse⟩ s else .bad := nr rfl
def tryR (tab : List (Str × Bool)) (su : Ex → M Out) : Res Out → Res Out
  | .exc e s' => match tab.lookup e.cls with
    | some true => su e s'
    | some false => .exc e s'
    | none => .bad
  | r => r
theorem x_try {f : M Out} {tab : List (Str × Bool)} {su : Ex → M Out} : tryM f tab su s = tryR tab su (f s) := by
  unfold tryM tryR
  cases f s <;> rfl
theorem x_tryO {tab : List (Str × Bool)} {su : Ex → M Out} {o : Out} : tryR tab su (.ok o s) = .ok o s := nr rfl
theorem x_tryE {tab : List (Str × Bool)} {su : Ex → M Out} (h : tab.lookup e.cls = some true) : tryR tab su (.exc e s) = su e s := by unfold tryR; dsimp only; rw [h]
end
theorem runXP_ex {n : Nat} {g : M Out} {ds : List D} {vh more : List Cell} {e : Ex} (h : ∃ l, g (initS n ds vh) = .exc e ⟨l, vh ++ more⟩) (hn : (e.fs.all fun kv => nc vh.length kv.2) = true) : runXP n g ds vh = .exc e vh := by
  obtain ⟨l, h⟩ := h
  unfold runXP
  rw [h]
  dsimp only
  rw [if_pos ⟨by rw [List.take_left'] ; rfl, hn⟩]
end Fx

/-! Fx: list * int -/
namespace Fx
open PySem PySem.Spec PyProof.Rows L2
variable {X : Cx} {W : WX}
/-! ### sorted(d), a dict with ints as keys, any number of them -/
end Fx

/-! Fx: data that differ are unequal -/
namespace Fx
open PySem PySem.Spec PyProof.Rows L2
mutual
/-- data without truths -/
def nbD : D → Bool
  | .non => true
  | .bl _ => false
  | .int _ => true
  | .str _ => true
  | .tup xs => nbL xs
  | .lst xs => nbL xs
  | .cell _ => false
  | .ref _ => false
  | .pr _ _ => false
  | .emp => false
  | .err _ _ _ => false
def nbL : List D → Bool
  | [] => true
  | x :: r => nbD x && nbL r
end
mutual
theorem dq_ne : ∀ (d e : D) (p q : PyData), nbD d = true → nbD e = true → pyT d = some p → pyT e = some q → d ≠ e → PyData.eqv p q = false
  | .non, .non, _, _, _, _, _, _, n => absurd rfl n
  | .non, .int _, _, _, _, _, h1, h2, _ => by cases h1; cases h2; rfl
  | .non, .str _, _, _, _, _, h1, h2, _ => by cases h1; cases h2; rfl
  | .non, .tup xs, p, q, _, _, h1, h2, _ => by
    cases h1
    unfold pyT at h2
    cases e : pyL xs with
    | none => rw [e] at h2; cases h2
    | some y => rw [e] at h2; cases h2; rfl
  | .non, .lst xs, p, q, _, _, h1, h2, _ => by
    cases h1
    unfold pyT at h2
    cases e : pyL xs with
    | none => rw [e] at h2; cases h2
    | some y => rw [e] at h2; cases h2; rfl
  | .int _, .non, _, _, _, _, h1, h2, _ => by cases h1; cases h2; rfl
  | .int i, .int j, _, _, _, _, h1, h2, n => by
    cases h1; cases h2
    have : i ≠ j := fun e => n (by rw [e])
    simp [PyData.eqv, this]
  | .int _, .str _, _, _, _, _, h1, h2, _ => by cases h1; cases h2; rfl
  | .int _, .tup xs, p, q, _, _, h1, h2, _ => by
    cases h1
    unfold pyT at h2
    cases e : pyL xs with
    | none => rw [e] at h2; cases h2
    | some y => rw [e] at h2; cases h2; rfl
  | .int _, .lst xs, p, q, _, _, h1, h2, _ => by
    cases h1
    unfold pyT at h2
    cases e : pyL xs with
    | none => rw [e] at h2; cases h2
    | some y => rw [e] at h2; cases h2; rfl
  | .str _, .non, _, _, _, _, h1, h2, _ => by cases h1; cases h2; rfl
  | .str _, .int _, _, _, _, _, h1, h2, _ => by cases h1; cases h2; rfl
  | .str x, .str y, _, _, _, _, h1, h2, n => by
    cases h1; cases h2
    have : x ≠ y := fun e => n (by rw [e])
    simp [PyData.eqv, this]
  | .str _, .tup xs, p, q, _, _, h1, h2, _ => by
    cases h1
    unfold pyT at h2
    cases e : pyL xs with
    | none => rw [e] at h2; cases h2
    | some y => rw [e] at h2; cases h2; rfl
  | .str _, .lst xs, p, q, _, _, h1, h2, _ => by
    cases h1
    unfold pyT at h2
    cases e : pyL xs with
    | none => rw [e] at h2; cases h2
    | some y => rw [e] at h2; cases h2; rfl
  | .tup xs, e, p, q, a, b, h1, h2, n => by
    unfold pyT at h1
    cases hx : pyL xs with
    | none => rw [hx] at h1; cases h1
    | some y =>
      rw [hx] at h1
      cases h1
      cases e with
      | non => cases h2; rfl
      | int _ => cases h2; rfl
      | str _ => cases h2; rfl
      | bl _ => cases b
      | cell _ => cases b
      | ref _ => cases b
      | pr _ _ => cases b
      | emp => cases b
      | err _ _ _ => cases b
      | lst zs =>
        unfold pyT at h2
        cases hz : pyL zs with
        | none => rw [hz] at h2; cases h2
        | some w => rw [hz] at h2; cases h2; rfl
      | tup zs =>
        unfold pyT at h2
        cases hz : pyL zs with
        | none => rw [hz] at h2; cases h2
        | some w =>
          rw [hz] at h2
          cases h2
          exact dq_neL xs zs y w a b hx hz fun e => n (by rw [e])
  | .lst xs, e, p, q, a, b, h1, h2, n => by
    unfold pyT at h1
    cases hx : pyL xs with
    | none => rw [hx] at h1; cases h1
    | some y =>
      rw [hx] at h1
      cases h1
      cases e with
      | non => cases h2; rfl
      | int _ => cases h2; rfl
      | str _ => cases h2; rfl
      | bl _ => cases b
      | cell _ => cases b
      | ref _ => cases b
      | pr _ _ => cases b
      | emp => cases b
      | err _ _ _ => cases b
      | tup zs =>
        unfold pyT at h2
        cases hz : pyL zs with
        | none => rw [hz] at h2; cases h2
        | some w => rw [hz] at h2; cases h2; rfl
      | lst zs =>
        unfold pyT at h2
        cases hz : pyL zs with
        | none => rw [hz] at h2; cases h2
        | some w =>
          rw [hz] at h2
          cases h2
          exact dq_neL xs zs y w a b hx hz fun e => n (by rw [e])
  | .bl _, _, _, _, a, _, _, _, _ => by cases a
  | .cell _, _, _, _, a, _, _, _, _ => by cases a
  | .ref _, _, _, _, a, _, _, _, _ => by cases a
  | .pr _ _, _, _, _, a, _, _, _, _ => by cases a
  | .emp, _, _, _, a, _, _, _, _ => by cases a
  | .err _ _ _, _, _, _, a, _, _, _, _ => by cases a
  | .non, .bl _, _, _, _, b, _, _, _ => by cases b
  | .non, .cell _, _, _, _, b, _, _, _ => by cases b
  | .non, .ref _, _, _, _, b, _, _, _ => by cases b
  | .non, .pr _ _, _, _, _, b, _, _, _ => by cases b
  | .non, .emp, _, _, _, b, _, _, _ => by cases b
  | .non, .err _ _ _, _, _, _, b, _, _, _ => by cases b
  | .int _, .bl _, _, _, _, b, _, _, _ => by cases b
  | .int _, .cell _, _, _, _, b, _, _, _ => by cases b
  | .int _, .ref _, _, _, _, b, _, _, _ => by cases b
  | .int _, .pr _ _, _, _, _, b, _, _, _ => by cases b
  | .int _, .emp, _, _, _, b, _, _, _ => by cases b
  | .int _, .err _ _ _, _, _, _, b, _, _, _ => by cases b
  | .str _, .bl _, _, _, _, b, _, _, _ => by cases b
  | .str _, .cell _, _, _, _, b, _, _, _ => by cases b
  | .str _, .ref _, _, _, _, b, _, _, _ => by cases b
  | .str _, .pr _ _, _, _, _, b, _, _, _ => by cases b
  | .str _, .emp, _, _, _, b, _, _, _ => by cases b
  | .str _, .err _ _ _, _, _, _, b, _, _, _ => by cases b
theorem dq_neL : ∀ (xs ys : List D) (ps qs : List PyData), nbL xs = true → nbL ys = true → pyL xs = some ps → pyL ys = some qs → xs ≠ ys → PyData.eqvAll ps qs = false
  | [], [], _, _, _, _, _, _, n => absurd rfl n
  | [], y :: ys, ps, qs, _, _, h1, h2, _ => by
    cases h1
    unfold pyL at h2
    split at h2
    · cases h2; rfl
    · cases h2
  | x :: xs, [], ps, qs, _, _, h1, h2, _ => by
    cases h2
    unfold pyL at h1
    split at h1
    · cases h1; rfl
    · cases h1
  | x :: xs, y :: ys, ps, qs, a, b, h1, h2, n => by
    have a : (nbD x && nbL xs) = true := a
    have b : (nbD y && nbL ys) = true := b
    rw [Bool.and_eq_true] at a b
    unfold pyL at h1 h2
    split at h1
    · next p1 ps1 e1 e2 =>
      cases h1
      split at h2
      · next q1 qs1 e3 e4 =>
        cases h2
        show (PyData.eqv p1 q1 && PyData.eqvAll ps1 qs1) = false
        rcases Classical.em (x = y) with z | z
        · have : xs ≠ ys := fun e => n (by rw [z, e])
          rw [dq_neL xs ys ps1 qs1 a.2 b.2 e2 e4 this, Bool.and_false]
        · rw [dq_ne x y p1 q1 a.1 b.1 e1 e3 z, Bool.false_and]
      · cases h2
    · cases h1
end
/-! a, b, c, d = t -/
section
variable {X : Cx}
end
end Fx

/-! lists of instances: the same ones at every place make equal lists -/
namespace L2
open PySem PySem.Spec
section
variable {X : Cx}
end
end L2
namespace Fx
open PySem PySem.Spec L2
section
variable {X : Cx} {K : PySem.W.Frag} {w : Wd} {H : Hp} {σ : L2.St} {s : S}
end
end Fx

/-! Fx: zip of a tuple and a list -/
namespace Fx
open PySem PySem.Spec PyProof.Rows L2
variable {X : Cx} {W : WX}
/-- the cells of such a zip at turn i -/
structure ZipMAt (z TI TO i1 i2 a b : Addr) (i : Nat) (h : Heap) : Prop where
  zp : IsZip h z TI TO .none
  ti : IsTupOf2 h TI (.ref i1) (.ref i2)
  to : ∃ x y, IsTupOf2 h TO x y
  t1 : h.IsTupleIter i1 a i
  t2 : h.IsListIter i2 b i
end Fx

/-! Fx: sorted(a tuple of texts) -/
namespace Fx
open PySem PySem.Spec PyProof.Rows L2
variable {X : Cx} {W : WX}
/-! ### a > b, texts -/
end Fx

/-! Fx: sorted(a dict of ints, reverse=True) -/
namespace Fx
open PySem PySem.Spec PyProof.Rows L2
variable {X : Cx} {W : WX}
end Fx

/-! Fx: sorted(d.items()), d a dict of texts -/
namespace Fx
open PySem PySem.Spec PyProof.Rows L2
variable {X : Cx} {W : WX}
/-- an item of a dict as a tuple of its own -/
structure It where
  k : Str
  a : Addr
  o : Obj
  v : V
/-! many tuples and a list, laid at once -/
def putF : Hp → List It → Hp
  | H, i :: is => putF (upd H i.a (.frz i.o (.tup [.str i.k, i.v]))) is
  | H, [] => H
/-! ### the rule -/
/-! ### as a reading -/
/-! a, b, c = a list -/
/-! what sorted(d.items()) is -/
end Fx

/-! Fx: a dict that stands in a list, locked while it is walked; a place of a list or of a dict is set -/
namespace Fx
open PySem PySem.Spec PyProof.Rows L2
variable {X : Cx} {W : WX}
/-- the cell at place k of the list in slot i -/
def plC (i k : Nat) (s : S) : Option Nat := match s.loc[i]? with
  | some (some (.cell m)) => match s.vh[m]? with
    | some (.lst ds) => match ds[k]? with
      | some (.cell n) => some n
      | _ => none
    | _ => none
  | some (some (.tup ds)) => match ds[k]? with
    | some (.cell n) => some n
    | _ => none
  | some (some (.lst ds)) => match ds[k]? with
    | some (.cell n) => some n
    | _ => none
  | _ => none
theorem RepL.atD {K : PySem.W.Frag} {w : Wd} {vs : List V} {ds : List D} (h : RepL K w vs ds) : ∀ {k : Nat} {d : D}, ds[k]? = some d → ∃ v, Rep K w v d := by
  induction ds generalizing vs with
  | nil => intro k d e; simp at e
  | cons x ds ih =>
    cases h with
    | cons r t =>
      intro k d e
      cases k with
      | zero => cases e; exact ⟨_, r⟩
      | succ k => exact ih t e
theorem RS.plC {K : PySem.W.Frag} {w : Wd} {H : Hp} {σ : L2.St} {s : S} (R : RS K w H σ s) {i k n : Nat} (h : plC i k s = some n) : ∃ a, w.ρ[n]? = some a := by
  unfold Fx.plC at h
  split at h
  · next m hm =>
    split at h
    · next ds hd =>
      split at h
      · next q hq =>
        cases h
        obtain ⟨b, hb⟩ := R.cellV hm
        obtain ⟨vs, _, rl⟩ := R.cells m b _ hb hd
        obtain ⟨v, r⟩ := rl.atD hq
        cases r with
        | cell h => exact ⟨_, h⟩
      · cases h
    · cases h
  · next ds hd =>
    split at h
    · next q hq =>
      cases h
      obtain ⟨v, _, r⟩ := R.loc i _ hd
      cases r with
      | tup _ rl =>
        obtain ⟨v, r⟩ := rl.atD hq
        cases r with
        | cell h => exact ⟨_, h⟩
    · cases h
  · next ds hd =>
    split at h
    · next q hq =>
      cases h
      obtain ⟨v, _, r⟩ := R.loc i _ hd
      cases r with
      | lst _ rl =>
        obtain ⟨v, r⟩ := rl.atD hq
        cases r with
        | cell h => exact ⟨_, h⟩
    · cases h
  · cases h
end Fx

/-! Fx: d.setdefault(k, x) -/
namespace L2
open PySem PySem.Spec PyProof.Rows
section
variable {X : Cx} {o e f : Expr} {td ty tx : TE} {apos cpos : Pos}
end
end L2
namespace Fx
open PySem PySem.Spec PyProof.Rows L2
variable {X : Cx} {W : WX}
section
variable {o e f : Expr} {fo fe ff : M D} {apos cpos : Pos}
end
/-! ### equations -/
end Fx

/-! Fx: xs.remove(text) -/
namespace L2
open PySem PySem.Spec PyProof.Rows
section
variable {X : Cx}
end
end L2
namespace Fx
open PySem PySem.Spec PyProof.Rows L2
variable {X : Cx} {W : WX}
end Fx

/-! Fx: {} that stands by itself and is never written; lists of unlike length -/
namespace L2
open PySem PySem.Spec PyProof.Rows
section
variable {X : Cx}
end
end L2
namespace Fx
open PySem PySem.Spec L2
variable {X : Cx} {W : WX}
end Fx

/-! Fx: a new dict that is walked at once; a dict != {} -/
namespace L2
open PySem PySem.Spec PyProof.Rows
section
variable {X : Cx}
end
end L2
namespace Fx
open PySem PySem.Spec L2
variable {X : Cx} {W : WX}
/-! ### for k in d, d new and known to no one else -/
/-! ### d != {} -/
end Fx

/-! Fx: all(list of truths), any(list of truths); list.pop(i), i from nought on -/
namespace Fx
open PySem PySem.Spec PyProof.Rows L2
variable {X : Cx} {W : WX}
/-! list.pop(i) -/
end Fx

/-! Fx: two except clauses, the first with a name -/
namespace L2
open PySem PySem.Spec PyProof.Rows
section
variable {X : Cx} {x n x2 : Str} {c c2 : Value} {i : Nat} {body suite suite2 : List Stmt} {b₀ b₁ : Stmt} {np pos pos' np2 pos2 : Pos} {tb : WX → TS} {ts ts2 : Addr → Value → Option Addr → TS} {Wout : WX}
end
end L2
namespace Fx
open PySem PySem.Spec PyProof.Rows L2
section
variable {X : Cx} {W : WX} {Wout : L2.WX} {body : List Stmt} {f : M Out} {T n y T2 : Str} {tab tab2 : List (Str × Bool)} {i j : Nat} {ex : Expr} {v : Ex → S → Option D} {np p' p2 pos pos' np2 pos2 : Pos} {b₁ : Stmt} {suite2 : List Stmt} {su2 : M Out}
end
/-! ### equations -/
section
variable {s : S} {e : Ex} {o : Out} {tab tab2 : List (Str × Bool)} {su : Ex → M Out} {su2 f : M Out}
end
end Fx

/-! Fx: an error that is kept behind its try -/
namespace L2K
open PySem PySem.Spec PyProof.Rows L2
section
variable {pins : List (Addr × Obj)} {X : Cx} {σ : L2.St} {H : Hp} {s : Shared}
/-- an object that stands in the heap, and that nobody tracks, is tracked from here on -/
theorem track {ad : Addr} {eo : Obj} {fs : Array Value} {φ : Heap → Prop} (J : Inv X pins σ H s) (hget : s.heap.get? ad = some eo) (hdat : eo.data = .fields fs) (hno : H ad = none) (hL : ad ≠ X.env.locals) (hnew : X.s_0.heap.get? ad = none)
    (hpin : ∀ q ∈ X.pn ++ pins, q.1 ≠ ad) (ok : ObjOk X.prog X.w (upd H ad (.ext φ)) s.heap ad (.ext φ)) : Inv X pins σ (upd H ad (.ext φ)) s := by
  have away : ∀ {b : Addr} {u : HO}, H b = some u → upd H ad (.ext φ) b = some u := fun {b u} q => (upd_ne (ne_of_none q hno)).trans q
  have un : Un X.fs X.ex X.H_0 (upd H ad (.ext φ)) X.s_0.heap s.heap := by
    have B := J.base
    constructor
    · exact B.keep
    · exact B.slot
    · intro b u q n z
      have hb : b ≠ ad := fun t => by
        subst t
        rw [hnew] at q
        cases q
      exact (upd_ne hb).trans (B.free b u q n z)
    · exact B.there
    · exact fun b xs q => away (B.tups b xs q)
    · exact fun b o u q => away (B.frzs b o u q)
    · intro b ps q
      obtain ⟨m, z⟩ := B.tbls b ps q
      exact ⟨m, away z⟩
  refine ⟨J.ok, J.os, J.bare, un, J.loc, J.cell, (upd_ne hL.symm).trans J.free, fun x c q => ?_, fun q hq => ?_, J.hok.laidN (fun _ _ z => z) hno ok, J.len⟩
  · have hb : c ≠ ad := fun t => by
      obtain ⟨v, ob, h1, h2⟩ := J.cell x c q
      rw [t, hget] at h1
      cases h1
      rw [hdat] at h2
      cases h2
    exact (upd_ne hb).trans (J.freeC x c q)
  · obtain ⟨z1, z2, z3, z4, z5⟩ := J.pin q hq
    exact ⟨z1, (upd_ne (hpin q hq)).trans z2, z3, z4, z5⟩
end
/-- what is wished of an error in the air, where the clause keeps it in the slot j -/
def wKeep (K : PySem.W.Frag) (c : Value) (i j : Nat) (Wout : L2.WX) (D : Ends) : L2.WX := fun cls d σ H =>
  ∃ b, PySem.W.exmOne K cls c = some b ∧ (b = true → ∀ ad, H ad = none → D.nx (((σ.set i (some (.ref ad))).set j (some (.ref ad))).set i none) (upd H ad (Fx.ExK cls d ad))) ∧ (b = false → Wout cls d σ H)
/-- the clause's suite: the error goes into the slot j -/
def tKeep (i j : Nat) : TS := fun D σ H => ∃ v, σ[i]? = some (some v) ∧ D.nx (σ.set j (some v)) H
section
variable {X : Cx} {x n : Str} {c : Value} {i j : Nat} {body su : List Stmt} {su0 : Stmt} {np pos hpos : Pos} {tb : L2.WX → TS} {Wout : L2.WX}
theorem ps_try_keep (hst : X.stack = X.env :: X.outer) (hfm : X.env.frame = some X.env.locals) (hex : X.ex = []) (hnd : X.N.Nodup) (hat : X.N[i]? = some n) (hloc : X.env.kindOf n = some .local) (hnm : Names X x c) (tk : L2.Takes X Wout)
    (hbody : ∀ (W : L2.WX) (pn : List (Addr × Obj)) (xe : Value → Shared → Prop), L2.Takes (X.tr pn xe) W → PassesOwn (model X.prog X.w) X.A X.env xe → PSs (X.tr pn xe) body (tb W))
    (hsuite : ∀ (ad : Addr) (eo : Obj) (pn : List (Addr × Obj)), PSs (X.suite ad ((ad, eo) :: pn)) (su0 :: su) (tKeep i j)) :
    PS X (.Try body [.ExceptHandler (some (.Name x np)) (some n) (su0 :: su) hpos] [] [] pos) fun D σ H => tb (wKeep X.K c i j Wout D) D σ H := by
  constructor
  intro pins st τ H0 D I0 hpre
  have hall := I0.ok
  have frames : X.A.frames = some (X.env :: X.outer) := hall.frames.trans (congrArg some hst)
  have stepOut : L2.Takes (X.tr (X.pn ++ pins) fun e s₁ => wpAny (model X.prog X.w) X.A (noteFrame e X.env) (fun _ s₂ => wpAny (model X.prog X.w) X.A (setFlight e none) (fun _ s₃ =>
      wpAny (model X.prog X.w) X.A (handleBy e X.env [.ExceptHandler (some (.Name x np)) (some n) (su0 :: su) hpos]) (SP X pins D) X.xe s₃) X.xe s₂) X.xe s₁) (wKeep X.K c i j Wout D) := by
    intro u air hair
    obtain ⟨ad, Gr, cut, pins1, τ1, H1, cls, d, hu, J0, ground, slots, sky, adNo, osEq, bare, b, hexm, caught, missed⟩ := hair
    subst hu
    have J1 : Inv X pins τ1 H1 cut := J0.ofTry hall
    have sky1 : Sky Gr (X.env :: X.outer) ad (Zc cls d) X.env.locals air.heap := by
      rw [← hst]
      exact sky
    show wpAny (model X.prog X.w) X.A (noteFrame (.ref ad) X.env) _ _ _
    refine Sky.land Zc.steady frames hfm sky1 fun heapA flyA upA => ?_
    have JA : Inv X pins τ1 H1 { air with heap := heapA } := J1.landed ground flyA.1 (slots.trans upA) osEq bare
    obtain ⟨eoA, fsA, getA, zA, datA⟩ := flyA.there
    -- the error is none of the frames
    have offFrames : ad ∉ frs (X.env :: X.outer) := by
      intro hm
      obtain ⟨_, ob, q, hnf⟩ := flyA.2.2.1.mem hm
      rw [getA] at q
      cases q
      exact hnf _ datA
    have offLocals : ad ≠ X.env.locals := fun z => offFrames (List.mem_filterMap.mpr ⟨X.env, List.mem_cons_self, hfm.trans (congrArg some z.symm)⟩)
    have offFs : ad ∉ X.fs := by
      intro hm
      obtain ⟨en, hen, q⟩ := List.mem_filterMap.mp hm
      exact offFrames (List.mem_filterMap.mpr ⟨en, List.mem_cons_of_mem _ hen, q⟩)
    -- it was not there before
    have notCut : cut.heap.get? ad = none := by
      cases q : cut.heap.get? ad with
      | none => rfl
      | some ob =>
        have z := ground ad ob q (by rw [hst]; exact offFrames)
        rw [flyA.2.1] at z
        cases z
    have notOld : X.s_0.heap.get? ad = none := by
      cases q : X.s_0.heap.get? ad with
      | none => rfl
      | some ob =>
        obtain ⟨ob2, z⟩ := J1.base.there ad ob q (by rw [hex]; exact List.not_mem_nil)
        rw [notCut] at z
        cases z
    have notPin : ∀ q ∈ X.pn ++ pins, q.1 ≠ ad := fun q hq z => by
      have := (J1.pin q hq).1
      rw [z, notCut] at this
      cases this
    have SA := JA.suite getA datA adNo offLocals offFs
    refine wpAny_handleBy_cons (codeAny_handlers_test ?_) (fun z => nomatch z)
    have looks : PySem.W.Looks (model X.prog X.w) heapA (typeOf (.ref ad)) cls := fun _ _ _ _ kk q => wpAny_typeOf_ref (kk _ _ getA) (by rw [zA.1]; exact q)
    have named : ∀ {Q E : Value → Shared → Prop}, Q c { air with heap := heapA } → wpAny (model X.prog X.w) (X.A.mark (some (.ref ad))) (eval (.Name x np) X.env) Q E { air with heap := heapA } := by
      intro Q E q
      rcases hnm with ⟨g1, g2, g3 | ⟨g3, g4, g5⟩⟩
      · exact ld_glob (X := X.suite ad ((ad, eoA) :: (X.pn ++ pins))) SA g1 g3 q g2
      · exact ld_blt (X := X.suite ad ((ad, eoA) :: (X.pn ++ pins))) SA g1 g3 g4 q g5 g2
    refine named ((PySem.W.exm_one (M := model X.prog X.w) JA.kIn looks hexm).here ?_)
    cases b with
    | false =>
      show wpAny _ X.A (handleBy (.ref ad) X.env []) _ _ _
      refine wpAny_handleBy_nil ?_
      obtain ⟨_, _, _, eo, fs, tr, _, _, q1, _, q2, q3, _⟩ := id flyA
      unfold PySem.passOn
      refine wpAny_bind (wpAny_field q1 q2 q3 ?_)
      rw [if_neg (show ¬ ((Value.ref tr == Value.none) = true) by simp)]
      have go : wpAny (model X.prog X.w) X.A (setFlight (.ref ad) X.env.frame) (fun _ s4 => wpAny (model X.prog X.w) X.A (throw (.ref ad) : Sem Flow) (SP X pins D) X.xe s4) X.xe { air with heap := heapA } := by
        rw [hfm]
        refine HandSPX.setFlight_upZ flyA fun heapB heldB upB => wpAny_throw (tk _ _ ?_)
        exact ⟨ad, Gr, cut, pins, τ1, H1, cls, d, rfl, J1, ground, (slots.trans upA).trans upB, .inr (.inr (hst ▸ heldB)), adNo, osEq, bare, missed rfl⟩
      first
        | exact wpAny_bind go
        | exact wpAny_bind (wpAny_pure (wpAny_bind go))
    | true =>
      refine codeAny_handlers_suite_as (HandSPX.lands_againZ flyA fun heapB flyB upB => ?_)
      obtain ⟨eoB, fsB, getB, zB, datB⟩ := flyB.there
      have SB := (J1.landed ground flyB.1 ((slots.trans upA).trans upB) osEq bare : Inv X pins τ1 H1 { air with heap := heapB }).suite getB datB adNo offLocals offFs
      refine store_ok (X := X.suite ad ((ad, eoB) :: (X.pn ++ pins))) (v := .ref ad) SB hnd hat (.inl hloc) rfl (fun sC SC => ?_) (.inr hloc)
      let DD : Ends := { nx := fun σ6 H6 => σ6 = (τ1.set i (some (.ref ad))).set j (some (.ref ad)) ∧ H6 = H1, rt := fun _ _ => False, bk := fun _ _ => False, ct := fun _ _ => False }
      have hil : i < τ1.length := by
        rw [J1.len]
        exact (List.getElem?_eq_some_iff.mp hat).1
      refine wpAny_mono ((hsuite ad eoB (X.pn ++ pins)).run [] sC _ H1 DD SC ⟨.ref ad, List.getElem?_set_self hil, rfl, rfl⟩) (fun fl s6 post => ?_) (fun _ _ z => z.elim)
      cases fl with
      | next =>
        obtain ⟨σ6, H6, S6, e1, e2⟩ := post
        subst e1 e2
        obtain ⟨p1, p2, p3, p4, p5⟩ := S6.pin (ad, eoB) (List.mem_append_left _ List.mem_cons_self)
        have JK : Inv X pins ((τ1.set i (some (.ref ad))).set j (some (.ref ad))) (upd H6 ad (Fx.ExK cls d ad)) s6 := track (S6.unsuite hall) p1 datB adNo offLocals notOld notPin
          ⟨⟨eoB, fsB, p1, zB.1, zB.2, datB⟩, ⟨eoB, p1⟩, fun _ _ ⟨o, v, q, r⟩ kk => ⟨o, v, kk o q, r⟩⟩
        exact gone_ok JK hnd hat hloc fun s7 J7 => ⟨_, _, J7, caught rfl ad adNo⟩
      | brk =>
        obtain ⟨_, _, _, z⟩ := post
        exact z.elim
      | cont =>
        obtain ⟨_, _, _, z⟩ := post
        exact z.elim
      | ret u =>
        obtain ⟨_, _, _, _, _, z⟩ := post
        exact z.elim
  refine wpAny_Try_except (wpAny_mono ((hbody _ (X.pn ++ pins) _ stepOut PassesOwn.looking).run [] st τ H0 D (I0.toTry _) hpre) (fun fl sE post => ?_) fun _ _ z => z)
  cases fl with
  | next =>
    obtain ⟨τ2, H2, J2, q⟩ := post
    exact wpAny_execs_nil ⟨τ2, H2, J2.ofTry hall, q⟩
  | brk =>
    obtain ⟨τ2, H2, J2, q⟩ := post
    exact ⟨τ2, H2, J2.ofTry hall, q⟩
  | cont =>
    obtain ⟨τ2, H2, J2, q⟩ := post
    exact ⟨τ2, H2, J2.ofTry hall, q⟩
  | ret u =>
    obtain ⟨vv, τ2, H2, J2, r, q⟩ := post
    exact ⟨vv, τ2, H2, J2.ofTry hall, r, q⟩
end
end L2K
namespace Fx
open PySem PySem.Spec PyProof.Rows L2
/-! ### the readings of a kept error -/
section
variable {K : PySem.W.Frag}
theorem RepF.split {w : Wd} : ∀ {vs : List (Str × V)} {fs : List (Str × D)}, RepF K w vs fs → (fs.map (·.1)).zip (vs.map (·.2)) = vs ∧ RepL K w (vs.map (·.2)) (fs.map (·.2)) ∧ (fs.map (·.1)).length = (vs.map (·.2)).length
  | _, _, .nil => ⟨rfl, .nil, rfl⟩
  | _, _, .cons (k := k) (v := v) h t => by
    obtain ⟨a, b, c⟩ := t.split
    refine ⟨?_, .cons h b, congrArg (· + 1) c⟩
    rw [List.map_cons, List.map_cons, List.zip_cons_cons, a]
theorem RepL.zipL {w : Wd} {f : Str} {d : D} : ∀ {ks : List Str} {vs : List V} {ds : List D}, RepL K w vs ds → (ks.zip ds).lookup f = some d → ∃ v, (ks.zip vs).lookup f = some v ∧ Rep K w v d
  | [], _, _, _, e => by cases e
  | _ :: _, _, _, .nil, e => by cases e
  | k :: ks, _, _, .cons (v := v) (d := d') (vs := vs) (ds := ds) h t, e => by
    have e : ((k, d') :: ks.zip ds).lookup f = some d := e
    show ∃ u, ((k, v) :: ks.zip vs).lookup f = some u ∧ _
    rw [List.lookup_cons] at e ⊢
    by_cases q : f = k
    · subst q
      rw [beq_self_eq_true] at e ⊢
      cases e
      exact ⟨v, rfl, h⟩
    · rw [beq_eq_false_iff_ne.mpr q] at e ⊢
      exact RepL.zipL t e
end
/-- a class of errors, as the top names it -/
structure XcK (K : PySem.W.Frag) (mg : Str → Option Value) (x : Str) : Prop where
  ex : ∃ C, mg x = some (.ref C) ∧ PySem.W.nsIn K mainGlobals x = some (some (.ref C))
theorem xcK_mk {K : PySem.W.Frag} {mg : Str → Option Value} {h : Heap} (X : K.In h) (G : h.Ns mainGlobals mg) {x : Str} {C : Addr} (a : PySem.W.nsIn K mainGlobals x = some (some (.ref C))) : XcK K mg x := ⟨C, PySem.W.mg_of X G a, a⟩
section
variable {X : Cx} {pins : List (Addr × Obj)} {σ : L2.St} {H : Hp} {s : Shared} {W : WX}
theorem instAt_of {a C : Addr} {d : Option Addr} (I : Inv X pins σ H s) (ha : H a = some (ExK (.ref C) d a)) (hd : d = none ∨ ∃ dd vs, d = some dd ∧ H dd = some (.xd vs)) : ∃ oe od, PySem.W.InstAt s.heap a oe C od := by
  obtain ⟨⟨oe, us, h1, h2, h3, h4⟩, _, _⟩ := (I.hok a _ ha : ObjOk X.prog X.w H s.heap a (ExK (.ref C) d a))
  refine ⟨oe, ?_⟩
  rcases hd with rfl | ⟨dd, vs, rfl, ea⟩
  · obtain ⟨oc, od, oda, osl⟩ := oe
    dsimp only at h2 h3 h4
    subst h2 h3 h4
    exact ⟨none, h1, rfl, rfl, trivial⟩
  · obtain ⟨mA, hns, _⟩ := (I.hok dd _ ea : ObjOk X.prog X.w H s.heap dd (.xd vs))
    obtain ⟨od, ho, _⟩ := lookIn_ns hns
    exact ⟨some od, h1, h2, by unfold PySem.W.notCls; rw [h4] <;> rfl, by rw [h3]; exact ho⟩
/-- isinstance of a kept error -/
def rIsE (K : PySem.W.Frag) : List V → Hp → VK → Prop := fun xs H Q => ∃ (a C : Addr) (d : Option Addr) (c : V) (cv : Value) (b : Bool), xs = [.ref a, c] ∧ (∀ u, RelV c u → u = cv) ∧ ExcQ K C ∧ PySem.W.kitOne K (.ref C) cv = some b ∧ H a = some (ExK (.ref C) d a) ∧ (d = none ∨ ∃ dd vs, d = some dd ∧ H dd = some (.xd vs)) ∧ Q (.bl b) H
theorem call_isE : CallR X (.builtin "isinstance") (rIsE X.K) := by
  intro pins s σ H xs vals Q I r h
  obtain ⟨a, C, d, c, cv, b, rfl, hcv, T, e, ha, hd, q⟩ := h
  cases r with
  | cons rx rr =>
    cases rr with
    | cons rt rr =>
      cases rr
      cases rx
      have ec := hcv _ rt
      subst ec
      obtain ⟨oe, od, J⟩ := instAt_of I ha hd
      exact PySem.W.kia_one (PySem.W.kitx_exc T.cl T.hg T.hk T.hs T.ha T.hn T.ht T.hm) I.kIn J e (fun z => nomatch z) fun tk => ⟨.bl b, H, I.kept (t' := tk) fun _ _ z => z, rfl, q⟩
/-- .. asked for a tuple of classes -/
def rIsET (K : PySem.W.Frag) : List V → Hp → VK → Prop := fun xs H Q => ∃ (a C tp : Addr) (d : Option Addr) (cs : List V) (ws : List Value) (b : Bool), xs = [.ref a, .ref tp] ∧ H tp = some (.tup cs) ∧ Paired ClsV cs ws ∧ ExcQ K C ∧ PySem.W.kitAny K (.ref C) ws = some b ∧ H a = some (ExK (.ref C) d a) ∧ (d = none ∨ ∃ dd vs, d = some dd ∧ H dd = some (.xd vs)) ∧ Q (.bl b) H
theorem call_isET : CallR X (.builtin "isinstance") (rIsET X.K) := by
  intro pins s σ H xs vals Q I r h
  obtain ⟨a, C, tp, d, cs, ws, b, rfl, hT, k, T, e, ha, hd, q⟩ := h
  cases r with
  | cons rx rr =>
    cases rr with
    | cons rt rr =>
      cases rr
      cases rx
      cases rt
      obtain ⟨oe, od, J⟩ := instAt_of I ha hd
      obtain ⟨_, its, rv, o, q1, q2, n, q3⟩ := (I.hok tp _ hT : ObjOk X.prog X.w H s.heap tp (.tup cs))
      have e3 := ClsV.all k rv
      subst e3
      obtain ⟨oc, od', dt, sl⟩ := o
      dsimp only at q2 q3
      subst q2 q3
      exact PySem.W.kia_tup (PySem.W.kitx_exc T.cl T.hg T.hk T.hs T.ha T.hn T.ht T.hm) I.kIn J q1 e (fun z => nomatch z) fun tk => ⟨.bl b, H, I.kept (t' := tk) fun _ _ z => z, rfl, q⟩
/-- e.f of a kept error -/
def tXE (K : PySem.W.Frag) (f : Str) (te : TE) : TE := fun σ H Q => te σ H fun x H1 => ∃ (a C dd : Addr) (fs : List (Str × V)) (v : V), x = .ref a ∧ H1 a = some (ExK (.ref C) (some dd) a) ∧ XfC K C ∧ PySem.W.findIn K (.ref C) f = some none ∧ H1 dd = some (.xd fs) ∧ fs.lookup f = some v ∧ Q v H1
theorem pe_xE {e : Expr} {te : TE} {pos : Pos} {f : Str} (he : PE X e te) (hb : attributeBase e f X.env (eval e X.env) = eval e X.env := by rfl) : PE X (.Attribute e f pos) (tXE X.K f te) := by
  constructor
  intro pins s σ H Q I h
  refine attr_of hb (thn (he.run pins s σ H _ I h) fun u s1 got => ?_)
  obtain ⟨x, H1, I1, rx, a, C, dd, fs, v, ex, ha, T, hno, ea, l, q⟩ := got
  subst ex
  cases rx
  obtain ⟨⟨oe, us, h1, h2, h3, h4⟩, _, _⟩ := (I1.hok a _ ha : ObjOk X.prog X.w H1 s1.heap a (ExK (.ref C) (some dd) a))
  obtain ⟨mA, hns, hr⟩ := (I1.hok dd _ ea : ObjOk X.prog X.w H1 s1.heap dd (.xd fs))
  obtain ⟨od, ho, hlk⟩ := lookIn_ns hns
  obtain ⟨u, hu, ru⟩ := RelO.some_of (v := v) (o := mA f) (l ▸ hr f)
  have J : PySem.W.InstAt s1.heap a oe C (some od) := ⟨h1, h2, by unfold PySem.W.notCls; rw [h4] <;> rfl, by rw [h3]; exact ho⟩
  have own := PySem.W.findObj_own (K := X.K) (C := C) (name := f) T.hdC hno rfl (by rw [hlk, hu])
  exact HandSPX.exc_get I1.kIn J T.ga T.gg T.exC own (handed_of ru) ⟨v, H1, I1.tok _, ru, q⟩
end
/-! ### the functions on data -/
def errD (e : Ex) : D := .err e.cls (e.fs.map (·.1)) (e.fs.map (·.2))
def suK (i j : Nat) (e : Ex) : M Out := fun s => if i < s.loc.length then .ok .nx ⟨(s.loc.set i none).set j (some (errD e)), s.vh⟩ else .bad
def isE (tab : List (Str × Bool)) (d : D) : M D := match d with
  | .err x _ _ => (match tab.lookup x with
    | some b => ret (.bl b)
    | none => fail)
  | _ => fail
def fldE (tab : List (Str × Bool)) (f : Str) (d : D) : M D := match d with
  | .err x ks ds => if (tab.lookup x).isSome = true then (match (ks.zip ds).lookup f with
    | some v => ret v
    | none => fail) else fail
  | _ => fail
section
variable {X : Cx} {W : WX} {Wout : L2.WX} {body : List Stmt} {f : M Out} {T n y : Str} {tab : List (Str × Bool)} {i j : Nat} {np p' p2 p3 pos pos' : Pos}
theorem ds_try_keep (hW : OutW X.K X.mg W Wout) (tk : L2.Takes X Wout) (hT : Tab (fun x b => XcP X.K X.mg x T b) tab) (hK : Tab (fun x _ => XcK X.K X.mg x) tab) (hTn : ∃ C, X.mg T = some (.ref C)) (hij : i ≠ j)
    (hb : ∀ (W' : L2.WX) (pn : List (Addr × Obj)) (xe : Value → Shared → Prop), L2.Takes (X.tr pn xe) W' → PassesOwn (model X.prog X.w) X.A X.env xe → DSs (X.tr pn xe) (LW X.K X.mg W') body f)
    (hN : X.N.Nodup) (hs : X.stack = X.env :: X.outer := by rfl) (hf : X.env.frame = some X.env.locals := by rfl) (hex : X.ex = [] := by rfl) (hi : X.N[i]? = some n := by rfl) (hln : X.env.kindOf n = some .local := by rfl) (hg : Gl X T := by rfl) (hdT : (T == ("__debug__" : Str)) = false := by decide)
    (hv : Vis X.env.scope n := by first | exact Or.inl rfl | exact Or.inr (Or.inl rfl) | exact Or.inr (Or.inr rfl)) (hd : (n == ("__debug__" : Str)) = false := by decide) (hcd : (n == ("__classdict__" : Str)) = false := by decide)
    (hj : X.N[j]? = some y := by rfl) (hx : Loc X.env.scope y := by first | exact Or.inl rfl | exact Or.inr rfl) (hf2 : X.fn y = true ∨ X.env.scope.names.lookup y = some .local := by first | exact .inl rfl | exact .inr rfl) (hsw : swapsWith (.Name n p3) (some (.Name y p')) p2.line X.env = pure false := by rfl) :
    DS X W (.Try body [.ExceptHandler (some (.Name T np)) (some n) [.Assign [.Name y p'] (.Name n p3) p2] pos'] [] [] pos) (tryM f tab (suK i j)) := by
  obtain ⟨CT, hCT⟩ := hTn
  let tF : L2.WX → TS := fun W' D σ H => ∃ w s, RS X.K w H σ s ∧ PostS X.K (LW X.K X.mg W') w H (f s) D
  refine ⟨_, L2K.ps_try_keep (tb := tF) (c := .ref CT) (i := i) (j := j) hs hf hex hN hi hln ⟨hg, hdT, .inl hCT⟩ tk (fun W' pn xe t po => ?_) (fun a oe pn => ?_), fun w H σ s D R z => ?_⟩
  · obtain ⟨t2, p, r⟩ := hb W' pn xe t po
    exact ⟨fun pins s σ H D I ⟨w, z, R, P⟩ => p.run pins s σ H D I (r w H σ z D R P)⟩
  · exact ⟨fun pins s σ H D I ⟨v, h1, h2⟩ => (pss_one (ps_set (X := X.suite a ((a, oe) :: pn)) (i := j) hN hj hx (pe_var (X := X.suite a ((a, oe) :: pn)) (i := i) hi hv hd hcd) hsw hf2)).run pins s σ H D I ⟨v, h1, h2⟩⟩
  · refine ⟨w, s, R, ?_⟩
    unfold tryM at z
    cases hfs : f s with
    | bad => rw [hfs] at z; exact z.elim
    | ok o s1 => rw [hfs] at z; cases o <;> exact z
    | exc e s1 =>
      rw [hfs] at z
      dsimp only at z
      intro w' H' σ' l R' C hC
      cases ht : tab.lookup e.cls with
      | none => rw [ht] at z; exact z.elim
      | some b =>
        rw [ht] at z
        obtain ⟨C2, CT2, c1, c2, hexm⟩ := (hT.at ht).ex
        rw [hC] at c1; cases c1
        rw [hCT] at c2; cases c2
        obtain ⟨C3, c3, hns⟩ := (hK.at ht).ex
        rw [hC] at c3; cases c3
        cases b with
        | false =>
          have := hW e w' H' σ' C hC (z w' H' σ' l R')
          exact ⟨fun h0 => ⟨false, hexm, (fun h => nomatch h), fun _ => this.1 h0⟩, fun h0 d vs hd rf => ⟨false, hexm, (fun h => nomatch h), fun _ => this.2 h0 d vs hd rf⟩⟩
        | true =>
          dsimp only at z
          unfold suK at z
          by_cases hil0 : i < s1.loc.length
          rotate_left
          · rw [if_neg hil0] at z; exact z.elim
          rw [if_pos hil0] at z
          have key : ∀ (w2 : Wd) (H2 : Hp) (d : Option Addr) (a : Addr) (vs : List V), Le w H w2 H2 → RS X.K w2 H2 σ' s1 → ((e.fs.map (·.1) = [] ∧ vs = [] ∧ d = none) ∨ ∃ dd, d = some dd ∧ w2.F dd = some (.xd ((e.fs.map (·.1)).zip vs)) ∧ (e.fs.map (·.1)).length = vs.length) → RepL X.K w2 vs (e.fs.map (·.2)) → H2 a = none →
              D.nx (((σ'.set i (some (.ref a))).set j (some (.ref a))).set i none) (upd H2 a (ExK (.ref C) d a)) := fun w2 H2 d a vs l2 R2 hx rl ha => by
            have fr := R2.fresh ha
            have ll := Le.lay (w := w2) (o := ExK (.ref C) d a) ha fr.1
            have RL := R2.lay (o := ExK (.ref C) d a) ha
            have ru : Rep X.K (w2.frz a (ExK (.ref C) d a)) (.ref a) (errD e) := .err ⟨C, d, hns, upd_same, hx.imp id fun ⟨dd, q1, q2, q3⟩ => ⟨dd, q1, ll.le.2 _ _ q2, q3⟩⟩ (rl.upW ll.le)
            have R3 : RS X.K (w2.frz a (ExK (.ref C) d a)) (upd H2 a (ExK (.ref C) d a)) (σ'.set i (some (.ref a))) ⟨s1.loc.set i none, s1.vh⟩ := RL.other (l := s1.loc.set i none) (by rw [List.length_set, List.length_set]; exact RL.len) fun k dd hk => by
              by_cases hik : k = i
              · subst hik
                rw [List.getElem?_set_self'] at hk
                cases h5 : s1.loc[k]? with
                | none => rw [h5] at hk; cases hk
                | some _ => rw [h5] at hk; cases hk
              · rw [List.getElem?_set_ne (fun z => hik z.symm)] at hk
                rw [List.getElem?_set_ne (fun z => hik z.symm)]
                exact RL.loc k dd hk
            have R5 := R3.set (i := j) ru
            refine z _ _ _ (l2.trans ll) (R5.other (l := (s1.loc.set i none).set j (some (errD e))) (by rw [List.length_set]; exact R5.len) fun k dd hk => ?_)
            by_cases hik : k = i
            · subst hik
              rw [List.getElem?_set_ne (fun z => hij z.symm), List.getElem?_set_self'] at hk
              cases h5 : s1.loc[k]? with
              | none => rw [h5] at hk; cases hk
              | some _ => rw [h5] at hk; cases hk
            · rw [List.getElem?_set_ne (fun z => hik z.symm)]
              exact R5.loc k dd hk
          refine ⟨fun h0 => ⟨true, hexm, fun _ a ha => key w' H' none a [] l R' (.inl ⟨by rw [h0]; rfl, rfl, rfl⟩) (by rw [h0]; exact .nil) ha, fun h => nomatch h⟩, fun h0 d vs hd rf => ⟨true, hexm, fun _ a ha => ?_, fun h => nomatch h⟩⟩
          have fr := R'.fresh hd
          have ll := Le.lay (w := w') (o := .xd vs) hd fr.1
          obtain ⟨q1, q2, q3⟩ := (rf.upW ll.le).split
          exact key _ _ (some d) a (vs.map (·.2)) (l.trans ll) (R'.lay hd) (.inr ⟨d, rfl, by rw [q1]; exact upd_same, q3⟩) q2 ha
end
section
variable {X : Cx} {W : WX} {T U V' : Str} {e : Expr} {f : M D} {tab tab2 tab3 : List (Str × Bool)} {p pa pb pc tpos pos : Pos} {kk : Nat}
theorem errAt_in {K : PySem.W.Frag} {F H : Hp} (sub : ∀ a o, F a = some o → H a = some o) {a : Addr} {x : Str} {ks : List Str} {vs : List V} {C : Addr} (h : ErrAt K F a x ks vs) (hC : PySem.W.nsIn K mainGlobals x = some (some (.ref C))) : ∃ d, H a = some (ExK (.ref C) d a) ∧ (d = none ∨ ∃ dd us, d = some dd ∧ H dd = some (.xd us)) ∧ ∀ f u, (ks.zip vs).lookup f = some u → ∃ dd, d = some dd ∧ H dd = some (.xd (ks.zip vs)) := by
  obtain ⟨C', d, h1, h2, h3⟩ := h
  rw [hC] at h1
  cases h1
  refine ⟨d, sub _ _ h2, ?_, fun f u z => ?_⟩
  · rcases h3 with ⟨_, _, h⟩ | ⟨dd, q1, q2, _⟩
    · exact .inl h
    · exact .inr ⟨dd, _, q1, sub _ _ q2⟩
  · rcases h3 with ⟨h, _, _⟩ | ⟨dd, q1, q2, _⟩
    · rw [h] at z; cases z
    · exact ⟨dd, q1, sub _ _ q2⟩
theorem de_isE (hT : Tab (fun x b => XcI X.K X.mg x T b) tab) (hK : Tab (fun x _ => XcK X.K X.mg x) tab) (hTn : ∃ CT, X.mg T = some (.ref CT)) (hi : X.mg "isinstance" = none) (h : DE X W e f) (hg : Gl X "isinstance" := by rfl) (hg2 : Gl X T := by rfl) (hd : (T == ("__debug__" : Str)) = false := by decide)
    (hst : starEach [e, .Name T pa] X.env = (false, eval e X.env) :: starEach [.Name T pa] X.env := by rfl) (hst2 : starEach [.Name T pa] X.env = (false, eval (.Name T pa) X.env) :: starEach [] X.env := by rfl)
    (hpl : (backTo pos (starEach [.Name T pa] X.env)).any (·.1) = false := by rfl) :
    DE X W (.Call (.Name "isinstance" p) [e, .Name T pa] [] pos) (bnd f (isE tab)) := by
  obtain ⟨CT, hm⟩ := hTn
  obtain ⟨t, q, k⟩ := h
  refine ⟨_, pe_callB call_isE hg hi (by decide +kernel) (pa_cons q (pa_cons (pe_glob (v := .ref CT) hg2 hm rfl hd) pa_nil hst2) hst) (by decide) (by decide) hst hpl, fun w H σ s Q R z => ?_⟩
  refine k.bnd R z fun d s1 w1 H1 v l1 R1 r1 p1 => ?_
  unfold isE at p1
  cases r1 with
  | @err a x ks vs ds hE _ =>
    dsimp only at p1
    cases ht : tab.lookup x with
    | none => rw [ht] at p1; exact p1.elim
    | some b =>
      rw [ht] at p1
      obtain ⟨C, CT2, c1, c2, TQ, hk⟩ := (hT.at ht).ex
      rw [hm] at c2
      cases c2
      obtain ⟨C2, c3, hns⟩ := (hK.at ht).ex
      rw [c1] at c3
      cases c3
      obtain ⟨d, e1, e2, _⟩ := errAt_in R1.sub hE hns
      exact ⟨a, C, d, .ref CT, .ref CT, b, rfl, fun _ h => h, TQ, hk, e1, e2, Post.here p1 R1 (Rep.bl _)⟩
  | _ => exact p1.elim
/-- .. a class of the language -/
theorem de_isEB {T : String} (hT : Tab (fun x b => XcB X.K X.mg x T b) tab) (hK : Tab (fun x _ => XcK X.K X.mg x) tab) (hi : X.mg "isinstance" = none) (hm : X.mg (Str.ofString T) = none) (hv0 : bootBuiltins (Str.ofString T) = some (.type T)) (h : DE X W e f) (hg : Gl X "isinstance" := by rfl) (hg2 : Gl X (Str.ofString T) := by rfl) (hn : Str.ofString T ≠ "__name__" := by decide) (hd : (Str.ofString T == ("__debug__" : Str)) = false := by decide)
    (hst : starEach [e, .Name (Str.ofString T) pa] X.env = (false, eval e X.env) :: starEach [.Name (Str.ofString T) pa] X.env := by rfl) (hst2 : starEach [.Name (Str.ofString T) pa] X.env = (false, eval (.Name (Str.ofString T) pa) X.env) :: starEach [] X.env := by rfl)
    (hpl : (backTo pos (starEach [.Name (Str.ofString T) pa] X.env)).any (·.1) = false := by rfl) :
    DE X W (.Call (.Name "isinstance" p) [e, .Name (Str.ofString T) pa] [] pos) (bnd f (isE tab)) := by
  obtain ⟨t, q, k⟩ := h
  refine ⟨_, pe_callB call_isE hg hi (by decide +kernel) (pa_cons q (pa_cons (pe_bltn (v := .ty T) hg2 hm hv0 rfl hn hd) pa_nil hst2) hst) (by decide) (by decide) hst hpl, fun w H σ s Q R z => ?_⟩
  refine k.bnd R z fun d s1 w1 H1 v l1 R1 r1 p1 => ?_
  unfold isE at p1
  cases r1 with
  | @err a x ks vs ds hE _ =>
    dsimp only at p1
    cases ht : tab.lookup x with
    | none => rw [ht] at p1; exact p1.elim
    | some b =>
      rw [ht] at p1
      obtain ⟨C, c1, TQ, hk⟩ := (hT.at ht).ex
      obtain ⟨C2, c3, hns⟩ := (hK.at ht).ex
      rw [c1] at c3
      cases c3
      obtain ⟨d, e1, e2, _⟩ := errAt_in R1.sub hE hns
      exact ⟨a, C, d, (.ty T : V), (.type T : Value), b, rfl, fun _ h => h, TQ, hk, e1, e2, Post.here p1 R1 (Rep.bl _)⟩
  | _ => exact p1.elim
/-- a tuple of classes: the tables of each -/
def mapT : List (List (Str × Bool)) → Str → Option (List Bool)
  | [], _ => some []
  | t :: r, x => match t.lookup x, mapT r x with
    | some b, some bs => some (b :: bs)
    | _, _ => none
def isEs (ts : List (List (Str × Bool))) (d : D) : M D := match d with
  | .err x _ _ => (match mapT ts x with
    | some bs => ret (.bl (bs.any id))
    | none => fail)
  | _ => fail
theorem kitB2 {K : PySem.W.Frag} {C A B : Value} {a b : Bool} (h1 : PySem.W.kitOne K C A = some a) (h2 : PySem.W.kitOne K C B = some b) : PySem.W.kitAny K C [A, B] = some ([a, b].any id) :=
  kitAny_cons h1 (fun e => by subst e; exact kitAny_cons h2 (fun e => by subst e; rfl) fun e => by subst e; rfl) fun e => by subst e; rfl
theorem kitB3 {K : PySem.W.Frag} {C A B D' : Value} {a b d : Bool} (h1 : PySem.W.kitOne K C A = some a) (h2 : PySem.W.kitOne K C B = some b) (h3 : PySem.W.kitOne K C D' = some d) : PySem.W.kitAny K C [A, B, D'] = some ([a, b, d].any id) :=
  kitAny_cons h1 (fun e => by subst e; exact kitB2 h2 h3) fun e => by subst e; rfl
theorem de_isE2 (hT : Tab (fun x b => XcI X.K X.mg x T b) tab) (hU : Tab (fun x b => XcI X.K X.mg x U b) tab2) (hK : Tab (fun x _ => XcK X.K X.mg x) tab) (hTn : ∃ CT, X.mg T = some (.ref CT)) (hUn : ∃ CT, X.mg U = some (.ref CT)) (hi : X.mg "isinstance" = none) (h : DE X W e f) (hg : Gl X "isinstance" := by rfl)
    (hgA : Gl X T := by rfl) (hgB : Gl X U := by rfl) (hdA : (T == ("__debug__" : Str)) = false := by decide) (hdB : (U == ("__debug__" : Str)) = false := by decide)
    (hst : starEach [e, .Tuple [.Name T pa, .Name U pb] kk tpos] X.env = (false, eval e X.env) :: starEach [.Tuple [.Name T pa, .Name U pb] kk tpos] X.env := by rfl)
    (hst2 : starEach [.Tuple [.Name T pa, .Name U pb] kk tpos] X.env = (false, eval (.Tuple [.Name T pa, .Name U pb] kk tpos) X.env) :: starEach [] X.env := by rfl)
    (hst3 : starEach [.Name T pa, .Name U pb] X.env = (false, eval (.Name T pa) X.env) :: starEach [.Name U pb] X.env := by rfl) (hst4 : starEach [.Name U pb] X.env = (false, eval (.Name U pb) X.env) :: starEach [] X.env := by rfl)
    (hpl : (backTo pos (starEach [.Tuple [.Name T pa, .Name U pb] kk tpos] X.env)).any (·.1) = false := by rfl) :
    DE X W (.Call (.Name "isinstance" p) [e, .Tuple [.Name T pa, .Name U pb] kk tpos] [] pos) (bnd f (isEs [tab, tab2])) := by
  obtain ⟨CT, hm⟩ := hTn
  obtain ⟨CU, hm2⟩ := hUn
  obtain ⟨t, q, k⟩ := h
  refine ⟨_, pe_callB call_isET hg hi (by decide +kernel) (pa_cons q (pa_cons (pe_tup (pa_cons (pe_glob (v := .ref CT) hgA hm rfl hdA) (pa_cons (pe_glob (v := .ref CU) hgB hm2 rfl hdB) pa_nil hst4) hst3)) pa_nil hst2) hst) (by decide) (by decide) hst hpl, fun w H σ s Q R z => ?_⟩
  refine k.bnd R z fun d s1 w1 H1 v l1 R1 r1 p1 => ?_
  unfold isEs at p1
  cases r1 with
  | @err a x ks vs ds hE _ =>
    dsimp only [mapT] at p1
    cases ht : tab.lookup x with
    | none => rw [ht] at p1; exact p1.elim
    | some b =>
      cases hu : tab2.lookup x with
      | none => rw [ht, hu] at p1; exact p1.elim
      | some b2 =>
        rw [ht, hu] at p1
        dsimp only at p1
        obtain ⟨C, CT2, c1, c2, TQ, hk⟩ := (hT.at ht).ex
        rw [hm] at c2
        cases c2
        obtain ⟨C3, CU2, c4, c5, _, hk2⟩ := (hU.at hu).ex
        rw [hm2] at c5
        cases c5
        rw [c1] at c4
        cases c4
        obtain ⟨C2, c3, hns⟩ := (hK.at ht).ex
        rw [c1] at c3
        cases c3
        obtain ⟨d, e1, e2, _⟩ := errAt_in R1.sub hE hns
        refine ⟨by show 2 ≤ sizeLine; decide, fun tp htp => ?_⟩
        have R2 : RS X.K w1 (upd H1 tp (.tup [.ref CT, .ref CU])) σ s1 := R1.laid htp
        refine ⟨a, C, tp, d, [.ref CT, .ref CU], [.ref CT, .ref CU], _, rfl, upd_same, .cons (.own CT) (.cons (.own CU) .nil), TQ, kitB2 hk hk2, by rw [upd_ne (ne_of_none e1 htp)]; exact e1, e2.imp id fun ⟨dd, us, q1, q2⟩ => ⟨dd, us, q1, by rw [upd_ne (ne_of_none q2 htp)]; exact q2⟩, p1 w1 _ _ (Le.laid htp) R2 (Rep.bl _)⟩
  | _ => exact p1.elim
theorem de_isE3 (hT : Tab (fun x b => XcI X.K X.mg x T b) tab) (hU : Tab (fun x b => XcI X.K X.mg x U b) tab2) (hV : Tab (fun x b => XcI X.K X.mg x V' b) tab3) (hK : Tab (fun x _ => XcK X.K X.mg x) tab) (hTn : ∃ CT, X.mg T = some (.ref CT)) (hUn : ∃ CT, X.mg U = some (.ref CT)) (hVn : ∃ CT, X.mg V' = some (.ref CT)) (hi : X.mg "isinstance" = none) (h : DE X W e f) (hg : Gl X "isinstance" := by rfl)
    (hgA : Gl X T := by rfl) (hgB : Gl X U := by rfl) (hgC : Gl X V' := by rfl) (hdA : (T == ("__debug__" : Str)) = false := by decide) (hdB : (U == ("__debug__" : Str)) = false := by decide) (hdC : (V' == ("__debug__" : Str)) = false := by decide)
    (hst : starEach [e, .Tuple [.Name T pa, .Name U pb, .Name V' pc] kk tpos] X.env = (false, eval e X.env) :: starEach [.Tuple [.Name T pa, .Name U pb, .Name V' pc] kk tpos] X.env := by rfl)
    (hst2 : starEach [.Tuple [.Name T pa, .Name U pb, .Name V' pc] kk tpos] X.env = (false, eval (.Tuple [.Name T pa, .Name U pb, .Name V' pc] kk tpos) X.env) :: starEach [] X.env := by rfl)
    (hst3 : starEach [.Name T pa, .Name U pb, .Name V' pc] X.env = (false, eval (.Name T pa) X.env) :: starEach [.Name U pb, .Name V' pc] X.env := by rfl) (hst4 : starEach [.Name U pb, .Name V' pc] X.env = (false, eval (.Name U pb) X.env) :: starEach [.Name V' pc] X.env := by rfl) (hst5 : starEach [.Name V' pc] X.env = (false, eval (.Name V' pc) X.env) :: starEach [] X.env := by rfl)
    (hpl : (backTo pos (starEach [.Tuple [.Name T pa, .Name U pb, .Name V' pc] kk tpos] X.env)).any (·.1) = false := by rfl) :
    DE X W (.Call (.Name "isinstance" p) [e, .Tuple [.Name T pa, .Name U pb, .Name V' pc] kk tpos] [] pos) (bnd f (isEs [tab, tab2, tab3])) := by
  obtain ⟨CT, hm⟩ := hTn
  obtain ⟨CU, hm2⟩ := hUn
  obtain ⟨CV, hm3⟩ := hVn
  obtain ⟨t, q, k⟩ := h
  refine ⟨_, pe_callB call_isET hg hi (by decide +kernel) (pa_cons q (pa_cons (pe_tup (pa_cons (pe_glob (v := .ref CT) hgA hm rfl hdA) (pa_cons (pe_glob (v := .ref CU) hgB hm2 rfl hdB) (pa_cons (pe_glob (v := .ref CV) hgC hm3 rfl hdC) pa_nil hst5) hst4) hst3)) pa_nil hst2) hst) (by decide) (by decide) hst hpl, fun w H σ s Q R z => ?_⟩
  refine k.bnd R z fun d s1 w1 H1 v l1 R1 r1 p1 => ?_
  unfold isEs at p1
  cases r1 with
  | @err a x ks vs ds hE _ =>
    dsimp only [mapT] at p1
    cases ht : tab.lookup x with
    | none => rw [ht] at p1; exact p1.elim
    | some b =>
      cases hu : tab2.lookup x with
      | none => rw [ht, hu] at p1; exact p1.elim
      | some b2 =>
        cases hv : tab3.lookup x with
        | none => rw [ht, hu, hv] at p1; exact p1.elim
        | some b3 =>
          rw [ht, hu, hv] at p1
          dsimp only at p1
          obtain ⟨C, CT2, c1, c2, TQ, hk⟩ := (hT.at ht).ex
          rw [hm] at c2
          cases c2
          obtain ⟨C3, CU2, c4, c5, _, hk2⟩ := (hU.at hu).ex
          rw [hm2] at c5
          cases c5
          rw [c1] at c4
          cases c4
          obtain ⟨C4, CV2, c6, c7, _, hk3⟩ := (hV.at hv).ex
          rw [hm3] at c7
          cases c7
          rw [c1] at c6
          cases c6
          obtain ⟨C2, c3, hns⟩ := (hK.at ht).ex
          rw [c1] at c3
          cases c3
          obtain ⟨d, e1, e2, _⟩ := errAt_in R1.sub hE hns
          refine ⟨by show 3 ≤ sizeLine; decide, fun tp htp => ?_⟩
          have R2 : RS X.K w1 (upd H1 tp (.tup [.ref CT, .ref CU, .ref CV])) σ s1 := R1.laid htp
          refine ⟨a, C, tp, d, [.ref CT, .ref CU, .ref CV], [.ref CT, .ref CU, .ref CV], _, rfl, upd_same, .cons (.own CT) (.cons (.own CU) (.cons (.own CV) .nil)), TQ, kitB3 hk hk2 hk3, by rw [upd_ne (ne_of_none e1 htp)]; exact e1, e2.imp id fun ⟨dd, us, q1, q2⟩ => ⟨dd, us, q1, by rw [upd_ne (ne_of_none q2 htp)]; exact q2⟩, p1 w1 _ _ (Le.laid htp) R2 (Rep.bl _)⟩
  | _ => exact p1.elim
/-- e.f of a kept error -/
theorem de_fldE {fl : Str} (hF : Tab (fun x _ => XcF X.K X.mg x fl) tab) (hK : Tab (fun x _ => XcK X.K X.mg x) tab) (h : DE X W e f) (hb : attributeBase e fl X.env (eval e X.env) = eval e X.env := by rfl) : DE X W (.Attribute e fl pos) (bnd f (fldE tab fl)) := by
  obtain ⟨t, q, k⟩ := h
  refine ⟨_, pe_xE q hb, fun w H σ s Q R z => ?_⟩
  refine k.bnd R z fun d s1 w1 H1 v l1 R1 r1 p1 => ?_
  unfold fldE at p1
  cases r1 with
  | @err a x ks vs ds hE rl =>
    dsimp only at p1
    cases ht : tab.lookup x with
    | none => rw [ht] at p1; exact p1.elim
    | some b =>
      rw [ht] at p1
      have p1 : Post X.K W (pD X.K) w1 H1 σ ((match (ks.zip ds).lookup fl with
        | some v => ret v
        | none => fail : M D) s1) Q := p1
      cases hl : (ks.zip ds).lookup fl with
      | none => rw [hl] at p1; exact p1.elim
      | some y =>
        rw [hl] at p1
        obtain ⟨C, c1, TQ, hno⟩ := (hF.at ht).ex
        obtain ⟨C2, c3, hns⟩ := (hK.at ht).ex
        rw [c1] at c3
        cases c3
        obtain ⟨d, e1, e2, e3⟩ := errAt_in R1.sub hE hns
        obtain ⟨u, l2, r2⟩ := rl.zipL hl
        obtain ⟨dd, q1, q2⟩ := e3 fl u l2
        subst q1
        exact ⟨a, C, dd, _, u, rfl, e1, TQ, hno, q2, l2, Post.here p1 R1 r2⟩
  | _ => exact p1.elim
end
/-! ### equations -/
section
variable {s : S} {x : Str} {ks : List Str} {ds : List D} {tab : List (Str × Bool)} {ts : List (List (Str × Bool))} {b : Bool} {f : Str} {v : D} {bs : List Bool}
theorem x_isE (h : tab.lookup x = some b) : isE tab (.err x ks ds) s = .ok (.bl b) s := by
  unfold isE
  dsimp only
  rw [h]
  rfl
theorem x_isEs (h : mapT ts x = some bs) : isEs ts (.err x ks ds) s = .ok (.bl (bs.any id)) s := by
  unfold isEs
  dsimp only
  rw [h]
  rfl
theorem x_isEt (h : tab.lookup x = some true) : isE tab (.err x ks ds) s = .ok (.bl true) s := x_isE h
theorem x_isEf (h : tab.lookup x = some false) : isE tab (.err x ks ds) s = .ok (.bl false) s := x_isE h
theorem x_isEst (h : (mapT ts x).map (fun bs => bs.any id) = some true) : isEs ts (.err x ks ds) s = .ok (.bl true) s := by
  cases e : mapT ts x with
  | none => rw [e] at h; cases h
  | some bs =>
    rw [e] at h
    have h2 : bs.any id = _ := Option.some.inj h
    rw [x_isEs e, h2]
theorem x_isEsf (h : (mapT ts x).map (fun bs => bs.any id) = some false) : isEs ts (.err x ks ds) s = .ok (.bl false) s := by
  cases e : mapT ts x with
  | none => rw [e] at h; cases h
  | some bs =>
    rw [e] at h
    have h2 : bs.any id = _ := Option.some.inj h
    rw [x_isEs e, h2]
theorem x_suK {i j : Nat} {e : Ex} (hi : i < s.loc.length) : suK i j e s = .ok .nx ⟨(s.loc.set i none).set j (some (errD e)), s.vh⟩ := by
  unfold suK
  rw [if_pos hi]
theorem x_isErr : isM (.err x ks ds) .non s = .ok (.bl false) s := nr rfl
theorem x_isnErr : isnotM (.err x ks ds) .non s = .ok (.bl true) s := nr rfl
theorem x_fldE (h : (tab.lookup x).isSome = true) (k : (ks.zip ds).lookup f = some v) : fldE tab f (.err x ks ds) s = .ok v s := by
  unfold fldE
  dsimp only
  rw [if_pos h, k]
  rfl
end
end Fx

/-! ### the text, by gen.py -/
namespace Wktwigtable_k08_refusals
open PySem PySem.Spec PyProof.Rows L2 Fx
def topS (i : Nat) : Stmt := PySem.Challenge.pw_twigtable_k08_refusals.main.body.getD i (.Pass ⟨0, 0, 0, 0⟩)
structure Txt (K : PySem.W.Frag) (mg : Str → Option Value) : Prop where
  e0_BadKey : Xc0 K mg "BadKey"
  e0_BadValue : Xc0 K mg "BadValue"
  e0_BadWord : Xc0 K mg "BadWord"
  e0_BadElders : Xc0 K mg "BadElders"
  e0_BadText : Xc0 K mg "BadText"
  e0_BadRow : Xc0 K mg "BadRow"
  e0_Unsaved : Xc0 K mg "Unsaved"
  xk_InUse : XcK K mg "InUse"
  xk_NoName : XcK K mg "NoName"
  xk_NotBroken : XcK K mg "NotBroken"
  xk_NoMake : XcK K mg "NoMake"
  xk_NoPage : XcK K mg "NoPage"
  xk_NoClash : XcK K mg "NoClash"
  xk_ColumnThere : XcK K mg "ColumnThere"
  xk_NoColumn : XcK K mg "NoColumn"
  xk_Unfit : XcK K mg "Unfit"
  xk_NoRow : XcK K mg "NoRow"
  xk_NotRising : XcK K mg "NotRising"
  xk_Unsaved : XcK K mg "Unsaved"
  xk_BadRow : XcK K mg "BadRow"
  xk_BadText : XcK K mg "BadText"
  xk_BadElders : XcK K mg "BadElders"
  xk_BadWord : XcK K mg "BadWord"
  xk_BadValue : XcK K mg "BadValue"
  xk_BadKey : XcK K mg "BadKey"
  xn_BadElders : ∃ C, mg "BadElders" = some (.ref C)
  xn_BadWord : ∃ C, mg "BadWord" = some (.ref C)
  xn_BadValue : ∃ C, mg "BadValue" = some (.ref C)
  xn_BadKey : ∃ C, mg "BadKey" = some (.ref C)
  xn_NotRising : ∃ C, mg "NotRising" = some (.ref C)
  xn_Unsaved : ∃ C, mg "Unsaved" = some (.ref C)
  xn_BadRow : ∃ C, mg "BadRow" = some (.ref C)
  xn_BadText : ∃ C, mg "BadText" = some (.ref C)
  xn_ColumnThere : ∃ C, mg "ColumnThere" = some (.ref C)
  xn_NoColumn : ∃ C, mg "NoColumn" = some (.ref C)
  xn_Unfit : ∃ C, mg "Unfit" = some (.ref C)
  xn_NoRow : ∃ C, mg "NoRow" = some (.ref C)
  xn_NotBroken : ∃ C, mg "NotBroken" = some (.ref C)
  xn_NoMake : ∃ C, mg "NoMake" = some (.ref C)
  xn_NoPage : ∃ C, mg "NoPage" = some (.ref C)
  xn_NoClash : ∃ C, mg "NoClash" = some (.ref C)
  xn_InUse : ∃ C, mg "InUse" = some (.ref C)
  xn_NoName : ∃ C, mg "NoName" = some (.ref C)
  xn_TableError : ∃ C, mg "TableError" = some (.ref C)
  xp_BadKey_TableError : XcP K mg "BadKey" "TableError" true
  xp_BadValue_TableError : XcP K mg "BadValue" "TableError" true
  xp_BadWord_TableError : XcP K mg "BadWord" "TableError" true
  xp_BadElders_TableError : XcP K mg "BadElders" "TableError" true
  xp_BadText_TableError : XcP K mg "BadText" "TableError" true
  xp_BadRow_TableError : XcP K mg "BadRow" "TableError" true
  xp_Unsaved_TableError : XcP K mg "Unsaved" "TableError" true
  xp_NotRising_TableError : XcP K mg "NotRising" "TableError" true
  xp_NoRow_TableError : XcP K mg "NoRow" "TableError" true
  xp_Unfit_TableError : XcP K mg "Unfit" "TableError" true
  xp_NoColumn_TableError : XcP K mg "NoColumn" "TableError" true
  xp_ColumnThere_TableError : XcP K mg "ColumnThere" "TableError" true
  xp_NoClash_TableError : XcP K mg "NoClash" "TableError" true
  xp_NoPage_TableError : XcP K mg "NoPage" "TableError" true
  xp_NoMake_TableError : XcP K mg "NoMake" "TableError" true
  xp_NotBroken_TableError : XcP K mg "NotBroken" "TableError" true
  xp_NoName_TableError : XcP K mg "NoName" "TableError" true
  xp_InUse_TableError : XcP K mg "InUse" "TableError" true
  xi_InUse_BadElders : XcI K mg "InUse" "BadElders" false
  xi_NoName_BadElders : XcI K mg "NoName" "BadElders" false
  xi_NotBroken_BadElders : XcI K mg "NotBroken" "BadElders" false
  xi_NoMake_BadElders : XcI K mg "NoMake" "BadElders" false
  xi_NoPage_BadElders : XcI K mg "NoPage" "BadElders" false
  xi_NoClash_BadElders : XcI K mg "NoClash" "BadElders" false
  xi_ColumnThere_BadElders : XcI K mg "ColumnThere" "BadElders" false
  xi_NoColumn_BadElders : XcI K mg "NoColumn" "BadElders" false
  xi_Unfit_BadElders : XcI K mg "Unfit" "BadElders" false
  xi_NoRow_BadElders : XcI K mg "NoRow" "BadElders" false
  xi_NotRising_BadElders : XcI K mg "NotRising" "BadElders" false
  xi_Unsaved_BadElders : XcI K mg "Unsaved" "BadElders" false
  xi_BadRow_BadElders : XcI K mg "BadRow" "BadElders" false
  xi_BadText_BadElders : XcI K mg "BadText" "BadElders" false
  xi_BadElders_BadElders : XcI K mg "BadElders" "BadElders" true
  xi_BadWord_BadElders : XcI K mg "BadWord" "BadElders" false
  xi_BadValue_BadElders : XcI K mg "BadValue" "BadElders" false
  xi_BadKey_BadElders : XcI K mg "BadKey" "BadElders" false
  xi_InUse_BadWord : XcI K mg "InUse" "BadWord" false
  xi_NoName_BadWord : XcI K mg "NoName" "BadWord" false
  xi_NotBroken_BadWord : XcI K mg "NotBroken" "BadWord" false
  xi_NoMake_BadWord : XcI K mg "NoMake" "BadWord" false
  xi_NoPage_BadWord : XcI K mg "NoPage" "BadWord" false
  xi_NoClash_BadWord : XcI K mg "NoClash" "BadWord" false
  xi_ColumnThere_BadWord : XcI K mg "ColumnThere" "BadWord" false
  xi_NoColumn_BadWord : XcI K mg "NoColumn" "BadWord" false
  xi_Unfit_BadWord : XcI K mg "Unfit" "BadWord" false
  xi_NoRow_BadWord : XcI K mg "NoRow" "BadWord" false
  xi_NotRising_BadWord : XcI K mg "NotRising" "BadWord" false
  xi_Unsaved_BadWord : XcI K mg "Unsaved" "BadWord" false
  xi_BadRow_BadWord : XcI K mg "BadRow" "BadWord" false
  xi_BadText_BadWord : XcI K mg "BadText" "BadWord" false
  xi_BadElders_BadWord : XcI K mg "BadElders" "BadWord" false
  xi_BadWord_BadWord : XcI K mg "BadWord" "BadWord" true
  xi_BadValue_BadWord : XcI K mg "BadValue" "BadWord" false
  xi_BadKey_BadWord : XcI K mg "BadKey" "BadWord" false
  xi_InUse_BadValue : XcI K mg "InUse" "BadValue" false
  xi_NoName_BadValue : XcI K mg "NoName" "BadValue" false
  xi_NotBroken_BadValue : XcI K mg "NotBroken" "BadValue" false
  xi_NoMake_BadValue : XcI K mg "NoMake" "BadValue" false
  xi_NoPage_BadValue : XcI K mg "NoPage" "BadValue" false
  xi_NoClash_BadValue : XcI K mg "NoClash" "BadValue" false
  xi_ColumnThere_BadValue : XcI K mg "ColumnThere" "BadValue" false
  xi_NoColumn_BadValue : XcI K mg "NoColumn" "BadValue" false
  xi_Unfit_BadValue : XcI K mg "Unfit" "BadValue" false
  xi_NoRow_BadValue : XcI K mg "NoRow" "BadValue" false
  xi_NotRising_BadValue : XcI K mg "NotRising" "BadValue" false
  xi_Unsaved_BadValue : XcI K mg "Unsaved" "BadValue" false
  xi_BadRow_BadValue : XcI K mg "BadRow" "BadValue" false
  xi_BadText_BadValue : XcI K mg "BadText" "BadValue" false
  xi_BadElders_BadValue : XcI K mg "BadElders" "BadValue" false
  xi_BadWord_BadValue : XcI K mg "BadWord" "BadValue" false
  xi_BadValue_BadValue : XcI K mg "BadValue" "BadValue" true
  xi_BadKey_BadValue : XcI K mg "BadKey" "BadValue" false
  xi_InUse_BadKey : XcI K mg "InUse" "BadKey" false
  xi_NoName_BadKey : XcI K mg "NoName" "BadKey" false
  xi_NotBroken_BadKey : XcI K mg "NotBroken" "BadKey" false
  xi_NoMake_BadKey : XcI K mg "NoMake" "BadKey" false
  xi_NoPage_BadKey : XcI K mg "NoPage" "BadKey" false
  xi_NoClash_BadKey : XcI K mg "NoClash" "BadKey" false
  xi_ColumnThere_BadKey : XcI K mg "ColumnThere" "BadKey" false
  xi_NoColumn_BadKey : XcI K mg "NoColumn" "BadKey" false
  xi_Unfit_BadKey : XcI K mg "Unfit" "BadKey" false
  xi_NoRow_BadKey : XcI K mg "NoRow" "BadKey" false
  xi_NotRising_BadKey : XcI K mg "NotRising" "BadKey" false
  xi_Unsaved_BadKey : XcI K mg "Unsaved" "BadKey" false
  xi_BadRow_BadKey : XcI K mg "BadRow" "BadKey" false
  xi_BadText_BadKey : XcI K mg "BadText" "BadKey" false
  xi_BadElders_BadKey : XcI K mg "BadElders" "BadKey" false
  xi_BadWord_BadKey : XcI K mg "BadWord" "BadKey" false
  xi_BadValue_BadKey : XcI K mg "BadValue" "BadKey" false
  xi_BadKey_BadKey : XcI K mg "BadKey" "BadKey" true
  xi_InUse_NotRising : XcI K mg "InUse" "NotRising" false
  xi_NoName_NotRising : XcI K mg "NoName" "NotRising" false
  xi_NotBroken_NotRising : XcI K mg "NotBroken" "NotRising" false
  xi_NoMake_NotRising : XcI K mg "NoMake" "NotRising" false
  xi_NoPage_NotRising : XcI K mg "NoPage" "NotRising" false
  xi_NoClash_NotRising : XcI K mg "NoClash" "NotRising" false
  xi_ColumnThere_NotRising : XcI K mg "ColumnThere" "NotRising" false
  xi_NoColumn_NotRising : XcI K mg "NoColumn" "NotRising" false
  xi_Unfit_NotRising : XcI K mg "Unfit" "NotRising" false
  xi_NoRow_NotRising : XcI K mg "NoRow" "NotRising" false
  xi_NotRising_NotRising : XcI K mg "NotRising" "NotRising" true
  xi_Unsaved_NotRising : XcI K mg "Unsaved" "NotRising" false
  xi_BadRow_NotRising : XcI K mg "BadRow" "NotRising" false
  xi_BadText_NotRising : XcI K mg "BadText" "NotRising" false
  xi_BadElders_NotRising : XcI K mg "BadElders" "NotRising" false
  xi_BadWord_NotRising : XcI K mg "BadWord" "NotRising" false
  xi_BadValue_NotRising : XcI K mg "BadValue" "NotRising" false
  xi_BadKey_NotRising : XcI K mg "BadKey" "NotRising" false
  xi_InUse_Unsaved : XcI K mg "InUse" "Unsaved" false
  xi_NoName_Unsaved : XcI K mg "NoName" "Unsaved" false
  xi_NotBroken_Unsaved : XcI K mg "NotBroken" "Unsaved" false
  xi_NoMake_Unsaved : XcI K mg "NoMake" "Unsaved" false
  xi_NoPage_Unsaved : XcI K mg "NoPage" "Unsaved" false
  xi_NoClash_Unsaved : XcI K mg "NoClash" "Unsaved" false
  xi_ColumnThere_Unsaved : XcI K mg "ColumnThere" "Unsaved" false
  xi_NoColumn_Unsaved : XcI K mg "NoColumn" "Unsaved" false
  xi_Unfit_Unsaved : XcI K mg "Unfit" "Unsaved" false
  xi_NoRow_Unsaved : XcI K mg "NoRow" "Unsaved" false
  xi_NotRising_Unsaved : XcI K mg "NotRising" "Unsaved" false
  xi_Unsaved_Unsaved : XcI K mg "Unsaved" "Unsaved" true
  xi_BadRow_Unsaved : XcI K mg "BadRow" "Unsaved" false
  xi_BadText_Unsaved : XcI K mg "BadText" "Unsaved" false
  xi_BadElders_Unsaved : XcI K mg "BadElders" "Unsaved" false
  xi_BadWord_Unsaved : XcI K mg "BadWord" "Unsaved" false
  xi_BadValue_Unsaved : XcI K mg "BadValue" "Unsaved" false
  xi_BadKey_Unsaved : XcI K mg "BadKey" "Unsaved" false
  xi_InUse_BadRow : XcI K mg "InUse" "BadRow" false
  xi_NoName_BadRow : XcI K mg "NoName" "BadRow" false
  xi_NotBroken_BadRow : XcI K mg "NotBroken" "BadRow" false
  xi_NoMake_BadRow : XcI K mg "NoMake" "BadRow" false
  xi_NoPage_BadRow : XcI K mg "NoPage" "BadRow" false
  xi_NoClash_BadRow : XcI K mg "NoClash" "BadRow" false
  xi_ColumnThere_BadRow : XcI K mg "ColumnThere" "BadRow" false
  xi_NoColumn_BadRow : XcI K mg "NoColumn" "BadRow" false
  xi_Unfit_BadRow : XcI K mg "Unfit" "BadRow" false
  xi_NoRow_BadRow : XcI K mg "NoRow" "BadRow" false
  xi_NotRising_BadRow : XcI K mg "NotRising" "BadRow" false
  xi_Unsaved_BadRow : XcI K mg "Unsaved" "BadRow" false
  xi_BadRow_BadRow : XcI K mg "BadRow" "BadRow" true
  xi_BadText_BadRow : XcI K mg "BadText" "BadRow" false
  xi_BadElders_BadRow : XcI K mg "BadElders" "BadRow" false
  xi_BadWord_BadRow : XcI K mg "BadWord" "BadRow" false
  xi_BadValue_BadRow : XcI K mg "BadValue" "BadRow" false
  xi_BadKey_BadRow : XcI K mg "BadKey" "BadRow" false
  xi_InUse_BadText : XcI K mg "InUse" "BadText" false
  xi_NoName_BadText : XcI K mg "NoName" "BadText" false
  xi_NotBroken_BadText : XcI K mg "NotBroken" "BadText" false
  xi_NoMake_BadText : XcI K mg "NoMake" "BadText" false
  xi_NoPage_BadText : XcI K mg "NoPage" "BadText" false
  xi_NoClash_BadText : XcI K mg "NoClash" "BadText" false
  xi_ColumnThere_BadText : XcI K mg "ColumnThere" "BadText" false
  xi_NoColumn_BadText : XcI K mg "NoColumn" "BadText" false
  xi_Unfit_BadText : XcI K mg "Unfit" "BadText" false
  xi_NoRow_BadText : XcI K mg "NoRow" "BadText" false
  xi_NotRising_BadText : XcI K mg "NotRising" "BadText" false
  xi_Unsaved_BadText : XcI K mg "Unsaved" "BadText" false
  xi_BadRow_BadText : XcI K mg "BadRow" "BadText" false
  xi_BadText_BadText : XcI K mg "BadText" "BadText" true
  xi_BadElders_BadText : XcI K mg "BadElders" "BadText" false
  xi_BadWord_BadText : XcI K mg "BadWord" "BadText" false
  xi_BadValue_BadText : XcI K mg "BadValue" "BadText" false
  xi_BadKey_BadText : XcI K mg "BadKey" "BadText" false
  xi_InUse_ColumnThere : XcI K mg "InUse" "ColumnThere" false
  xi_NoName_ColumnThere : XcI K mg "NoName" "ColumnThere" false
  xi_NotBroken_ColumnThere : XcI K mg "NotBroken" "ColumnThere" false
  xi_NoMake_ColumnThere : XcI K mg "NoMake" "ColumnThere" false
  xi_NoPage_ColumnThere : XcI K mg "NoPage" "ColumnThere" false
  xi_NoClash_ColumnThere : XcI K mg "NoClash" "ColumnThere" false
  xi_ColumnThere_ColumnThere : XcI K mg "ColumnThere" "ColumnThere" true
  xi_NoColumn_ColumnThere : XcI K mg "NoColumn" "ColumnThere" false
  xi_Unfit_ColumnThere : XcI K mg "Unfit" "ColumnThere" false
  xi_NoRow_ColumnThere : XcI K mg "NoRow" "ColumnThere" false
  xi_NotRising_ColumnThere : XcI K mg "NotRising" "ColumnThere" false
  xi_Unsaved_ColumnThere : XcI K mg "Unsaved" "ColumnThere" false
  xi_BadRow_ColumnThere : XcI K mg "BadRow" "ColumnThere" false
  xi_BadText_ColumnThere : XcI K mg "BadText" "ColumnThere" false
  xi_BadElders_ColumnThere : XcI K mg "BadElders" "ColumnThere" false
  xi_BadWord_ColumnThere : XcI K mg "BadWord" "ColumnThere" false
  xi_BadValue_ColumnThere : XcI K mg "BadValue" "ColumnThere" false
  xi_BadKey_ColumnThere : XcI K mg "BadKey" "ColumnThere" false
  xi_InUse_NoColumn : XcI K mg "InUse" "NoColumn" false
  xi_NoName_NoColumn : XcI K mg "NoName" "NoColumn" false
  xi_NotBroken_NoColumn : XcI K mg "NotBroken" "NoColumn" false
  xi_NoMake_NoColumn : XcI K mg "NoMake" "NoColumn" false
  xi_NoPage_NoColumn : XcI K mg "NoPage" "NoColumn" false
  xi_NoClash_NoColumn : XcI K mg "NoClash" "NoColumn" false
  xi_ColumnThere_NoColumn : XcI K mg "ColumnThere" "NoColumn" false
  xi_NoColumn_NoColumn : XcI K mg "NoColumn" "NoColumn" true
  xi_Unfit_NoColumn : XcI K mg "Unfit" "NoColumn" false
  xi_NoRow_NoColumn : XcI K mg "NoRow" "NoColumn" false
  xi_NotRising_NoColumn : XcI K mg "NotRising" "NoColumn" false
  xi_Unsaved_NoColumn : XcI K mg "Unsaved" "NoColumn" false
  xi_BadRow_NoColumn : XcI K mg "BadRow" "NoColumn" false
  xi_BadText_NoColumn : XcI K mg "BadText" "NoColumn" false
  xi_BadElders_NoColumn : XcI K mg "BadElders" "NoColumn" false
  xi_BadWord_NoColumn : XcI K mg "BadWord" "NoColumn" false
  xi_BadValue_NoColumn : XcI K mg "BadValue" "NoColumn" false
  xi_BadKey_NoColumn : XcI K mg "BadKey" "NoColumn" false
  xi_InUse_Unfit : XcI K mg "InUse" "Unfit" false
  xi_NoName_Unfit : XcI K mg "NoName" "Unfit" false
  xi_NotBroken_Unfit : XcI K mg "NotBroken" "Unfit" false
  xi_NoMake_Unfit : XcI K mg "NoMake" "Unfit" false
  xi_NoPage_Unfit : XcI K mg "NoPage" "Unfit" false
  xi_NoClash_Unfit : XcI K mg "NoClash" "Unfit" false
  xi_ColumnThere_Unfit : XcI K mg "ColumnThere" "Unfit" false
  xi_NoColumn_Unfit : XcI K mg "NoColumn" "Unfit" false
  xi_Unfit_Unfit : XcI K mg "Unfit" "Unfit" true
  xi_NoRow_Unfit : XcI K mg "NoRow" "Unfit" false
  xi_NotRising_Unfit : XcI K mg "NotRising" "Unfit" false
  xi_Unsaved_Unfit : XcI K mg "Unsaved" "Unfit" false
  xi_BadRow_Unfit : XcI K mg "BadRow" "Unfit" false
  xi_BadText_Unfit : XcI K mg "BadText" "Unfit" false
  xi_BadElders_Unfit : XcI K mg "BadElders" "Unfit" false
  xi_BadWord_Unfit : XcI K mg "BadWord" "Unfit" false
  xi_BadValue_Unfit : XcI K mg "BadValue" "Unfit" false
  xi_BadKey_Unfit : XcI K mg "BadKey" "Unfit" false
  xi_InUse_NoRow : XcI K mg "InUse" "NoRow" false
  xi_NoName_NoRow : XcI K mg "NoName" "NoRow" false
  xi_NotBroken_NoRow : XcI K mg "NotBroken" "NoRow" false
  xi_NoMake_NoRow : XcI K mg "NoMake" "NoRow" false
  xi_NoPage_NoRow : XcI K mg "NoPage" "NoRow" false
  xi_NoClash_NoRow : XcI K mg "NoClash" "NoRow" false
  xi_ColumnThere_NoRow : XcI K mg "ColumnThere" "NoRow" false
  xi_NoColumn_NoRow : XcI K mg "NoColumn" "NoRow" false
  xi_Unfit_NoRow : XcI K mg "Unfit" "NoRow" false
  xi_NoRow_NoRow : XcI K mg "NoRow" "NoRow" true
  xi_NotRising_NoRow : XcI K mg "NotRising" "NoRow" false
  xi_Unsaved_NoRow : XcI K mg "Unsaved" "NoRow" false
  xi_BadRow_NoRow : XcI K mg "BadRow" "NoRow" false
  xi_BadText_NoRow : XcI K mg "BadText" "NoRow" false
  xi_BadElders_NoRow : XcI K mg "BadElders" "NoRow" false
  xi_BadWord_NoRow : XcI K mg "BadWord" "NoRow" false
  xi_BadValue_NoRow : XcI K mg "BadValue" "NoRow" false
  xi_BadKey_NoRow : XcI K mg "BadKey" "NoRow" false
  xi_InUse_NotBroken : XcI K mg "InUse" "NotBroken" false
  xi_NoName_NotBroken : XcI K mg "NoName" "NotBroken" false
  xi_NotBroken_NotBroken : XcI K mg "NotBroken" "NotBroken" true
  xi_NoMake_NotBroken : XcI K mg "NoMake" "NotBroken" false
  xi_NoPage_NotBroken : XcI K mg "NoPage" "NotBroken" false
  xi_NoClash_NotBroken : XcI K mg "NoClash" "NotBroken" false
  xi_ColumnThere_NotBroken : XcI K mg "ColumnThere" "NotBroken" false
  xi_NoColumn_NotBroken : XcI K mg "NoColumn" "NotBroken" false
  xi_Unfit_NotBroken : XcI K mg "Unfit" "NotBroken" false
  xi_NoRow_NotBroken : XcI K mg "NoRow" "NotBroken" false
  xi_NotRising_NotBroken : XcI K mg "NotRising" "NotBroken" false
  xi_Unsaved_NotBroken : XcI K mg "Unsaved" "NotBroken" false
  xi_BadRow_NotBroken : XcI K mg "BadRow" "NotBroken" false
  xi_BadText_NotBroken : XcI K mg "BadText" "NotBroken" false
  xi_BadElders_NotBroken : XcI K mg "BadElders" "NotBroken" false
  xi_BadWord_NotBroken : XcI K mg "BadWord" "NotBroken" false
  xi_BadValue_NotBroken : XcI K mg "BadValue" "NotBroken" false
  xi_BadKey_NotBroken : XcI K mg "BadKey" "NotBroken" false
  xi_InUse_NoMake : XcI K mg "InUse" "NoMake" false
  xi_NoName_NoMake : XcI K mg "NoName" "NoMake" false
  xi_NotBroken_NoMake : XcI K mg "NotBroken" "NoMake" false
  xi_NoMake_NoMake : XcI K mg "NoMake" "NoMake" true
  xi_NoPage_NoMake : XcI K mg "NoPage" "NoMake" false
  xi_NoClash_NoMake : XcI K mg "NoClash" "NoMake" false
  xi_ColumnThere_NoMake : XcI K mg "ColumnThere" "NoMake" false
  xi_NoColumn_NoMake : XcI K mg "NoColumn" "NoMake" false
  xi_Unfit_NoMake : XcI K mg "Unfit" "NoMake" false
  xi_NoRow_NoMake : XcI K mg "NoRow" "NoMake" false
  xi_NotRising_NoMake : XcI K mg "NotRising" "NoMake" false
  xi_Unsaved_NoMake : XcI K mg "Unsaved" "NoMake" false
  xi_BadRow_NoMake : XcI K mg "BadRow" "NoMake" false
  xi_BadText_NoMake : XcI K mg "BadText" "NoMake" false
  xi_BadElders_NoMake : XcI K mg "BadElders" "NoMake" false
  xi_BadWord_NoMake : XcI K mg "BadWord" "NoMake" false
  xi_BadValue_NoMake : XcI K mg "BadValue" "NoMake" false
  xi_BadKey_NoMake : XcI K mg "BadKey" "NoMake" false
  xi_InUse_NoPage : XcI K mg "InUse" "NoPage" false
  xi_NoName_NoPage : XcI K mg "NoName" "NoPage" false
  xi_NotBroken_NoPage : XcI K mg "NotBroken" "NoPage" false
  xi_NoMake_NoPage : XcI K mg "NoMake" "NoPage" false
  xi_NoPage_NoPage : XcI K mg "NoPage" "NoPage" true
  xi_NoClash_NoPage : XcI K mg "NoClash" "NoPage" false
  xi_ColumnThere_NoPage : XcI K mg "ColumnThere" "NoPage" false
  xi_NoColumn_NoPage : XcI K mg "NoColumn" "NoPage" false
  xi_Unfit_NoPage : XcI K mg "Unfit" "NoPage" false
  xi_NoRow_NoPage : XcI K mg "NoRow" "NoPage" false
  xi_NotRising_NoPage : XcI K mg "NotRising" "NoPage" false
  xi_Unsaved_NoPage : XcI K mg "Unsaved" "NoPage" false
  xi_BadRow_NoPage : XcI K mg "BadRow" "NoPage" false
  xi_BadText_NoPage : XcI K mg "BadText" "NoPage" false
  xi_BadElders_NoPage : XcI K mg "BadElders" "NoPage" false
  xi_BadWord_NoPage : XcI K mg "BadWord" "NoPage" false
  xi_BadValue_NoPage : XcI K mg "BadValue" "NoPage" false
  xi_BadKey_NoPage : XcI K mg "BadKey" "NoPage" false
  xi_InUse_NoClash : XcI K mg "InUse" "NoClash" false
  xi_NoName_NoClash : XcI K mg "NoName" "NoClash" false
  xi_NotBroken_NoClash : XcI K mg "NotBroken" "NoClash" false
  xi_NoMake_NoClash : XcI K mg "NoMake" "NoClash" false
  xi_NoPage_NoClash : XcI K mg "NoPage" "NoClash" false
  xi_NoClash_NoClash : XcI K mg "NoClash" "NoClash" true
  xi_ColumnThere_NoClash : XcI K mg "ColumnThere" "NoClash" false
  xi_NoColumn_NoClash : XcI K mg "NoColumn" "NoClash" false
  xi_Unfit_NoClash : XcI K mg "Unfit" "NoClash" false
  xi_NoRow_NoClash : XcI K mg "NoRow" "NoClash" false
  xi_NotRising_NoClash : XcI K mg "NotRising" "NoClash" false
  xi_Unsaved_NoClash : XcI K mg "Unsaved" "NoClash" false
  xi_BadRow_NoClash : XcI K mg "BadRow" "NoClash" false
  xi_BadText_NoClash : XcI K mg "BadText" "NoClash" false
  xi_BadElders_NoClash : XcI K mg "BadElders" "NoClash" false
  xi_BadWord_NoClash : XcI K mg "BadWord" "NoClash" false
  xi_BadValue_NoClash : XcI K mg "BadValue" "NoClash" false
  xi_BadKey_NoClash : XcI K mg "BadKey" "NoClash" false
  xi_InUse_InUse : XcI K mg "InUse" "InUse" true
  xi_NoName_InUse : XcI K mg "NoName" "InUse" false
  xi_NotBroken_InUse : XcI K mg "NotBroken" "InUse" false
  xi_NoMake_InUse : XcI K mg "NoMake" "InUse" false
  xi_NoPage_InUse : XcI K mg "NoPage" "InUse" false
  xi_NoClash_InUse : XcI K mg "NoClash" "InUse" false
  xi_ColumnThere_InUse : XcI K mg "ColumnThere" "InUse" false
  xi_NoColumn_InUse : XcI K mg "NoColumn" "InUse" false
  xi_Unfit_InUse : XcI K mg "Unfit" "InUse" false
  xi_NoRow_InUse : XcI K mg "NoRow" "InUse" false
  xi_NotRising_InUse : XcI K mg "NotRising" "InUse" false
  xi_Unsaved_InUse : XcI K mg "Unsaved" "InUse" false
  xi_BadRow_InUse : XcI K mg "BadRow" "InUse" false
  xi_BadText_InUse : XcI K mg "BadText" "InUse" false
  xi_BadElders_InUse : XcI K mg "BadElders" "InUse" false
  xi_BadWord_InUse : XcI K mg "BadWord" "InUse" false
  xi_BadValue_InUse : XcI K mg "BadValue" "InUse" false
  xi_BadKey_InUse : XcI K mg "BadKey" "InUse" false
  xi_InUse_NoName : XcI K mg "InUse" "NoName" false
  xi_NoName_NoName : XcI K mg "NoName" "NoName" true
  xi_NotBroken_NoName : XcI K mg "NotBroken" "NoName" false
  xi_NoMake_NoName : XcI K mg "NoMake" "NoName" false
  xi_NoPage_NoName : XcI K mg "NoPage" "NoName" false
  xi_NoClash_NoName : XcI K mg "NoClash" "NoName" false
  xi_ColumnThere_NoName : XcI K mg "ColumnThere" "NoName" false
  xi_NoColumn_NoName : XcI K mg "NoColumn" "NoName" false
  xi_Unfit_NoName : XcI K mg "Unfit" "NoName" false
  xi_NoRow_NoName : XcI K mg "NoRow" "NoName" false
  xi_NotRising_NoName : XcI K mg "NotRising" "NoName" false
  xi_Unsaved_NoName : XcI K mg "Unsaved" "NoName" false
  xi_BadRow_NoName : XcI K mg "BadRow" "NoName" false
  xi_BadText_NoName : XcI K mg "BadText" "NoName" false
  xi_BadElders_NoName : XcI K mg "BadElders" "NoName" false
  xi_BadWord_NoName : XcI K mg "BadWord" "NoName" false
  xi_BadValue_NoName : XcI K mg "BadValue" "NoName" false
  xi_BadKey_NoName : XcI K mg "BadKey" "NoName" false
  xb_InUse_ValueError : XcB K mg "InUse" "ValueError" true
  xb_NoName_ValueError : XcB K mg "NoName" "ValueError" true
  xb_NotBroken_ValueError : XcB K mg "NotBroken" "ValueError" true
  xb_NoMake_ValueError : XcB K mg "NoMake" "ValueError" true
  xb_NoPage_ValueError : XcB K mg "NoPage" "ValueError" true
  xb_NoClash_ValueError : XcB K mg "NoClash" "ValueError" true
  xb_ColumnThere_ValueError : XcB K mg "ColumnThere" "ValueError" true
  xb_NoColumn_ValueError : XcB K mg "NoColumn" "ValueError" true
  xb_Unfit_ValueError : XcB K mg "Unfit" "ValueError" true
  xb_NoRow_ValueError : XcB K mg "NoRow" "ValueError" true
  xb_NotRising_ValueError : XcB K mg "NotRising" "ValueError" true
  xb_Unsaved_ValueError : XcB K mg "Unsaved" "ValueError" true
  xb_BadRow_ValueError : XcB K mg "BadRow" "ValueError" true
  xb_BadText_ValueError : XcB K mg "BadText" "ValueError" true
  xb_BadElders_ValueError : XcB K mg "BadElders" "ValueError" true
  xb_BadWord_ValueError : XcB K mg "BadWord" "ValueError" true
  xb_BadValue_ValueError : XcB K mg "BadValue" "ValueError" true
  xb_BadKey_ValueError : XcB K mg "BadKey" "ValueError" true
  xf_NoClash_key : XcF K mg "NoClash" "key"
  xf_Unfit_key : XcF K mg "Unfit" "key"
  xf_NoRow_key : XcF K mg "NoRow" "key"
  xf_NotRising_key : XcF K mg "NotRising" "key"
  xf_NoClash_column : XcF K mg "NoClash" "column"
  xf_ColumnThere_column : XcF K mg "ColumnThere" "column"
  xf_NoColumn_column : XcF K mg "NoColumn" "column"
  xf_NotBroken_number : XcF K mg "NotBroken" "number"
  xf_NoMake_number : XcF K mg "NoMake" "number"
  xf_NoPage_number : XcF K mg "NoPage" "number"
  xf_InUse_word : XcF K mg "InUse" "word"
  xf_NoName_word : XcF K mg "NoName" "word"
  b_ValueError : mg "ValueError" = none
  b_bool : mg "bool" = none
  b_int : mg "int" = none
  b_isinstance : mg "isinstance" = none
  b_len : mg "len" = none
  b_range : mg "range" = none
  b_str : mg "str" = none
abbrev s_NotRising_init : Stmt := inClass (topS 9) 0
theorem sc_NotRising_init : FnScope ["self", "key"] ["self", "key"] (defScope s_NotRising_init) := ⟨rfl, rfl, rfl, by decide +kernel, rfl, by decide +kernel, by decide +kernel⟩
theorem oke_NotRising {P : Program} {wd : World} {K : PySem.W.Frag} {mg : Str → Option Value} {base : Heap} (F : TopE K mg "NotRising" "NotRising.__init__" s_NotRising_init ["self", "key"] ["key"]) : Xc1 P wd K mg base "NotRising" ["key"] 1 :=
  F.mk1 sc_NotRising_init rfl fun f cdv A outer s H E => pss_one (ps_ost (pe_var (i := 0) rfl (Or.inl rfl)) (pe_var (i := 1) rfl (Or.inl rfl)))
abbrev s_NoRow_init : Stmt := inClass (topS 10) 0
theorem sc_NoRow_init : FnScope ["self", "key"] ["self", "key"] (defScope s_NoRow_init) := ⟨rfl, rfl, rfl, by decide +kernel, rfl, by decide +kernel, by decide +kernel⟩
theorem oke_NoRow {P : Program} {wd : World} {K : PySem.W.Frag} {mg : Str → Option Value} {base : Heap} (F : TopE K mg "NoRow" "NoRow.__init__" s_NoRow_init ["self", "key"] ["key"]) : Xc1 P wd K mg base "NoRow" ["key"] 1 :=
  F.mk1 sc_NoRow_init rfl fun f cdv A outer s H E => pss_one (ps_ost (pe_var (i := 0) rfl (Or.inl rfl)) (pe_var (i := 1) rfl (Or.inl rfl)))
abbrev s_Unfit_init : Stmt := inClass (topS 11) 0
theorem sc_Unfit_init : FnScope ["self", "key"] ["self", "key"] (defScope s_Unfit_init) := ⟨rfl, rfl, rfl, by decide +kernel, rfl, by decide +kernel, by decide +kernel⟩
theorem oke_Unfit {P : Program} {wd : World} {K : PySem.W.Frag} {mg : Str → Option Value} {base : Heap} (F : TopE K mg "Unfit" "Unfit.__init__" s_Unfit_init ["self", "key"] ["key"]) : Xc1 P wd K mg base "Unfit" ["key"] 1 :=
  F.mk1 sc_Unfit_init rfl fun f cdv A outer s H E => pss_one (ps_ost (pe_var (i := 0) rfl (Or.inl rfl)) (pe_var (i := 1) rfl (Or.inl rfl)))
abbrev s_NoColumn_init : Stmt := inClass (topS 12) 0
theorem sc_NoColumn_init : FnScope ["self", "column"] ["self", "column"] (defScope s_NoColumn_init) := ⟨rfl, rfl, rfl, by decide +kernel, rfl, by decide +kernel, by decide +kernel⟩
theorem oke_NoColumn {P : Program} {wd : World} {K : PySem.W.Frag} {mg : Str → Option Value} {base : Heap} (F : TopE K mg "NoColumn" "NoColumn.__init__" s_NoColumn_init ["self", "column"] ["column"]) : Xc1 P wd K mg base "NoColumn" ["column"] 1 :=
  F.mk1 sc_NoColumn_init rfl fun f cdv A outer s H E => pss_one (ps_ost (pe_var (i := 0) rfl (Or.inl rfl)) (pe_var (i := 1) rfl (Or.inl rfl)))
abbrev s_ColumnThere_init : Stmt := inClass (topS 13) 0
theorem sc_ColumnThere_init : FnScope ["self", "column"] ["self", "column"] (defScope s_ColumnThere_init) := ⟨rfl, rfl, rfl, by decide +kernel, rfl, by decide +kernel, by decide +kernel⟩
theorem oke_ColumnThere {P : Program} {wd : World} {K : PySem.W.Frag} {mg : Str → Option Value} {base : Heap} (F : TopE K mg "ColumnThere" "ColumnThere.__init__" s_ColumnThere_init ["self", "column"] ["column"]) : Xc1 P wd K mg base "ColumnThere" ["column"] 1 :=
  F.mk1 sc_ColumnThere_init rfl fun f cdv A outer s H E => pss_one (ps_ost (pe_var (i := 0) rfl (Or.inl rfl)) (pe_var (i := 1) rfl (Or.inl rfl)))
abbrev s_NoClash_init : Stmt := inClass (topS 14) 0
theorem sc_NoClash_init : FnScope ["self", "key", "column"] ["self", "key", "column"] (defScope s_NoClash_init) := ⟨rfl, rfl, rfl, by decide +kernel, rfl, by decide +kernel, by decide +kernel⟩
theorem oke_NoClash {P : Program} {wd : World} {K : PySem.W.Frag} {mg : Str → Option Value} {base : Heap} (F : TopE K mg "NoClash" "NoClash.__init__" s_NoClash_init ["self", "key", "column"] ["key", "column"]) : Xc1 P wd K mg base "NoClash" ["key", "column"] 1 :=
  F.mk2 sc_NoClash_init rfl fun f cdv A outer s H E => pss_cons (ps_ost (pe_var (i := 0) rfl (Or.inl rfl)) (pe_var (i := 1) rfl (Or.inl rfl))) (pss_one (ps_ost (pe_var (i := 0) rfl (Or.inl rfl)) (pe_var (i := 2) rfl (Or.inl rfl))))
abbrev s_NoPage_init : Stmt := inClass (topS 15) 0
theorem sc_NoPage_init : FnScope ["self", "number"] ["self", "number"] (defScope s_NoPage_init) := ⟨rfl, rfl, rfl, by decide +kernel, rfl, by decide +kernel, by decide +kernel⟩
theorem oke_NoPage {P : Program} {wd : World} {K : PySem.W.Frag} {mg : Str → Option Value} {base : Heap} (F : TopE K mg "NoPage" "NoPage.__init__" s_NoPage_init ["self", "number"] ["number"]) : Xc1 P wd K mg base "NoPage" ["number"] 1 :=
  F.mk1 sc_NoPage_init rfl fun f cdv A outer s H E => pss_one (ps_ost (pe_var (i := 0) rfl (Or.inl rfl)) (pe_var (i := 1) rfl (Or.inl rfl)))
abbrev s_NoMake_init : Stmt := inClass (topS 16) 0
theorem sc_NoMake_init : FnScope ["self", "number"] ["self", "number"] (defScope s_NoMake_init) := ⟨rfl, rfl, rfl, by decide +kernel, rfl, by decide +kernel, by decide +kernel⟩
theorem oke_NoMake {P : Program} {wd : World} {K : PySem.W.Frag} {mg : Str → Option Value} {base : Heap} (F : TopE K mg "NoMake" "NoMake.__init__" s_NoMake_init ["self", "number"] ["number"]) : Xc1 P wd K mg base "NoMake" ["number"] 1 :=
  F.mk1 sc_NoMake_init rfl fun f cdv A outer s H E => pss_one (ps_ost (pe_var (i := 0) rfl (Or.inl rfl)) (pe_var (i := 1) rfl (Or.inl rfl)))
abbrev s_NotBroken_init : Stmt := inClass (topS 17) 0
theorem sc_NotBroken_init : FnScope ["self", "number"] ["self", "number"] (defScope s_NotBroken_init) := ⟨rfl, rfl, rfl, by decide +kernel, rfl, by decide +kernel, by decide +kernel⟩
theorem oke_NotBroken {P : Program} {wd : World} {K : PySem.W.Frag} {mg : Str → Option Value} {base : Heap} (F : TopE K mg "NotBroken" "NotBroken.__init__" s_NotBroken_init ["self", "number"] ["number"]) : Xc1 P wd K mg base "NotBroken" ["number"] 1 :=
  F.mk1 sc_NotBroken_init rfl fun f cdv A outer s H E => pss_one (ps_ost (pe_var (i := 0) rfl (Or.inl rfl)) (pe_var (i := 1) rfl (Or.inl rfl)))
abbrev s_NoName_init : Stmt := inClass (topS 18) 0
theorem sc_NoName_init : FnScope ["self", "word"] ["self", "word"] (defScope s_NoName_init) := ⟨rfl, rfl, rfl, by decide +kernel, rfl, by decide +kernel, by decide +kernel⟩
theorem oke_NoName {P : Program} {wd : World} {K : PySem.W.Frag} {mg : Str → Option Value} {base : Heap} (F : TopE K mg "NoName" "NoName.__init__" s_NoName_init ["self", "word"] ["word"]) : Xc1 P wd K mg base "NoName" ["word"] 1 :=
  F.mk1 sc_NoName_init rfl fun f cdv A outer s H E => pss_one (ps_ost (pe_var (i := 0) rfl (Or.inl rfl)) (pe_var (i := 1) rfl (Or.inl rfl)))
abbrev s_InUse_init : Stmt := inClass (topS 19) 0
theorem sc_InUse_init : FnScope ["self", "word"] ["self", "word"] (defScope s_InUse_init) := ⟨rfl, rfl, rfl, by decide +kernel, rfl, by decide +kernel, by decide +kernel⟩
theorem oke_InUse {P : Program} {wd : World} {K : PySem.W.Frag} {mg : Str → Option Value} {base : Heap} (F : TopE K mg "InUse" "InUse.__init__" s_InUse_init ["self", "word"] ["word"]) : Xc1 P wd K mg base "InUse" ["word"] 1 :=
  F.mk1 sc_InUse_init rfl fun f cdv A outer s H E => pss_one (ps_ost (pe_var (i := 0) rfl (Or.inl rfl)) (pe_var (i := 1) rfl (Or.inl rfl)))
abbrev s_l_cell_at : Stmt := topS 21
theorem sc_l_cell_at : FnScope ["_law_script", "_law_k"] ["_law_script", "_law_k"] (defScope s_l_cell_at) := ⟨rfl, rfl, rfl, by decide +kernel, rfl, by decide +kernel, by decide +kernel⟩
noncomputable def g_l_cell_at : M Out :=
    (seqM (ifM (tst (bin ltAM (getL 1) (bnd (consM (getL 0) (ret [])) lenM))) (retM (bin ixAM (getL 0) (getL 1))) (ret .nx))
    (retM (ret (.int 0))))
noncomputable def F_l_cell_at : Pf := runP 2 g_l_cell_at
theorem ok_l_cell_at {P : Program} {wd : World} {K : PySem.W.Frag} {mg : Str → Option Value} {base : Heap} (T : Txt K mg) (F : Top K mg "_law_cell_at" s_l_cell_at ["_law_script", "_law_k"])  :
    FnP P wd K mg base "_law_cell_at" 2 1 F_l_cell_at :=
  F.fn sc_l_cell_at (by decide) fun f cdv A outer s H E hr =>
    ((dss_cons (ds_if (dt_cmp (op_ltA (units_of hr)) rop_ltA (de_v 1) (de_len T.b_len (da_cons (de_v 0) da_nil))) (dss_one (ds_ret (de_ixA (hu_of hr) (de_v 0) (de_v 1)))) dss_nil)
    (dss_one (ds_ret de_int))) : DSs _ W0 (defBody s_l_cell_at) g_l_cell_at)
abbrev s_l_mix : Stmt := topS 22
theorem sc_l_mix : FnScope ["_law_cell", "_law_k", "_law_number"] ["_law_cell", "_law_k"] (defScope s_l_mix) := ⟨rfl, rfl, rfl, by decide +kernel, rfl, by decide +kernel, by decide +kernel⟩
noncomputable def g_l_mix : M Out :=
    (seqM (asgM (bin modM (bin mulM (bin addM (bin addM (bin modM (getL 0) (ret (.int 2147483647))) (bin mulM (ret (.int 7919)) (getL 1))) (ret (.int 1))) (ret (.int 48271))) (ret (.int 2147483647))) (setL 2))
    (retM (bin modM (bin addM (bin mulM (getL 2) (getL 2)) (getL 1)) (ret (.int 2147483629)))))
noncomputable def F_l_mix : Pf := runP 3 g_l_mix
theorem ok_l_mix {P : Program} {wd : World} {K : PySem.W.Frag} {mg : Str → Option Value} {base : Heap} (T : Txt K mg) (F : Top K mg "_law_mix" s_l_mix ["_law_cell", "_law_k"])  :
    FnP P wd K mg base "_law_mix" 2 1 F_l_mix :=
  F.fn sc_l_mix (by decide) fun f cdv A outer s H E hr =>
    ((dss_cons (ds_set 2 (de_mod (de_mul (de_add (de_add (de_mod (de_v 0) de_int) (de_mul de_int (de_v 1))) de_int) de_int) de_int) sc_l_mix.nd)
    (dss_one (ds_ret (de_mod (de_add (de_mul (de_v 2) (de_v 2)) (de_v 1)) de_int)))) : DSs _ W0 (defBody s_l_mix) g_l_mix)
abbrev s_l_letters : Stmt := topS 23
theorem sc_l_letters : FnScope ["_law_cell", "_law_some", "_law_k"] ["_law_cell"] (defScope s_l_letters) := ⟨rfl, rfl, rfl, by decide +kernel, rfl, by decide +kernel, by decide +kernel⟩
noncomputable def c_l_letters_1 : M Cell :=
    (lcM (bnd (consM (bin addM (ret (.int 1)) (bin modM (bnd (consM (getL 0) (consM (ret (.int 50)) (ret []))) (callP 2 F_l_mix)) (ret (.int 12)))) (ret [])) ran1I) 2 yesM (bin ixAM (getL 1) (bin modM (bnd (consM (getL 0) (consM (getL 2) (ret []))) (callP 2 F_l_mix)) (ret (.int 26)))))
noncomputable def g_l_letters : M Out :=
    (seqM (asgM (ret (.str "abcdefghijklmnopqrstuvwxyz")) (setL 1))
    (retM (jnM (ret (.str "")) (frzM c_l_letters_1))))
noncomputable def F_l_letters : Pf := runP 3 g_l_letters
theorem ok_l_letters {P : Program} {wd : World} {K : PySem.W.Frag} {mg : Str → Option Value} {base : Heap} (T : Txt K mg) (F : Top K mg "_law_letters" s_l_letters ["_law_cell"]) (c_l_mix : FnP P wd K mg base "_law_mix" 2 1 F_l_mix) :
    FnP P wd K mg base "_law_letters" 1 2 F_l_letters :=
  F.fn sc_l_letters (by decide) fun f cdv A outer s H E hr =>
    ((dss_cons (ds_set 1 de_str sc_l_letters.nd)
    (dss_one (ds_ret (de_join de_str (de_frz (dn_lc rfl sc_l_letters.nd (di_range1 T.b_range (da_cons (de_add de_int (de_mod (de_callP c_l_mix (hr.mono (by decide)) (da_cons (de_v 0) (da_cons de_int da_nil))) de_int)) da_nil)) (blkOk_by (own := [("_law_k", 2)]) (N := ["_law_cell", "_law_some", "_law_k"]) (sc := defScope s_l_letters) (by decide +kernel)) (fun _ _ _ _ _ => pg_n (i := 2) sc_l_letters.nd) (fun _ _ _ _ _ => tests_nil) (fun _ _ _ _ _ => (de_ixA (hu_of hr) (de_v 1) (de_mod (de_callP c_l_mix (hr.mono (by decide)) (da_cons (de_v 0) (da_cons (de_v 2) da_nil))) de_int))))))))) : DSs _ W0 (defBody s_l_letters) g_l_letters)
abbrev s_l_key : Stmt := topS 24
theorem sc_l_key : FnScope ["_law_cell"] ["_law_cell"] (defScope s_l_key) := ⟨rfl, rfl, rfl, by decide +kernel, rfl, by decide +kernel, by decide +kernel⟩
noncomputable def g_l_key : M Out :=
    (seqM (ifM (tst (bin eqM (bin modM (getL 0) (ret (.int 2))) (ret (.int 0)))) (retM (bin subM (bin modM (bin divM (getL 0) (ret (.int 2))) (bin subM (bin mulM (ret (.int 2)) (bin powM (ret (.int 10)) (ret (.int 30)))) (ret (.int 1)))) (bin subM (bin powM (ret (.int 10)) (ret (.int 30))) (ret (.int 1))))) (ret .nx))
    (retM (bin addM (bin addM (bnd (consM (bin divM (getL 0) (ret (.int 2))) (ret [])) (callP 1 F_l_letters)) (ret (.str " ~"))) (bnd (consM (bin divM (getL 0) (ret (.int 3))) (ret [])) (callP 1 F_l_letters)))))
noncomputable def F_l_key : Pf := runP 1 g_l_key
theorem ok_l_key {P : Program} {wd : World} {K : PySem.W.Frag} {mg : Str → Option Value} {base : Heap} (T : Txt K mg) (F : Top K mg "_law_key" s_l_key ["_law_cell"]) (c_l_letters : FnP P wd K mg base "_law_letters" 1 2 F_l_letters) :
    FnP P wd K mg base "_law_key" 1 3 F_l_key :=
  F.fn sc_l_key (by decide) fun f cdv A outer s H E hr =>
    ((dss_cons (ds_if (dt_cmp (op_eqA (units_of hr)) rop_eq (de_mod (de_v 0) de_int) de_int) (dss_one (ds_ret (de_sub (de_mod (de_div (de_v 0) de_int) (de_sub (de_mul de_int (de_pow de_int de_int)) de_int)) (de_sub (de_pow de_int de_int) de_int)))) dss_nil)
    (dss_one (ds_ret (de_add (de_add (de_callP c_l_letters (hr.mono (by decide)) (da_cons (de_div (de_v 0) de_int) da_nil)) de_str) (de_callP c_l_letters (hr.mono (by decide)) (da_cons (de_div (de_v 0) de_int) da_nil)))))) : DSs _ W0 (defBody s_l_key) g_l_key)
abbrev s_l_classes : Stmt := topS 27
theorem sc_l_classes : FnScope ["_law_e", "_law_some"] ["_law_e"] (defScope s_l_classes) := ⟨rfl, rfl, rfl, by decide +kernel, rfl, by decide +kernel, by decide +kernel⟩
noncomputable def g_l_classes : M Out :=
    (seqM (asgM (frzM (lstN (consM (bnd (getL 0) (isE [("BadKey", true), ("BadValue", false), ("BadWord", false), ("BadElders", false), ("BadText", false), ("BadRow", false), ("Unsaved", false), ("NotRising", false), ("NoRow", false), ("Unfit", false), ("NoColumn", false), ("ColumnThere", false), ("NoClash", false), ("NoPage", false), ("NoMake", false), ("NotBroken", false), ("NoName", false), ("InUse", false)])) (consM (bnd (getL 0) (isE [("BadKey", false), ("BadValue", true), ("BadWord", false), ("BadElders", false), ("BadText", false), ("BadRow", false), ("Unsaved", false), ("NotRising", false), ("NoRow", false), ("Unfit", false), ("NoColumn", false), ("ColumnThere", false), ("NoClash", false), ("NoPage", false), ("NoMake", false), ("NotBroken", false), ("NoName", false), ("InUse", false)])) (consM (bnd (getL 0) (isE [("BadKey", false), ("BadValue", false), ("BadWord", true), ("BadElders", false), ("BadText", false), ("BadRow", false), ("Unsaved", false), ("NotRising", false), ("NoRow", false), ("Unfit", false), ("NoColumn", false), ("ColumnThere", false), ("NoClash", false), ("NoPage", false), ("NoMake", false), ("NotBroken", false), ("NoName", false), ("InUse", false)])) (consM (bnd (getL 0) (isE [("BadKey", false), ("BadValue", false), ("BadWord", false), ("BadElders", true), ("BadText", false), ("BadRow", false), ("Unsaved", false), ("NotRising", false), ("NoRow", false), ("Unfit", false), ("NoColumn", false), ("ColumnThere", false), ("NoClash", false), ("NoPage", false), ("NoMake", false), ("NotBroken", false), ("NoName", false), ("InUse", false)])) (ret []))))))) (setL 1))
    (seqM (asgM (bin addM (getL 1) (frzM (lstN (consM (bnd (getL 0) (isE [("BadKey", false), ("BadValue", false), ("BadWord", false), ("BadElders", false), ("BadText", true), ("BadRow", false), ("Unsaved", false), ("NotRising", false), ("NoRow", false), ("Unfit", false), ("NoColumn", false), ("ColumnThere", false), ("NoClash", false), ("NoPage", false), ("NoMake", false), ("NotBroken", false), ("NoName", false), ("InUse", false)])) (consM (bnd (getL 0) (isE [("BadKey", false), ("BadValue", false), ("BadWord", false), ("BadElders", false), ("BadText", false), ("BadRow", true), ("Unsaved", false), ("NotRising", false), ("NoRow", false), ("Unfit", false), ("NoColumn", false), ("ColumnThere", false), ("NoClash", false), ("NoPage", false), ("NoMake", false), ("NotBroken", false), ("NoName", false), ("InUse", false)])) (consM (bnd (getL 0) (isE [("BadKey", false), ("BadValue", false), ("BadWord", false), ("BadElders", false), ("BadText", false), ("BadRow", false), ("Unsaved", true), ("NotRising", false), ("NoRow", false), ("Unfit", false), ("NoColumn", false), ("ColumnThere", false), ("NoClash", false), ("NoPage", false), ("NoMake", false), ("NotBroken", false), ("NoName", false), ("InUse", false)])) (consM (bnd (getL 0) (isE [("BadKey", false), ("BadValue", false), ("BadWord", false), ("BadElders", false), ("BadText", false), ("BadRow", false), ("Unsaved", false), ("NotRising", true), ("NoRow", false), ("Unfit", false), ("NoColumn", false), ("ColumnThere", false), ("NoClash", false), ("NoPage", false), ("NoMake", false), ("NotBroken", false), ("NoName", false), ("InUse", false)])) (ret [])))))))) (setL 1))
    (seqM (asgM (bin addM (getL 1) (frzM (lstN (consM (bnd (getL 0) (isE [("BadKey", false), ("BadValue", false), ("BadWord", false), ("BadElders", false), ("BadText", false), ("BadRow", false), ("Unsaved", false), ("NotRising", false), ("NoRow", true), ("Unfit", false), ("NoColumn", false), ("ColumnThere", false), ("NoClash", false), ("NoPage", false), ("NoMake", false), ("NotBroken", false), ("NoName", false), ("InUse", false)])) (consM (bnd (getL 0) (isE [("BadKey", false), ("BadValue", false), ("BadWord", false), ("BadElders", false), ("BadText", false), ("BadRow", false), ("Unsaved", false), ("NotRising", false), ("NoRow", false), ("Unfit", true), ("NoColumn", false), ("ColumnThere", false), ("NoClash", false), ("NoPage", false), ("NoMake", false), ("NotBroken", false), ("NoName", false), ("InUse", false)])) (consM (bnd (getL 0) (isE [("BadKey", false), ("BadValue", false), ("BadWord", false), ("BadElders", false), ("BadText", false), ("BadRow", false), ("Unsaved", false), ("NotRising", false), ("NoRow", false), ("Unfit", false), ("NoColumn", true), ("ColumnThere", false), ("NoClash", false), ("NoPage", false), ("NoMake", false), ("NotBroken", false), ("NoName", false), ("InUse", false)])) (consM (bnd (getL 0) (isE [("BadKey", false), ("BadValue", false), ("BadWord", false), ("BadElders", false), ("BadText", false), ("BadRow", false), ("Unsaved", false), ("NotRising", false), ("NoRow", false), ("Unfit", false), ("NoColumn", false), ("ColumnThere", true), ("NoClash", false), ("NoPage", false), ("NoMake", false), ("NotBroken", false), ("NoName", false), ("InUse", false)])) (ret [])))))))) (setL 1))
    (seqM (asgM (bin addM (getL 1) (frzM (lstN (consM (bnd (getL 0) (isE [("BadKey", false), ("BadValue", false), ("BadWord", false), ("BadElders", false), ("BadText", false), ("BadRow", false), ("Unsaved", false), ("NotRising", false), ("NoRow", false), ("Unfit", false), ("NoColumn", false), ("ColumnThere", false), ("NoClash", true), ("NoPage", false), ("NoMake", false), ("NotBroken", false), ("NoName", false), ("InUse", false)])) (consM (bnd (getL 0) (isE [("BadKey", false), ("BadValue", false), ("BadWord", false), ("BadElders", false), ("BadText", false), ("BadRow", false), ("Unsaved", false), ("NotRising", false), ("NoRow", false), ("Unfit", false), ("NoColumn", false), ("ColumnThere", false), ("NoClash", false), ("NoPage", true), ("NoMake", false), ("NotBroken", false), ("NoName", false), ("InUse", false)])) (consM (bnd (getL 0) (isE [("BadKey", false), ("BadValue", false), ("BadWord", false), ("BadElders", false), ("BadText", false), ("BadRow", false), ("Unsaved", false), ("NotRising", false), ("NoRow", false), ("Unfit", false), ("NoColumn", false), ("ColumnThere", false), ("NoClash", false), ("NoPage", false), ("NoMake", true), ("NotBroken", false), ("NoName", false), ("InUse", false)])) (consM (bnd (getL 0) (isE [("BadKey", false), ("BadValue", false), ("BadWord", false), ("BadElders", false), ("BadText", false), ("BadRow", false), ("Unsaved", false), ("NotRising", false), ("NoRow", false), ("Unfit", false), ("NoColumn", false), ("ColumnThere", false), ("NoClash", false), ("NoPage", false), ("NoMake", false), ("NotBroken", true), ("NoName", false), ("InUse", false)])) (ret [])))))))) (setL 1))
    (retM (bin addM (getL 1) (frzM (lstN (consM (bnd (getL 0) (isE [("BadKey", false), ("BadValue", false), ("BadWord", false), ("BadElders", false), ("BadText", false), ("BadRow", false), ("Unsaved", false), ("NotRising", false), ("NoRow", false), ("Unfit", false), ("NoColumn", false), ("ColumnThere", false), ("NoClash", false), ("NoPage", false), ("NoMake", false), ("NotBroken", false), ("NoName", true), ("InUse", false)])) (consM (bnd (getL 0) (isE [("BadKey", false), ("BadValue", false), ("BadWord", false), ("BadElders", false), ("BadText", false), ("BadRow", false), ("Unsaved", false), ("NotRising", false), ("NoRow", false), ("Unfit", false), ("NoColumn", false), ("ColumnThere", false), ("NoClash", false), ("NoPage", false), ("NoMake", false), ("NotBroken", false), ("NoName", false), ("InUse", true)])) (ret [])))))))))))
noncomputable def F_l_classes : Pf := runP 2 g_l_classes
theorem ok_l_classes {P : Program} {wd : World} {K : PySem.W.Frag} {mg : Str → Option Value} {base : Heap} (T : Txt K mg) (F : Top K mg "_law_classes" s_l_classes ["_law_e"])  :
    FnP P wd K mg base "_law_classes" 1 1 F_l_classes :=
  F.fn sc_l_classes (by decide) fun f cdv A outer s H E hr =>
    ((dss_cons (ds_set 1 (de_frz (dn_lst (da_cons (de_isE (T := "BadKey") (tab := [("BadKey", true), ("BadValue", false), ("BadWord", false), ("BadElders", false), ("BadText", false), ("BadRow", false), ("Unsaved", false), ("NotRising", false), ("NoRow", false), ("Unfit", false), ("NoColumn", false), ("ColumnThere", false), ("NoClash", false), ("NoPage", false), ("NoMake", false), ("NotBroken", false), ("NoName", false), ("InUse", false)]) (.cons T.xi_BadKey_BadKey (.cons T.xi_BadValue_BadKey (.cons T.xi_BadWord_BadKey (.cons T.xi_BadElders_BadKey (.cons T.xi_BadText_BadKey (.cons T.xi_BadRow_BadKey (.cons T.xi_Unsaved_BadKey (.cons T.xi_NotRising_BadKey (.cons T.xi_NoRow_BadKey (.cons T.xi_Unfit_BadKey (.cons T.xi_NoColumn_BadKey (.cons T.xi_ColumnThere_BadKey (.cons T.xi_NoClash_BadKey (.cons T.xi_NoPage_BadKey (.cons T.xi_NoMake_BadKey (.cons T.xi_NotBroken_BadKey (.cons T.xi_NoName_BadKey (.cons T.xi_InUse_BadKey .nil)))))))))))))))))) (.cons T.xk_BadKey (.cons T.xk_BadValue (.cons T.xk_BadWord (.cons T.xk_BadElders (.cons T.xk_BadText (.cons T.xk_BadRow (.cons T.xk_Unsaved (.cons T.xk_NotRising (.cons T.xk_NoRow (.cons T.xk_Unfit (.cons T.xk_NoColumn (.cons T.xk_ColumnThere (.cons T.xk_NoClash (.cons T.xk_NoPage (.cons T.xk_NoMake (.cons T.xk_NotBroken (.cons T.xk_NoName (.cons T.xk_InUse .nil)))))))))))))))))) T.xn_BadKey T.b_isinstance (de_v 0)) (da_cons (de_isE (T := "BadValue") (tab := [("BadKey", false), ("BadValue", true), ("BadWord", false), ("BadElders", false), ("BadText", false), ("BadRow", false), ("Unsaved", false), ("NotRising", false), ("NoRow", false), ("Unfit", false), ("NoColumn", false), ("ColumnThere", false), ("NoClash", false), ("NoPage", false), ("NoMake", false), ("NotBroken", false), ("NoName", false), ("InUse", false)]) (.cons T.xi_BadKey_BadValue (.cons T.xi_BadValue_BadValue (.cons T.xi_BadWord_BadValue (.cons T.xi_BadElders_BadValue (.cons T.xi_BadText_BadValue (.cons T.xi_BadRow_BadValue (.cons T.xi_Unsaved_BadValue (.cons T.xi_NotRising_BadValue (.cons T.xi_NoRow_BadValue (.cons T.xi_Unfit_BadValue (.cons T.xi_NoColumn_BadValue (.cons T.xi_ColumnThere_BadValue (.cons T.xi_NoClash_BadValue (.cons T.xi_NoPage_BadValue (.cons T.xi_NoMake_BadValue (.cons T.xi_NotBroken_BadValue (.cons T.xi_NoName_BadValue (.cons T.xi_InUse_BadValue .nil)))))))))))))))))) (.cons T.xk_BadKey (.cons T.xk_BadValue (.cons T.xk_BadWord (.cons T.xk_BadElders (.cons T.xk_BadText (.cons T.xk_BadRow (.cons T.xk_Unsaved (.cons T.xk_NotRising (.cons T.xk_NoRow (.cons T.xk_Unfit (.cons T.xk_NoColumn (.cons T.xk_ColumnThere (.cons T.xk_NoClash (.cons T.xk_NoPage (.cons T.xk_NoMake (.cons T.xk_NotBroken (.cons T.xk_NoName (.cons T.xk_InUse .nil)))))))))))))))))) T.xn_BadValue T.b_isinstance (de_v 0)) (da_cons (de_isE (T := "BadWord") (tab := [("BadKey", false), ("BadValue", false), ("BadWord", true), ("BadElders", false), ("BadText", false), ("BadRow", false), ("Unsaved", false), ("NotRising", false), ("NoRow", false), ("Unfit", false), ("NoColumn", false), ("ColumnThere", false), ("NoClash", false), ("NoPage", false), ("NoMake", false), ("NotBroken", false), ("NoName", false), ("InUse", false)]) (.cons T.xi_BadKey_BadWord (.cons T.xi_BadValue_BadWord (.cons T.xi_BadWord_BadWord (.cons T.xi_BadElders_BadWord (.cons T.xi_BadText_BadWord (.cons T.xi_BadRow_BadWord (.cons T.xi_Unsaved_BadWord (.cons T.xi_NotRising_BadWord (.cons T.xi_NoRow_BadWord (.cons T.xi_Unfit_BadWord (.cons T.xi_NoColumn_BadWord (.cons T.xi_ColumnThere_BadWord (.cons T.xi_NoClash_BadWord (.cons T.xi_NoPage_BadWord (.cons T.xi_NoMake_BadWord (.cons T.xi_NotBroken_BadWord (.cons T.xi_NoName_BadWord (.cons T.xi_InUse_BadWord .nil)))))))))))))))))) (.cons T.xk_BadKey (.cons T.xk_BadValue (.cons T.xk_BadWord (.cons T.xk_BadElders (.cons T.xk_BadText (.cons T.xk_BadRow (.cons T.xk_Unsaved (.cons T.xk_NotRising (.cons T.xk_NoRow (.cons T.xk_Unfit (.cons T.xk_NoColumn (.cons T.xk_ColumnThere (.cons T.xk_NoClash (.cons T.xk_NoPage (.cons T.xk_NoMake (.cons T.xk_NotBroken (.cons T.xk_NoName (.cons T.xk_InUse .nil)))))))))))))))))) T.xn_BadWord T.b_isinstance (de_v 0)) (da_cons (de_isE (T := "BadElders") (tab := [("BadKey", false), ("BadValue", false), ("BadWord", false), ("BadElders", true), ("BadText", false), ("BadRow", false), ("Unsaved", false), ("NotRising", false), ("NoRow", false), ("Unfit", false), ("NoColumn", false), ("ColumnThere", false), ("NoClash", false), ("NoPage", false), ("NoMake", false), ("NotBroken", false), ("NoName", false), ("InUse", false)]) (.cons T.xi_BadKey_BadElders (.cons T.xi_BadValue_BadElders (.cons T.xi_BadWord_BadElders (.cons T.xi_BadElders_BadElders (.cons T.xi_BadText_BadElders (.cons T.xi_BadRow_BadElders (.cons T.xi_Unsaved_BadElders (.cons T.xi_NotRising_BadElders (.cons T.xi_NoRow_BadElders (.cons T.xi_Unfit_BadElders (.cons T.xi_NoColumn_BadElders (.cons T.xi_ColumnThere_BadElders (.cons T.xi_NoClash_BadElders (.cons T.xi_NoPage_BadElders (.cons T.xi_NoMake_BadElders (.cons T.xi_NotBroken_BadElders (.cons T.xi_NoName_BadElders (.cons T.xi_InUse_BadElders .nil)))))))))))))))))) (.cons T.xk_BadKey (.cons T.xk_BadValue (.cons T.xk_BadWord (.cons T.xk_BadElders (.cons T.xk_BadText (.cons T.xk_BadRow (.cons T.xk_Unsaved (.cons T.xk_NotRising (.cons T.xk_NoRow (.cons T.xk_Unfit (.cons T.xk_NoColumn (.cons T.xk_ColumnThere (.cons T.xk_NoClash (.cons T.xk_NoPage (.cons T.xk_NoMake (.cons T.xk_NotBroken (.cons T.xk_NoName (.cons T.xk_InUse .nil)))))))))))))))))) T.xn_BadElders T.b_isinstance (de_v 0)) da_nil)))))) sc_l_classes.nd)
    (dss_cons (ds_set 1 (de_add (de_v 1) (de_frz (dn_lst (da_cons (de_isE (T := "BadText") (tab := [("BadKey", false), ("BadValue", false), ("BadWord", false), ("BadElders", false), ("BadText", true), ("BadRow", false), ("Unsaved", false), ("NotRising", false), ("NoRow", false), ("Unfit", false), ("NoColumn", false), ("ColumnThere", false), ("NoClash", false), ("NoPage", false), ("NoMake", false), ("NotBroken", false), ("NoName", false), ("InUse", false)]) (.cons T.xi_BadKey_BadText (.cons T.xi_BadValue_BadText (.cons T.xi_BadWord_BadText (.cons T.xi_BadElders_BadText (.cons T.xi_BadText_BadText (.cons T.xi_BadRow_BadText (.cons T.xi_Unsaved_BadText (.cons T.xi_NotRising_BadText (.cons T.xi_NoRow_BadText (.cons T.xi_Unfit_BadText (.cons T.xi_NoColumn_BadText (.cons T.xi_ColumnThere_BadText (.cons T.xi_NoClash_BadText (.cons T.xi_NoPage_BadText (.cons T.xi_NoMake_BadText (.cons T.xi_NotBroken_BadText (.cons T.xi_NoName_BadText (.cons T.xi_InUse_BadText .nil)))))))))))))))))) (.cons T.xk_BadKey (.cons T.xk_BadValue (.cons T.xk_BadWord (.cons T.xk_BadElders (.cons T.xk_BadText (.cons T.xk_BadRow (.cons T.xk_Unsaved (.cons T.xk_NotRising (.cons T.xk_NoRow (.cons T.xk_Unfit (.cons T.xk_NoColumn (.cons T.xk_ColumnThere (.cons T.xk_NoClash (.cons T.xk_NoPage (.cons T.xk_NoMake (.cons T.xk_NotBroken (.cons T.xk_NoName (.cons T.xk_InUse .nil)))))))))))))))))) T.xn_BadText T.b_isinstance (de_v 0)) (da_cons (de_isE (T := "BadRow") (tab := [("BadKey", false), ("BadValue", false), ("BadWord", false), ("BadElders", false), ("BadText", false), ("BadRow", true), ("Unsaved", false), ("NotRising", false), ("NoRow", false), ("Unfit", false), ("NoColumn", false), ("ColumnThere", false), ("NoClash", false), ("NoPage", false), ("NoMake", false), ("NotBroken", false), ("NoName", false), ("InUse", false)]) (.cons T.xi_BadKey_BadRow (.cons T.xi_BadValue_BadRow (.cons T.xi_BadWord_BadRow (.cons T.xi_BadElders_BadRow (.cons T.xi_BadText_BadRow (.cons T.xi_BadRow_BadRow (.cons T.xi_Unsaved_BadRow (.cons T.xi_NotRising_BadRow (.cons T.xi_NoRow_BadRow (.cons T.xi_Unfit_BadRow (.cons T.xi_NoColumn_BadRow (.cons T.xi_ColumnThere_BadRow (.cons T.xi_NoClash_BadRow (.cons T.xi_NoPage_BadRow (.cons T.xi_NoMake_BadRow (.cons T.xi_NotBroken_BadRow (.cons T.xi_NoName_BadRow (.cons T.xi_InUse_BadRow .nil)))))))))))))))))) (.cons T.xk_BadKey (.cons T.xk_BadValue (.cons T.xk_BadWord (.cons T.xk_BadElders (.cons T.xk_BadText (.cons T.xk_BadRow (.cons T.xk_Unsaved (.cons T.xk_NotRising (.cons T.xk_NoRow (.cons T.xk_Unfit (.cons T.xk_NoColumn (.cons T.xk_ColumnThere (.cons T.xk_NoClash (.cons T.xk_NoPage (.cons T.xk_NoMake (.cons T.xk_NotBroken (.cons T.xk_NoName (.cons T.xk_InUse .nil)))))))))))))))))) T.xn_BadRow T.b_isinstance (de_v 0)) (da_cons (de_isE (T := "Unsaved") (tab := [("BadKey", false), ("BadValue", false), ("BadWord", false), ("BadElders", false), ("BadText", false), ("BadRow", false), ("Unsaved", true), ("NotRising", false), ("NoRow", false), ("Unfit", false), ("NoColumn", false), ("ColumnThere", false), ("NoClash", false), ("NoPage", false), ("NoMake", false), ("NotBroken", false), ("NoName", false), ("InUse", false)]) (.cons T.xi_BadKey_Unsaved (.cons T.xi_BadValue_Unsaved (.cons T.xi_BadWord_Unsaved (.cons T.xi_BadElders_Unsaved (.cons T.xi_BadText_Unsaved (.cons T.xi_BadRow_Unsaved (.cons T.xi_Unsaved_Unsaved (.cons T.xi_NotRising_Unsaved (.cons T.xi_NoRow_Unsaved (.cons T.xi_Unfit_Unsaved (.cons T.xi_NoColumn_Unsaved (.cons T.xi_ColumnThere_Unsaved (.cons T.xi_NoClash_Unsaved (.cons T.xi_NoPage_Unsaved (.cons T.xi_NoMake_Unsaved (.cons T.xi_NotBroken_Unsaved (.cons T.xi_NoName_Unsaved (.cons T.xi_InUse_Unsaved .nil)))))))))))))))))) (.cons T.xk_BadKey (.cons T.xk_BadValue (.cons T.xk_BadWord (.cons T.xk_BadElders (.cons T.xk_BadText (.cons T.xk_BadRow (.cons T.xk_Unsaved (.cons T.xk_NotRising (.cons T.xk_NoRow (.cons T.xk_Unfit (.cons T.xk_NoColumn (.cons T.xk_ColumnThere (.cons T.xk_NoClash (.cons T.xk_NoPage (.cons T.xk_NoMake (.cons T.xk_NotBroken (.cons T.xk_NoName (.cons T.xk_InUse .nil)))))))))))))))))) T.xn_Unsaved T.b_isinstance (de_v 0)) (da_cons (de_isE (T := "NotRising") (tab := [("BadKey", false), ("BadValue", false), ("BadWord", false), ("BadElders", false), ("BadText", false), ("BadRow", false), ("Unsaved", false), ("NotRising", true), ("NoRow", false), ("Unfit", false), ("NoColumn", false), ("ColumnThere", false), ("NoClash", false), ("NoPage", false), ("NoMake", false), ("NotBroken", false), ("NoName", false), ("InUse", false)]) (.cons T.xi_BadKey_NotRising (.cons T.xi_BadValue_NotRising (.cons T.xi_BadWord_NotRising (.cons T.xi_BadElders_NotRising (.cons T.xi_BadText_NotRising (.cons T.xi_BadRow_NotRising (.cons T.xi_Unsaved_NotRising (.cons T.xi_NotRising_NotRising (.cons T.xi_NoRow_NotRising (.cons T.xi_Unfit_NotRising (.cons T.xi_NoColumn_NotRising (.cons T.xi_ColumnThere_NotRising (.cons T.xi_NoClash_NotRising (.cons T.xi_NoPage_NotRising (.cons T.xi_NoMake_NotRising (.cons T.xi_NotBroken_NotRising (.cons T.xi_NoName_NotRising (.cons T.xi_InUse_NotRising .nil)))))))))))))))))) (.cons T.xk_BadKey (.cons T.xk_BadValue (.cons T.xk_BadWord (.cons T.xk_BadElders (.cons T.xk_BadText (.cons T.xk_BadRow (.cons T.xk_Unsaved (.cons T.xk_NotRising (.cons T.xk_NoRow (.cons T.xk_Unfit (.cons T.xk_NoColumn (.cons T.xk_ColumnThere (.cons T.xk_NoClash (.cons T.xk_NoPage (.cons T.xk_NoMake (.cons T.xk_NotBroken (.cons T.xk_NoName (.cons T.xk_InUse .nil)))))))))))))))))) T.xn_NotRising T.b_isinstance (de_v 0)) da_nil))))))) sc_l_classes.nd)
    (dss_cons (ds_set 1 (de_add (de_v 1) (de_frz (dn_lst (da_cons (de_isE (T := "NoRow") (tab := [("BadKey", false), ("BadValue", false), ("BadWord", false), ("BadElders", false), ("BadText", false), ("BadRow", false), ("Unsaved", false), ("NotRising", false), ("NoRow", true), ("Unfit", false), ("NoColumn", false), ("ColumnThere", false), ("NoClash", false), ("NoPage", false), ("NoMake", false), ("NotBroken", false), ("NoName", false), ("InUse", false)]) (.cons T.xi_BadKey_NoRow (.cons T.xi_BadValue_NoRow (.cons T.xi_BadWord_NoRow (.cons T.xi_BadElders_NoRow (.cons T.xi_BadText_NoRow (.cons T.xi_BadRow_NoRow (.cons T.xi_Unsaved_NoRow (.cons T.xi_NotRising_NoRow (.cons T.xi_NoRow_NoRow (.cons T.xi_Unfit_NoRow (.cons T.xi_NoColumn_NoRow (.cons T.xi_ColumnThere_NoRow (.cons T.xi_NoClash_NoRow (.cons T.xi_NoPage_NoRow (.cons T.xi_NoMake_NoRow (.cons T.xi_NotBroken_NoRow (.cons T.xi_NoName_NoRow (.cons T.xi_InUse_NoRow .nil)))))))))))))))))) (.cons T.xk_BadKey (.cons T.xk_BadValue (.cons T.xk_BadWord (.cons T.xk_BadElders (.cons T.xk_BadText (.cons T.xk_BadRow (.cons T.xk_Unsaved (.cons T.xk_NotRising (.cons T.xk_NoRow (.cons T.xk_Unfit (.cons T.xk_NoColumn (.cons T.xk_ColumnThere (.cons T.xk_NoClash (.cons T.xk_NoPage (.cons T.xk_NoMake (.cons T.xk_NotBroken (.cons T.xk_NoName (.cons T.xk_InUse .nil)))))))))))))))))) T.xn_NoRow T.b_isinstance (de_v 0)) (da_cons (de_isE (T := "Unfit") (tab := [("BadKey", false), ("BadValue", false), ("BadWord", false), ("BadElders", false), ("BadText", false), ("BadRow", false), ("Unsaved", false), ("NotRising", false), ("NoRow", false), ("Unfit", true), ("NoColumn", false), ("ColumnThere", false), ("NoClash", false), ("NoPage", false), ("NoMake", false), ("NotBroken", false), ("NoName", false), ("InUse", false)]) (.cons T.xi_BadKey_Unfit (.cons T.xi_BadValue_Unfit (.cons T.xi_BadWord_Unfit (.cons T.xi_BadElders_Unfit (.cons T.xi_BadText_Unfit (.cons T.xi_BadRow_Unfit (.cons T.xi_Unsaved_Unfit (.cons T.xi_NotRising_Unfit (.cons T.xi_NoRow_Unfit (.cons T.xi_Unfit_Unfit (.cons T.xi_NoColumn_Unfit (.cons T.xi_ColumnThere_Unfit (.cons T.xi_NoClash_Unfit (.cons T.xi_NoPage_Unfit (.cons T.xi_NoMake_Unfit (.cons T.xi_NotBroken_Unfit (.cons T.xi_NoName_Unfit (.cons T.xi_InUse_Unfit .nil)))))))))))))))))) (.cons T.xk_BadKey (.cons T.xk_BadValue (.cons T.xk_BadWord (.cons T.xk_BadElders (.cons T.xk_BadText (.cons T.xk_BadRow (.cons T.xk_Unsaved (.cons T.xk_NotRising (.cons T.xk_NoRow (.cons T.xk_Unfit (.cons T.xk_NoColumn (.cons T.xk_ColumnThere (.cons T.xk_NoClash (.cons T.xk_NoPage (.cons T.xk_NoMake (.cons T.xk_NotBroken (.cons T.xk_NoName (.cons T.xk_InUse .nil)))))))))))))))))) T.xn_Unfit T.b_isinstance (de_v 0)) (da_cons (de_isE (T := "NoColumn") (tab := [("BadKey", false), ("BadValue", false), ("BadWord", false), ("BadElders", false), ("BadText", false), ("BadRow", false), ("Unsaved", false), ("NotRising", false), ("NoRow", false), ("Unfit", false), ("NoColumn", true), ("ColumnThere", false), ("NoClash", false), ("NoPage", false), ("NoMake", false), ("NotBroken", false), ("NoName", false), ("InUse", false)]) (.cons T.xi_BadKey_NoColumn (.cons T.xi_BadValue_NoColumn (.cons T.xi_BadWord_NoColumn (.cons T.xi_BadElders_NoColumn (.cons T.xi_BadText_NoColumn (.cons T.xi_BadRow_NoColumn (.cons T.xi_Unsaved_NoColumn (.cons T.xi_NotRising_NoColumn (.cons T.xi_NoRow_NoColumn (.cons T.xi_Unfit_NoColumn (.cons T.xi_NoColumn_NoColumn (.cons T.xi_ColumnThere_NoColumn (.cons T.xi_NoClash_NoColumn (.cons T.xi_NoPage_NoColumn (.cons T.xi_NoMake_NoColumn (.cons T.xi_NotBroken_NoColumn (.cons T.xi_NoName_NoColumn (.cons T.xi_InUse_NoColumn .nil)))))))))))))))))) (.cons T.xk_BadKey (.cons T.xk_BadValue (.cons T.xk_BadWord (.cons T.xk_BadElders (.cons T.xk_BadText (.cons T.xk_BadRow (.cons T.xk_Unsaved (.cons T.xk_NotRising (.cons T.xk_NoRow (.cons T.xk_Unfit (.cons T.xk_NoColumn (.cons T.xk_ColumnThere (.cons T.xk_NoClash (.cons T.xk_NoPage (.cons T.xk_NoMake (.cons T.xk_NotBroken (.cons T.xk_NoName (.cons T.xk_InUse .nil)))))))))))))))))) T.xn_NoColumn T.b_isinstance (de_v 0)) (da_cons (de_isE (T := "ColumnThere") (tab := [("BadKey", false), ("BadValue", false), ("BadWord", false), ("BadElders", false), ("BadText", false), ("BadRow", false), ("Unsaved", false), ("NotRising", false), ("NoRow", false), ("Unfit", false), ("NoColumn", false), ("ColumnThere", true), ("NoClash", false), ("NoPage", false), ("NoMake", false), ("NotBroken", false), ("NoName", false), ("InUse", false)]) (.cons T.xi_BadKey_ColumnThere (.cons T.xi_BadValue_ColumnThere (.cons T.xi_BadWord_ColumnThere (.cons T.xi_BadElders_ColumnThere (.cons T.xi_BadText_ColumnThere (.cons T.xi_BadRow_ColumnThere (.cons T.xi_Unsaved_ColumnThere (.cons T.xi_NotRising_ColumnThere (.cons T.xi_NoRow_ColumnThere (.cons T.xi_Unfit_ColumnThere (.cons T.xi_NoColumn_ColumnThere (.cons T.xi_ColumnThere_ColumnThere (.cons T.xi_NoClash_ColumnThere (.cons T.xi_NoPage_ColumnThere (.cons T.xi_NoMake_ColumnThere (.cons T.xi_NotBroken_ColumnThere (.cons T.xi_NoName_ColumnThere (.cons T.xi_InUse_ColumnThere .nil)))))))))))))))))) (.cons T.xk_BadKey (.cons T.xk_BadValue (.cons T.xk_BadWord (.cons T.xk_BadElders (.cons T.xk_BadText (.cons T.xk_BadRow (.cons T.xk_Unsaved (.cons T.xk_NotRising (.cons T.xk_NoRow (.cons T.xk_Unfit (.cons T.xk_NoColumn (.cons T.xk_ColumnThere (.cons T.xk_NoClash (.cons T.xk_NoPage (.cons T.xk_NoMake (.cons T.xk_NotBroken (.cons T.xk_NoName (.cons T.xk_InUse .nil)))))))))))))))))) T.xn_ColumnThere T.b_isinstance (de_v 0)) da_nil))))))) sc_l_classes.nd)
    (dss_cons (ds_set 1 (de_add (de_v 1) (de_frz (dn_lst (da_cons (de_isE (T := "NoClash") (tab := [("BadKey", false), ("BadValue", false), ("BadWord", false), ("BadElders", false), ("BadText", false), ("BadRow", false), ("Unsaved", false), ("NotRising", false), ("NoRow", false), ("Unfit", false), ("NoColumn", false), ("ColumnThere", false), ("NoClash", true), ("NoPage", false), ("NoMake", false), ("NotBroken", false), ("NoName", false), ("InUse", false)]) (.cons T.xi_BadKey_NoClash (.cons T.xi_BadValue_NoClash (.cons T.xi_BadWord_NoClash (.cons T.xi_BadElders_NoClash (.cons T.xi_BadText_NoClash (.cons T.xi_BadRow_NoClash (.cons T.xi_Unsaved_NoClash (.cons T.xi_NotRising_NoClash (.cons T.xi_NoRow_NoClash (.cons T.xi_Unfit_NoClash (.cons T.xi_NoColumn_NoClash (.cons T.xi_ColumnThere_NoClash (.cons T.xi_NoClash_NoClash (.cons T.xi_NoPage_NoClash (.cons T.xi_NoMake_NoClash (.cons T.xi_NotBroken_NoClash (.cons T.xi_NoName_NoClash (.cons T.xi_InUse_NoClash .nil)))))))))))))))))) (.cons T.xk_BadKey (.cons T.xk_BadValue (.cons T.xk_BadWord (.cons T.xk_BadElders (.cons T.xk_BadText (.cons T.xk_BadRow (.cons T.xk_Unsaved (.cons T.xk_NotRising (.cons T.xk_NoRow (.cons T.xk_Unfit (.cons T.xk_NoColumn (.cons T.xk_ColumnThere (.cons T.xk_NoClash (.cons T.xk_NoPage (.cons T.xk_NoMake (.cons T.xk_NotBroken (.cons T.xk_NoName (.cons T.xk_InUse .nil)))))))))))))))))) T.xn_NoClash T.b_isinstance (de_v 0)) (da_cons (de_isE (T := "NoPage") (tab := [("BadKey", false), ("BadValue", false), ("BadWord", false), ("BadElders", false), ("BadText", false), ("BadRow", false), ("Unsaved", false), ("NotRising", false), ("NoRow", false), ("Unfit", false), ("NoColumn", false), ("ColumnThere", false), ("NoClash", false), ("NoPage", true), ("NoMake", false), ("NotBroken", false), ("NoName", false), ("InUse", false)]) (.cons T.xi_BadKey_NoPage (.cons T.xi_BadValue_NoPage (.cons T.xi_BadWord_NoPage (.cons T.xi_BadElders_NoPage (.cons T.xi_BadText_NoPage (.cons T.xi_BadRow_NoPage (.cons T.xi_Unsaved_NoPage (.cons T.xi_NotRising_NoPage (.cons T.xi_NoRow_NoPage (.cons T.xi_Unfit_NoPage (.cons T.xi_NoColumn_NoPage (.cons T.xi_ColumnThere_NoPage (.cons T.xi_NoClash_NoPage (.cons T.xi_NoPage_NoPage (.cons T.xi_NoMake_NoPage (.cons T.xi_NotBroken_NoPage (.cons T.xi_NoName_NoPage (.cons T.xi_InUse_NoPage .nil)))))))))))))))))) (.cons T.xk_BadKey (.cons T.xk_BadValue (.cons T.xk_BadWord (.cons T.xk_BadElders (.cons T.xk_BadText (.cons T.xk_BadRow (.cons T.xk_Unsaved (.cons T.xk_NotRising (.cons T.xk_NoRow (.cons T.xk_Unfit (.cons T.xk_NoColumn (.cons T.xk_ColumnThere (.cons T.xk_NoClash (.cons T.xk_NoPage (.cons T.xk_NoMake (.cons T.xk_NotBroken (.cons T.xk_NoName (.cons T.xk_InUse .nil)))))))))))))))))) T.xn_NoPage T.b_isinstance (de_v 0)) (da_cons (de_isE (T := "NoMake") (tab := [("BadKey", false), ("BadValue", false), ("BadWord", false), ("BadElders", false), ("BadText", false), ("BadRow", false), ("Unsaved", false), ("NotRising", false), ("NoRow", false), ("Unfit", false), ("NoColumn", false), ("ColumnThere", false), ("NoClash", false), ("NoPage", false), ("NoMake", true), ("NotBroken", false), ("NoName", false), ("InUse", false)]) (.cons T.xi_BadKey_NoMake (.cons T.xi_BadValue_NoMake (.cons T.xi_BadWord_NoMake (.cons T.xi_BadElders_NoMake (.cons T.xi_BadText_NoMake (.cons T.xi_BadRow_NoMake (.cons T.xi_Unsaved_NoMake (.cons T.xi_NotRising_NoMake (.cons T.xi_NoRow_NoMake (.cons T.xi_Unfit_NoMake (.cons T.xi_NoColumn_NoMake (.cons T.xi_ColumnThere_NoMake (.cons T.xi_NoClash_NoMake (.cons T.xi_NoPage_NoMake (.cons T.xi_NoMake_NoMake (.cons T.xi_NotBroken_NoMake (.cons T.xi_NoName_NoMake (.cons T.xi_InUse_NoMake .nil)))))))))))))))))) (.cons T.xk_BadKey (.cons T.xk_BadValue (.cons T.xk_BadWord (.cons T.xk_BadElders (.cons T.xk_BadText (.cons T.xk_BadRow (.cons T.xk_Unsaved (.cons T.xk_NotRising (.cons T.xk_NoRow (.cons T.xk_Unfit (.cons T.xk_NoColumn (.cons T.xk_ColumnThere (.cons T.xk_NoClash (.cons T.xk_NoPage (.cons T.xk_NoMake (.cons T.xk_NotBroken (.cons T.xk_NoName (.cons T.xk_InUse .nil)))))))))))))))))) T.xn_NoMake T.b_isinstance (de_v 0)) (da_cons (de_isE (T := "NotBroken") (tab := [("BadKey", false), ("BadValue", false), ("BadWord", false), ("BadElders", false), ("BadText", false), ("BadRow", false), ("Unsaved", false), ("NotRising", false), ("NoRow", false), ("Unfit", false), ("NoColumn", false), ("ColumnThere", false), ("NoClash", false), ("NoPage", false), ("NoMake", false), ("NotBroken", true), ("NoName", false), ("InUse", false)]) (.cons T.xi_BadKey_NotBroken (.cons T.xi_BadValue_NotBroken (.cons T.xi_BadWord_NotBroken (.cons T.xi_BadElders_NotBroken (.cons T.xi_BadText_NotBroken (.cons T.xi_BadRow_NotBroken (.cons T.xi_Unsaved_NotBroken (.cons T.xi_NotRising_NotBroken (.cons T.xi_NoRow_NotBroken (.cons T.xi_Unfit_NotBroken (.cons T.xi_NoColumn_NotBroken (.cons T.xi_ColumnThere_NotBroken (.cons T.xi_NoClash_NotBroken (.cons T.xi_NoPage_NotBroken (.cons T.xi_NoMake_NotBroken (.cons T.xi_NotBroken_NotBroken (.cons T.xi_NoName_NotBroken (.cons T.xi_InUse_NotBroken .nil)))))))))))))))))) (.cons T.xk_BadKey (.cons T.xk_BadValue (.cons T.xk_BadWord (.cons T.xk_BadElders (.cons T.xk_BadText (.cons T.xk_BadRow (.cons T.xk_Unsaved (.cons T.xk_NotRising (.cons T.xk_NoRow (.cons T.xk_Unfit (.cons T.xk_NoColumn (.cons T.xk_ColumnThere (.cons T.xk_NoClash (.cons T.xk_NoPage (.cons T.xk_NoMake (.cons T.xk_NotBroken (.cons T.xk_NoName (.cons T.xk_InUse .nil)))))))))))))))))) T.xn_NotBroken T.b_isinstance (de_v 0)) da_nil))))))) sc_l_classes.nd)
    (dss_one (ds_ret (de_add (de_v 1) (de_frz (dn_lst (da_cons (de_isE (T := "NoName") (tab := [("BadKey", false), ("BadValue", false), ("BadWord", false), ("BadElders", false), ("BadText", false), ("BadRow", false), ("Unsaved", false), ("NotRising", false), ("NoRow", false), ("Unfit", false), ("NoColumn", false), ("ColumnThere", false), ("NoClash", false), ("NoPage", false), ("NoMake", false), ("NotBroken", false), ("NoName", true), ("InUse", false)]) (.cons T.xi_BadKey_NoName (.cons T.xi_BadValue_NoName (.cons T.xi_BadWord_NoName (.cons T.xi_BadElders_NoName (.cons T.xi_BadText_NoName (.cons T.xi_BadRow_NoName (.cons T.xi_Unsaved_NoName (.cons T.xi_NotRising_NoName (.cons T.xi_NoRow_NoName (.cons T.xi_Unfit_NoName (.cons T.xi_NoColumn_NoName (.cons T.xi_ColumnThere_NoName (.cons T.xi_NoClash_NoName (.cons T.xi_NoPage_NoName (.cons T.xi_NoMake_NoName (.cons T.xi_NotBroken_NoName (.cons T.xi_NoName_NoName (.cons T.xi_InUse_NoName .nil)))))))))))))))))) (.cons T.xk_BadKey (.cons T.xk_BadValue (.cons T.xk_BadWord (.cons T.xk_BadElders (.cons T.xk_BadText (.cons T.xk_BadRow (.cons T.xk_Unsaved (.cons T.xk_NotRising (.cons T.xk_NoRow (.cons T.xk_Unfit (.cons T.xk_NoColumn (.cons T.xk_ColumnThere (.cons T.xk_NoClash (.cons T.xk_NoPage (.cons T.xk_NoMake (.cons T.xk_NotBroken (.cons T.xk_NoName (.cons T.xk_InUse .nil)))))))))))))))))) T.xn_NoName T.b_isinstance (de_v 0)) (da_cons (de_isE (T := "InUse") (tab := [("BadKey", false), ("BadValue", false), ("BadWord", false), ("BadElders", false), ("BadText", false), ("BadRow", false), ("Unsaved", false), ("NotRising", false), ("NoRow", false), ("Unfit", false), ("NoColumn", false), ("ColumnThere", false), ("NoClash", false), ("NoPage", false), ("NoMake", false), ("NotBroken", false), ("NoName", false), ("InUse", true)]) (.cons T.xi_BadKey_InUse (.cons T.xi_BadValue_InUse (.cons T.xi_BadWord_InUse (.cons T.xi_BadElders_InUse (.cons T.xi_BadText_InUse (.cons T.xi_BadRow_InUse (.cons T.xi_Unsaved_InUse (.cons T.xi_NotRising_InUse (.cons T.xi_NoRow_InUse (.cons T.xi_Unfit_InUse (.cons T.xi_NoColumn_InUse (.cons T.xi_ColumnThere_InUse (.cons T.xi_NoClash_InUse (.cons T.xi_NoPage_InUse (.cons T.xi_NoMake_InUse (.cons T.xi_NotBroken_InUse (.cons T.xi_NoName_InUse (.cons T.xi_InUse_InUse .nil)))))))))))))))))) (.cons T.xk_BadKey (.cons T.xk_BadValue (.cons T.xk_BadWord (.cons T.xk_BadElders (.cons T.xk_BadText (.cons T.xk_BadRow (.cons T.xk_Unsaved (.cons T.xk_NotRising (.cons T.xk_NoRow (.cons T.xk_Unfit (.cons T.xk_NoColumn (.cons T.xk_ColumnThere (.cons T.xk_NoClash (.cons T.xk_NoPage (.cons T.xk_NoMake (.cons T.xk_NotBroken (.cons T.xk_NoName (.cons T.xk_InUse .nil)))))))))))))))))) T.xn_InUse T.b_isinstance (de_v 0)) da_nil))))))))))) : DSs _ W0 (defBody s_l_classes) g_l_classes)
abbrev s_l_same : Stmt := topS 28
theorem sc_l_same : FnScope ["_law_found", "_law_due"] ["_law_found", "_law_due"] (defScope s_l_same) := ⟨rfl, rfl, rfl, by decide +kernel, rfl, by decide +kernel, by decide +kernel⟩
noncomputable def g_l_same : M Out :=
    (seqM (ifM (tst (bnd (getL 1) (isaM "str"))) (retM (andV (bnd (getL 0) (isaM "str")) (bin eqM (getL 0) (getL 1)))) (ret .nx))
    (retM (andV (bnd (getL 0) (isaM "int")) (andV (notV (bnd (getL 0) (isaM "bool"))) (bin eqM (getL 0) (getL 1))))))
noncomputable def F_l_same : Pf := runP 2 g_l_same
theorem ok_l_same {P : Program} {wd : World} {K : PySem.W.Frag} {mg : Str → Option Value} {base : Heap} (T : Txt K mg) (F : Top K mg "_law_same" s_l_same ["_law_found", "_law_due"])  :
    FnP P wd K mg base "_law_same" 2 1 F_l_same :=
  F.fn sc_l_same (by decide) fun f cdv A outer s H E hr =>
    ((dss_cons (ds_if (dt_val (de_isa "str" T.b_isinstance T.b_str (de_v 1) (by decide +kernel))) (dss_one (ds_ret (de_and (de_isa "str" T.b_isinstance T.b_str (de_v 0) (by decide +kernel)) (de_one (de_cmp (op_eqA (units_of hr)) rop_eq (de_v 0) (de_v 1)))))) dss_nil)
    (dss_one (ds_ret (de_and (de_isa "int" T.b_isinstance T.b_int (de_v 0) (by decide +kernel)) (de_and (de_not (de_isa "bool" T.b_isinstance T.b_bool (de_v 0) (by decide +kernel))) (de_one (de_cmp (op_eqA (units_of hr)) rop_eq (de_v 0) (de_v 1)))))))) : DSs _ W0 (defBody s_l_same) g_l_same)
abbrev s_l_tells : Stmt := topS 29
theorem sc_l_tells : FnScope ["_law_e", "_law_key_here", "_law_column", "_law_number", "_law_word"] ["_law_e", "_law_key_here", "_law_column", "_law_number", "_law_word"] (defScope s_l_tells) := ⟨rfl, rfl, rfl, by decide +kernel, rfl, by decide +kernel, by decide +kernel⟩
noncomputable def g_l_tells : M Out :=
    (seqM (ifM (tst (bnd (getL 0) (isEs [[("BadKey", false), ("BadValue", false), ("BadWord", false), ("BadElders", false), ("BadText", false), ("BadRow", false), ("Unsaved", false), ("NotRising", true), ("NoRow", false), ("Unfit", false), ("NoColumn", false), ("ColumnThere", false), ("NoClash", false), ("NoPage", false), ("NoMake", false), ("NotBroken", false), ("NoName", false), ("InUse", false)], [("BadKey", false), ("BadValue", false), ("BadWord", false), ("BadElders", false), ("BadText", false), ("BadRow", false), ("Unsaved", false), ("NotRising", false), ("NoRow", true), ("Unfit", false), ("NoColumn", false), ("ColumnThere", false), ("NoClash", false), ("NoPage", false), ("NoMake", false), ("NotBroken", false), ("NoName", false), ("InUse", false)], [("BadKey", false), ("BadValue", false), ("BadWord", false), ("BadElders", false), ("BadText", false), ("BadRow", false), ("Unsaved", false), ("NotRising", false), ("NoRow", false), ("Unfit", true), ("NoColumn", false), ("ColumnThere", false), ("NoClash", false), ("NoPage", false), ("NoMake", false), ("NotBroken", false), ("NoName", false), ("InUse", false)]]))) (retM (bnd (consM (bnd (getL 0) (fldE [("NotRising", true), ("NoRow", true), ("Unfit", true), ("NoClash", true)] "key")) (consM (getL 1) (ret []))) (callP 2 F_l_same))) (ret .nx))
    (seqM (ifM (tst (bnd (getL 0) (isEs [[("BadKey", false), ("BadValue", false), ("BadWord", false), ("BadElders", false), ("BadText", false), ("BadRow", false), ("Unsaved", false), ("NotRising", false), ("NoRow", false), ("Unfit", false), ("NoColumn", true), ("ColumnThere", false), ("NoClash", false), ("NoPage", false), ("NoMake", false), ("NotBroken", false), ("NoName", false), ("InUse", false)], [("BadKey", false), ("BadValue", false), ("BadWord", false), ("BadElders", false), ("BadText", false), ("BadRow", false), ("Unsaved", false), ("NotRising", false), ("NoRow", false), ("Unfit", false), ("NoColumn", false), ("ColumnThere", true), ("NoClash", false), ("NoPage", false), ("NoMake", false), ("NotBroken", false), ("NoName", false), ("InUse", false)]]))) (retM (bnd (consM (bnd (getL 0) (fldE [("NoColumn", true), ("ColumnThere", true), ("NoClash", true)] "column")) (consM (getL 2) (ret []))) (callP 2 F_l_same))) (ret .nx))
    (seqM (ifM (tst (bnd (getL 0) (isE [("BadKey", false), ("BadValue", false), ("BadWord", false), ("BadElders", false), ("BadText", false), ("BadRow", false), ("Unsaved", false), ("NotRising", false), ("NoRow", false), ("Unfit", false), ("NoColumn", false), ("ColumnThere", false), ("NoClash", true), ("NoPage", false), ("NoMake", false), ("NotBroken", false), ("NoName", false), ("InUse", false)]))) (retM (andV (bnd (consM (bnd (getL 0) (fldE [("NotRising", true), ("NoRow", true), ("Unfit", true), ("NoClash", true)] "key")) (consM (getL 1) (ret []))) (callP 2 F_l_same)) (bnd (consM (bnd (getL 0) (fldE [("NoColumn", true), ("ColumnThere", true), ("NoClash", true)] "column")) (consM (getL 2) (ret []))) (callP 2 F_l_same)))) (ret .nx))
    (seqM (ifM (tst (bnd (getL 0) (isEs [[("BadKey", false), ("BadValue", false), ("BadWord", false), ("BadElders", false), ("BadText", false), ("BadRow", false), ("Unsaved", false), ("NotRising", false), ("NoRow", false), ("Unfit", false), ("NoColumn", false), ("ColumnThere", false), ("NoClash", false), ("NoPage", true), ("NoMake", false), ("NotBroken", false), ("NoName", false), ("InUse", false)], [("BadKey", false), ("BadValue", false), ("BadWord", false), ("BadElders", false), ("BadText", false), ("BadRow", false), ("Unsaved", false), ("NotRising", false), ("NoRow", false), ("Unfit", false), ("NoColumn", false), ("ColumnThere", false), ("NoClash", false), ("NoPage", false), ("NoMake", true), ("NotBroken", false), ("NoName", false), ("InUse", false)], [("BadKey", false), ("BadValue", false), ("BadWord", false), ("BadElders", false), ("BadText", false), ("BadRow", false), ("Unsaved", false), ("NotRising", false), ("NoRow", false), ("Unfit", false), ("NoColumn", false), ("ColumnThere", false), ("NoClash", false), ("NoPage", false), ("NoMake", false), ("NotBroken", true), ("NoName", false), ("InUse", false)]]))) (retM (bnd (consM (bnd (getL 0) (fldE [("NoPage", true), ("NoMake", true), ("NotBroken", true)] "number")) (consM (getL 3) (ret []))) (callP 2 F_l_same))) (ret .nx))
    (seqM (ifM (tst (bnd (getL 0) (isEs [[("BadKey", false), ("BadValue", false), ("BadWord", false), ("BadElders", false), ("BadText", false), ("BadRow", false), ("Unsaved", false), ("NotRising", false), ("NoRow", false), ("Unfit", false), ("NoColumn", false), ("ColumnThere", false), ("NoClash", false), ("NoPage", false), ("NoMake", false), ("NotBroken", false), ("NoName", true), ("InUse", false)], [("BadKey", false), ("BadValue", false), ("BadWord", false), ("BadElders", false), ("BadText", false), ("BadRow", false), ("Unsaved", false), ("NotRising", false), ("NoRow", false), ("Unfit", false), ("NoColumn", false), ("ColumnThere", false), ("NoClash", false), ("NoPage", false), ("NoMake", false), ("NotBroken", false), ("NoName", false), ("InUse", true)]]))) (retM (bnd (consM (bnd (getL 0) (fldE [("NoName", true), ("InUse", true)] "word")) (consM (getL 4) (ret []))) (callP 2 F_l_same))) (ret .nx))
    (retM (ret (.bl true))))))))
noncomputable def F_l_tells : Pf := runP 5 g_l_tells
theorem ok_l_tells {P : Program} {wd : World} {K : PySem.W.Frag} {mg : Str → Option Value} {base : Heap} (T : Txt K mg) (F : Top K mg "_law_tells" s_l_tells ["_law_e", "_law_key_here", "_law_column", "_law_number", "_law_word"]) (c_l_same : FnP P wd K mg base "_law_same" 2 1 F_l_same) :
    FnP P wd K mg base "_law_tells" 5 2 F_l_tells :=
  F.fn sc_l_tells (by decide) fun f cdv A outer s H E hr =>
    ((dss_cons (ds_if (dt_val (de_isE3 (T := "NotRising") (U := "NoRow") (V' := "Unfit") (tab := [("BadKey", false), ("BadValue", false), ("BadWord", false), ("BadElders", false), ("BadText", false), ("BadRow", false), ("Unsaved", false), ("NotRising", true), ("NoRow", false), ("Unfit", false), ("NoColumn", false), ("ColumnThere", false), ("NoClash", false), ("NoPage", false), ("NoMake", false), ("NotBroken", false), ("NoName", false), ("InUse", false)]) (tab2 := [("BadKey", false), ("BadValue", false), ("BadWord", false), ("BadElders", false), ("BadText", false), ("BadRow", false), ("Unsaved", false), ("NotRising", false), ("NoRow", true), ("Unfit", false), ("NoColumn", false), ("ColumnThere", false), ("NoClash", false), ("NoPage", false), ("NoMake", false), ("NotBroken", false), ("NoName", false), ("InUse", false)]) (tab3 := [("BadKey", false), ("BadValue", false), ("BadWord", false), ("BadElders", false), ("BadText", false), ("BadRow", false), ("Unsaved", false), ("NotRising", false), ("NoRow", false), ("Unfit", true), ("NoColumn", false), ("ColumnThere", false), ("NoClash", false), ("NoPage", false), ("NoMake", false), ("NotBroken", false), ("NoName", false), ("InUse", false)]) (.cons T.xi_BadKey_NotRising (.cons T.xi_BadValue_NotRising (.cons T.xi_BadWord_NotRising (.cons T.xi_BadElders_NotRising (.cons T.xi_BadText_NotRising (.cons T.xi_BadRow_NotRising (.cons T.xi_Unsaved_NotRising (.cons T.xi_NotRising_NotRising (.cons T.xi_NoRow_NotRising (.cons T.xi_Unfit_NotRising (.cons T.xi_NoColumn_NotRising (.cons T.xi_ColumnThere_NotRising (.cons T.xi_NoClash_NotRising (.cons T.xi_NoPage_NotRising (.cons T.xi_NoMake_NotRising (.cons T.xi_NotBroken_NotRising (.cons T.xi_NoName_NotRising (.cons T.xi_InUse_NotRising .nil)))))))))))))))))) (.cons T.xi_BadKey_NoRow (.cons T.xi_BadValue_NoRow (.cons T.xi_BadWord_NoRow (.cons T.xi_BadElders_NoRow (.cons T.xi_BadText_NoRow (.cons T.xi_BadRow_NoRow (.cons T.xi_Unsaved_NoRow (.cons T.xi_NotRising_NoRow (.cons T.xi_NoRow_NoRow (.cons T.xi_Unfit_NoRow (.cons T.xi_NoColumn_NoRow (.cons T.xi_ColumnThere_NoRow (.cons T.xi_NoClash_NoRow (.cons T.xi_NoPage_NoRow (.cons T.xi_NoMake_NoRow (.cons T.xi_NotBroken_NoRow (.cons T.xi_NoName_NoRow (.cons T.xi_InUse_NoRow .nil)))))))))))))))))) (.cons T.xi_BadKey_Unfit (.cons T.xi_BadValue_Unfit (.cons T.xi_BadWord_Unfit (.cons T.xi_BadElders_Unfit (.cons T.xi_BadText_Unfit (.cons T.xi_BadRow_Unfit (.cons T.xi_Unsaved_Unfit (.cons T.xi_NotRising_Unfit (.cons T.xi_NoRow_Unfit (.cons T.xi_Unfit_Unfit (.cons T.xi_NoColumn_Unfit (.cons T.xi_ColumnThere_Unfit (.cons T.xi_NoClash_Unfit (.cons T.xi_NoPage_Unfit (.cons T.xi_NoMake_Unfit (.cons T.xi_NotBroken_Unfit (.cons T.xi_NoName_Unfit (.cons T.xi_InUse_Unfit .nil)))))))))))))))))) (.cons T.xk_BadKey (.cons T.xk_BadValue (.cons T.xk_BadWord (.cons T.xk_BadElders (.cons T.xk_BadText (.cons T.xk_BadRow (.cons T.xk_Unsaved (.cons T.xk_NotRising (.cons T.xk_NoRow (.cons T.xk_Unfit (.cons T.xk_NoColumn (.cons T.xk_ColumnThere (.cons T.xk_NoClash (.cons T.xk_NoPage (.cons T.xk_NoMake (.cons T.xk_NotBroken (.cons T.xk_NoName (.cons T.xk_InUse .nil)))))))))))))))))) T.xn_NotRising T.xn_NoRow T.xn_Unfit T.b_isinstance (de_v 0))) (dss_one (ds_ret (de_callP c_l_same (hr.mono (by decide)) (da_cons (de_fldE (tab := [("NotRising", true), ("NoRow", true), ("Unfit", true), ("NoClash", true)]) (.cons T.xf_NotRising_key (.cons T.xf_NoRow_key (.cons T.xf_Unfit_key (.cons T.xf_NoClash_key .nil)))) (.cons T.xk_NotRising (.cons T.xk_NoRow (.cons T.xk_Unfit (.cons T.xk_NoClash .nil)))) (de_v 0)) (da_cons (de_v 1) da_nil))))) dss_nil)
    (dss_cons (ds_if (dt_val (de_isE2 (T := "NoColumn") (U := "ColumnThere") (tab := [("BadKey", false), ("BadValue", false), ("BadWord", false), ("BadElders", false), ("BadText", false), ("BadRow", false), ("Unsaved", false), ("NotRising", false), ("NoRow", false), ("Unfit", false), ("NoColumn", true), ("ColumnThere", false), ("NoClash", false), ("NoPage", false), ("NoMake", false), ("NotBroken", false), ("NoName", false), ("InUse", false)]) (tab2 := [("BadKey", false), ("BadValue", false), ("BadWord", false), ("BadElders", false), ("BadText", false), ("BadRow", false), ("Unsaved", false), ("NotRising", false), ("NoRow", false), ("Unfit", false), ("NoColumn", false), ("ColumnThere", true), ("NoClash", false), ("NoPage", false), ("NoMake", false), ("NotBroken", false), ("NoName", false), ("InUse", false)]) (.cons T.xi_BadKey_NoColumn (.cons T.xi_BadValue_NoColumn (.cons T.xi_BadWord_NoColumn (.cons T.xi_BadElders_NoColumn (.cons T.xi_BadText_NoColumn (.cons T.xi_BadRow_NoColumn (.cons T.xi_Unsaved_NoColumn (.cons T.xi_NotRising_NoColumn (.cons T.xi_NoRow_NoColumn (.cons T.xi_Unfit_NoColumn (.cons T.xi_NoColumn_NoColumn (.cons T.xi_ColumnThere_NoColumn (.cons T.xi_NoClash_NoColumn (.cons T.xi_NoPage_NoColumn (.cons T.xi_NoMake_NoColumn (.cons T.xi_NotBroken_NoColumn (.cons T.xi_NoName_NoColumn (.cons T.xi_InUse_NoColumn .nil)))))))))))))))))) (.cons T.xi_BadKey_ColumnThere (.cons T.xi_BadValue_ColumnThere (.cons T.xi_BadWord_ColumnThere (.cons T.xi_BadElders_ColumnThere (.cons T.xi_BadText_ColumnThere (.cons T.xi_BadRow_ColumnThere (.cons T.xi_Unsaved_ColumnThere (.cons T.xi_NotRising_ColumnThere (.cons T.xi_NoRow_ColumnThere (.cons T.xi_Unfit_ColumnThere (.cons T.xi_NoColumn_ColumnThere (.cons T.xi_ColumnThere_ColumnThere (.cons T.xi_NoClash_ColumnThere (.cons T.xi_NoPage_ColumnThere (.cons T.xi_NoMake_ColumnThere (.cons T.xi_NotBroken_ColumnThere (.cons T.xi_NoName_ColumnThere (.cons T.xi_InUse_ColumnThere .nil)))))))))))))))))) (.cons T.xk_BadKey (.cons T.xk_BadValue (.cons T.xk_BadWord (.cons T.xk_BadElders (.cons T.xk_BadText (.cons T.xk_BadRow (.cons T.xk_Unsaved (.cons T.xk_NotRising (.cons T.xk_NoRow (.cons T.xk_Unfit (.cons T.xk_NoColumn (.cons T.xk_ColumnThere (.cons T.xk_NoClash (.cons T.xk_NoPage (.cons T.xk_NoMake (.cons T.xk_NotBroken (.cons T.xk_NoName (.cons T.xk_InUse .nil)))))))))))))))))) T.xn_NoColumn T.xn_ColumnThere T.b_isinstance (de_v 0))) (dss_one (ds_ret (de_callP c_l_same (hr.mono (by decide)) (da_cons (de_fldE (tab := [("NoColumn", true), ("ColumnThere", true), ("NoClash", true)]) (.cons T.xf_NoColumn_column (.cons T.xf_ColumnThere_column (.cons T.xf_NoClash_column .nil))) (.cons T.xk_NoColumn (.cons T.xk_ColumnThere (.cons T.xk_NoClash .nil))) (de_v 0)) (da_cons (de_v 2) da_nil))))) dss_nil)
    (dss_cons (ds_if (dt_val (de_isE (T := "NoClash") (tab := [("BadKey", false), ("BadValue", false), ("BadWord", false), ("BadElders", false), ("BadText", false), ("BadRow", false), ("Unsaved", false), ("NotRising", false), ("NoRow", false), ("Unfit", false), ("NoColumn", false), ("ColumnThere", false), ("NoClash", true), ("NoPage", false), ("NoMake", false), ("NotBroken", false), ("NoName", false), ("InUse", false)]) (.cons T.xi_BadKey_NoClash (.cons T.xi_BadValue_NoClash (.cons T.xi_BadWord_NoClash (.cons T.xi_BadElders_NoClash (.cons T.xi_BadText_NoClash (.cons T.xi_BadRow_NoClash (.cons T.xi_Unsaved_NoClash (.cons T.xi_NotRising_NoClash (.cons T.xi_NoRow_NoClash (.cons T.xi_Unfit_NoClash (.cons T.xi_NoColumn_NoClash (.cons T.xi_ColumnThere_NoClash (.cons T.xi_NoClash_NoClash (.cons T.xi_NoPage_NoClash (.cons T.xi_NoMake_NoClash (.cons T.xi_NotBroken_NoClash (.cons T.xi_NoName_NoClash (.cons T.xi_InUse_NoClash .nil)))))))))))))))))) (.cons T.xk_BadKey (.cons T.xk_BadValue (.cons T.xk_BadWord (.cons T.xk_BadElders (.cons T.xk_BadText (.cons T.xk_BadRow (.cons T.xk_Unsaved (.cons T.xk_NotRising (.cons T.xk_NoRow (.cons T.xk_Unfit (.cons T.xk_NoColumn (.cons T.xk_ColumnThere (.cons T.xk_NoClash (.cons T.xk_NoPage (.cons T.xk_NoMake (.cons T.xk_NotBroken (.cons T.xk_NoName (.cons T.xk_InUse .nil)))))))))))))))))) T.xn_NoClash T.b_isinstance (de_v 0))) (dss_one (ds_ret (de_and (de_callP c_l_same (hr.mono (by decide)) (da_cons (de_fldE (tab := [("NotRising", true), ("NoRow", true), ("Unfit", true), ("NoClash", true)]) (.cons T.xf_NotRising_key (.cons T.xf_NoRow_key (.cons T.xf_Unfit_key (.cons T.xf_NoClash_key .nil)))) (.cons T.xk_NotRising (.cons T.xk_NoRow (.cons T.xk_Unfit (.cons T.xk_NoClash .nil)))) (de_v 0)) (da_cons (de_v 1) da_nil))) (de_one (de_callP c_l_same (hr.mono (by decide)) (da_cons (de_fldE (tab := [("NoColumn", true), ("ColumnThere", true), ("NoClash", true)]) (.cons T.xf_NoColumn_column (.cons T.xf_ColumnThere_column (.cons T.xf_NoClash_column .nil))) (.cons T.xk_NoColumn (.cons T.xk_ColumnThere (.cons T.xk_NoClash .nil))) (de_v 0)) (da_cons (de_v 2) da_nil))))))) dss_nil)
    (dss_cons (ds_if (dt_val (de_isE3 (T := "NoPage") (U := "NoMake") (V' := "NotBroken") (tab := [("BadKey", false), ("BadValue", false), ("BadWord", false), ("BadElders", false), ("BadText", false), ("BadRow", false), ("Unsaved", false), ("NotRising", false), ("NoRow", false), ("Unfit", false), ("NoColumn", false), ("ColumnThere", false), ("NoClash", false), ("NoPage", true), ("NoMake", false), ("NotBroken", false), ("NoName", false), ("InUse", false)]) (tab2 := [("BadKey", false), ("BadValue", false), ("BadWord", false), ("BadElders", false), ("BadText", false), ("BadRow", false), ("Unsaved", false), ("NotRising", false), ("NoRow", false), ("Unfit", false), ("NoColumn", false), ("ColumnThere", false), ("NoClash", false), ("NoPage", false), ("NoMake", true), ("NotBroken", false), ("NoName", false), ("InUse", false)]) (tab3 := [("BadKey", false), ("BadValue", false), ("BadWord", false), ("BadElders", false), ("BadText", false), ("BadRow", false), ("Unsaved", false), ("NotRising", false), ("NoRow", false), ("Unfit", false), ("NoColumn", false), ("ColumnThere", false), ("NoClash", false), ("NoPage", false), ("NoMake", false), ("NotBroken", true), ("NoName", false), ("InUse", false)]) (.cons T.xi_BadKey_NoPage (.cons T.xi_BadValue_NoPage (.cons T.xi_BadWord_NoPage (.cons T.xi_BadElders_NoPage (.cons T.xi_BadText_NoPage (.cons T.xi_BadRow_NoPage (.cons T.xi_Unsaved_NoPage (.cons T.xi_NotRising_NoPage (.cons T.xi_NoRow_NoPage (.cons T.xi_Unfit_NoPage (.cons T.xi_NoColumn_NoPage (.cons T.xi_ColumnThere_NoPage (.cons T.xi_NoClash_NoPage (.cons T.xi_NoPage_NoPage (.cons T.xi_NoMake_NoPage (.cons T.xi_NotBroken_NoPage (.cons T.xi_NoName_NoPage (.cons T.xi_InUse_NoPage .nil)))))))))))))))))) (.cons T.xi_BadKey_NoMake (.cons T.xi_BadValue_NoMake (.cons T.xi_BadWord_NoMake (.cons T.xi_BadElders_NoMake (.cons T.xi_BadText_NoMake (.cons T.xi_BadRow_NoMake (.cons T.xi_Unsaved_NoMake (.cons T.xi_NotRising_NoMake (.cons T.xi_NoRow_NoMake (.cons T.xi_Unfit_NoMake (.cons T.xi_NoColumn_NoMake (.cons T.xi_ColumnThere_NoMake (.cons T.xi_NoClash_NoMake (.cons T.xi_NoPage_NoMake (.cons T.xi_NoMake_NoMake (.cons T.xi_NotBroken_NoMake (.cons T.xi_NoName_NoMake (.cons T.xi_InUse_NoMake .nil)))))))))))))))))) (.cons T.xi_BadKey_NotBroken (.cons T.xi_BadValue_NotBroken (.cons T.xi_BadWord_NotBroken (.cons T.xi_BadElders_NotBroken (.cons T.xi_BadText_NotBroken (.cons T.xi_BadRow_NotBroken (.cons T.xi_Unsaved_NotBroken (.cons T.xi_NotRising_NotBroken (.cons T.xi_NoRow_NotBroken (.cons T.xi_Unfit_NotBroken (.cons T.xi_NoColumn_NotBroken (.cons T.xi_ColumnThere_NotBroken (.cons T.xi_NoClash_NotBroken (.cons T.xi_NoPage_NotBroken (.cons T.xi_NoMake_NotBroken (.cons T.xi_NotBroken_NotBroken (.cons T.xi_NoName_NotBroken (.cons T.xi_InUse_NotBroken .nil)))))))))))))))))) (.cons T.xk_BadKey (.cons T.xk_BadValue (.cons T.xk_BadWord (.cons T.xk_BadElders (.cons T.xk_BadText (.cons T.xk_BadRow (.cons T.xk_Unsaved (.cons T.xk_NotRising (.cons T.xk_NoRow (.cons T.xk_Unfit (.cons T.xk_NoColumn (.cons T.xk_ColumnThere (.cons T.xk_NoClash (.cons T.xk_NoPage (.cons T.xk_NoMake (.cons T.xk_NotBroken (.cons T.xk_NoName (.cons T.xk_InUse .nil)))))))))))))))))) T.xn_NoPage T.xn_NoMake T.xn_NotBroken T.b_isinstance (de_v 0))) (dss_one (ds_ret (de_callP c_l_same (hr.mono (by decide)) (da_cons (de_fldE (tab := [("NoPage", true), ("NoMake", true), ("NotBroken", true)]) (.cons T.xf_NoPage_number (.cons T.xf_NoMake_number (.cons T.xf_NotBroken_number .nil))) (.cons T.xk_NoPage (.cons T.xk_NoMake (.cons T.xk_NotBroken .nil))) (de_v 0)) (da_cons (de_v 3) da_nil))))) dss_nil)
    (dss_cons (ds_if (dt_val (de_isE2 (T := "NoName") (U := "InUse") (tab := [("BadKey", false), ("BadValue", false), ("BadWord", false), ("BadElders", false), ("BadText", false), ("BadRow", false), ("Unsaved", false), ("NotRising", false), ("NoRow", false), ("Unfit", false), ("NoColumn", false), ("ColumnThere", false), ("NoClash", false), ("NoPage", false), ("NoMake", false), ("NotBroken", false), ("NoName", true), ("InUse", false)]) (tab2 := [("BadKey", false), ("BadValue", false), ("BadWord", false), ("BadElders", false), ("BadText", false), ("BadRow", false), ("Unsaved", false), ("NotRising", false), ("NoRow", false), ("Unfit", false), ("NoColumn", false), ("ColumnThere", false), ("NoClash", false), ("NoPage", false), ("NoMake", false), ("NotBroken", false), ("NoName", false), ("InUse", true)]) (.cons T.xi_BadKey_NoName (.cons T.xi_BadValue_NoName (.cons T.xi_BadWord_NoName (.cons T.xi_BadElders_NoName (.cons T.xi_BadText_NoName (.cons T.xi_BadRow_NoName (.cons T.xi_Unsaved_NoName (.cons T.xi_NotRising_NoName (.cons T.xi_NoRow_NoName (.cons T.xi_Unfit_NoName (.cons T.xi_NoColumn_NoName (.cons T.xi_ColumnThere_NoName (.cons T.xi_NoClash_NoName (.cons T.xi_NoPage_NoName (.cons T.xi_NoMake_NoName (.cons T.xi_NotBroken_NoName (.cons T.xi_NoName_NoName (.cons T.xi_InUse_NoName .nil)))))))))))))))))) (.cons T.xi_BadKey_InUse (.cons T.xi_BadValue_InUse (.cons T.xi_BadWord_InUse (.cons T.xi_BadElders_InUse (.cons T.xi_BadText_InUse (.cons T.xi_BadRow_InUse (.cons T.xi_Unsaved_InUse (.cons T.xi_NotRising_InUse (.cons T.xi_NoRow_InUse (.cons T.xi_Unfit_InUse (.cons T.xi_NoColumn_InUse (.cons T.xi_ColumnThere_InUse (.cons T.xi_NoClash_InUse (.cons T.xi_NoPage_InUse (.cons T.xi_NoMake_InUse (.cons T.xi_NotBroken_InUse (.cons T.xi_NoName_InUse (.cons T.xi_InUse_InUse .nil)))))))))))))))))) (.cons T.xk_BadKey (.cons T.xk_BadValue (.cons T.xk_BadWord (.cons T.xk_BadElders (.cons T.xk_BadText (.cons T.xk_BadRow (.cons T.xk_Unsaved (.cons T.xk_NotRising (.cons T.xk_NoRow (.cons T.xk_Unfit (.cons T.xk_NoColumn (.cons T.xk_ColumnThere (.cons T.xk_NoClash (.cons T.xk_NoPage (.cons T.xk_NoMake (.cons T.xk_NotBroken (.cons T.xk_NoName (.cons T.xk_InUse .nil)))))))))))))))))) T.xn_NoName T.xn_InUse T.b_isinstance (de_v 0))) (dss_one (ds_ret (de_callP c_l_same (hr.mono (by decide)) (da_cons (de_fldE (tab := [("NoName", true), ("InUse", true)]) (.cons T.xf_NoName_word (.cons T.xf_InUse_word .nil)) (.cons T.xk_NoName (.cons T.xk_InUse .nil)) (de_v 0)) (da_cons (de_v 4) da_nil))))) dss_nil)
    (dss_one (ds_ret de_bl))))))) : DSs _ W0 (defBody s_l_tells) g_l_tells)
abbrev s_l_raise_plain : Stmt := topS 25
theorem sc_l_raise_plain : FnScope ["_law_k"] ["_law_k"] (defScope s_l_raise_plain) := ⟨rfl, rfl, rfl, by decide +kernel, rfl, by decide +kernel, by decide +kernel⟩
noncomputable def gx_l_raise_plain : M Out :=
    (seqM (ifM (tst (bin eqM (getL 0) (ret (.int 0)))) (raiseM "BadKey" [] []) (ret .nx))
    (seqM (ifM (tst (bin eqM (getL 0) (ret (.int 1)))) (raiseM "BadValue" [] []) (ret .nx))
    (seqM (ifM (tst (bin eqM (getL 0) (ret (.int 2)))) (raiseM "BadWord" [] []) (ret .nx))
    (seqM (ifM (tst (bin eqM (getL 0) (ret (.int 3)))) (raiseM "BadElders" [] []) (ret .nx))
    (seqM (ifM (tst (bin eqM (getL 0) (ret (.int 4)))) (raiseM "BadText" [] []) (ret .nx))
    (seqM (ifM (tst (bin eqM (getL 0) (ret (.int 5)))) (raiseM "BadRow" [] []) (ret .nx))
    (raiseM "Unsaved" [] [])))))))
noncomputable def X_l_raise_plain : Xf := runXP 1 gx_l_raise_plain
theorem okx_l_raise_plain {P : Program} {wd : World} {K : PySem.W.Frag} {mg : Str → Option Value} {base : Heap} (T : Txt K mg) (F : Top K mg "_law_raise_plain" s_l_raise_plain ["_law_k"])  :
    FnX P wd K mg base "_law_raise_plain" 1 1 X_l_raise_plain :=
  F.fnXP sc_l_raise_plain (by decide) fun f cdv A outer s H E hr =>
    ((dss_cons (ds_if (dt_cmp (op_eqA (units_of hr)) rop_eq (de_v 0) de_int) (dss_one (ds_raise0 T.e0_BadKey (L2.takes_of rfl rfl rfl rfl))) dss_nil)
    (dss_cons (ds_if (dt_cmp (op_eqA (units_of hr)) rop_eq (de_v 0) de_int) (dss_one (ds_raise0 T.e0_BadValue (L2.takes_of rfl rfl rfl rfl))) dss_nil)
    (dss_cons (ds_if (dt_cmp (op_eqA (units_of hr)) rop_eq (de_v 0) de_int) (dss_one (ds_raise0 T.e0_BadWord (L2.takes_of rfl rfl rfl rfl))) dss_nil)
    (dss_cons (ds_if (dt_cmp (op_eqA (units_of hr)) rop_eq (de_v 0) de_int) (dss_one (ds_raise0 T.e0_BadElders (L2.takes_of rfl rfl rfl rfl))) dss_nil)
    (dss_cons (ds_if (dt_cmp (op_eqA (units_of hr)) rop_eq (de_v 0) de_int) (dss_one (ds_raise0 T.e0_BadText (L2.takes_of rfl rfl rfl rfl))) dss_nil)
    (dss_cons (ds_if (dt_cmp (op_eqA (units_of hr)) rop_eq (de_v 0) de_int) (dss_one (ds_raise0 T.e0_BadRow (L2.takes_of rfl rfl rfl rfl))) dss_nil)
    (dss_one (ds_raise0 T.e0_Unsaved (L2.takes_of rfl rfl rfl rfl))))))))) : DSs _ (LE K mg E) (defBody s_l_raise_plain) gx_l_raise_plain)
abbrev s_l_raise : Stmt := topS 26
theorem sc_l_raise : FnScope ["_law_k", "_law_key_here", "_law_column", "_law_number", "_law_word"] ["_law_k", "_law_key_here", "_law_column", "_law_number", "_law_word"] (defScope s_l_raise) := ⟨rfl, rfl, rfl, by decide +kernel, rfl, by decide +kernel, by decide +kernel⟩
noncomputable def gx_l_raise : M Out :=
    (seqM (ifM (tst (bin ltAM (getL 0) (ret (.int 7)))) (dropM (bnd (consM (getL 0) (ret [])) (callX 1 X_l_raise_plain))) (ret .nx))
    (seqM (ifM (tst (bin eqM (getL 0) (ret (.int 7)))) (bnd (consM (getL 1) (ret [])) (raiseM "NotRising" ["key"])) (ret .nx))
    (seqM (ifM (tst (bin eqM (getL 0) (ret (.int 8)))) (bnd (consM (getL 1) (ret [])) (raiseM "NoRow" ["key"])) (ret .nx))
    (seqM (ifM (tst (bin eqM (getL 0) (ret (.int 9)))) (bnd (consM (getL 1) (ret [])) (raiseM "Unfit" ["key"])) (ret .nx))
    (seqM (ifM (tst (bin eqM (getL 0) (ret (.int 10)))) (bnd (consM (getL 2) (ret [])) (raiseM "NoColumn" ["column"])) (ret .nx))
    (seqM (ifM (tst (bin eqM (getL 0) (ret (.int 11)))) (bnd (consM (getL 2) (ret [])) (raiseM "ColumnThere" ["column"])) (ret .nx))
    (seqM (ifM (tst (bin eqM (getL 0) (ret (.int 12)))) (bnd (consM (getL 1) (consM (getL 2) (ret []))) (raiseM "NoClash" ["key", "column"])) (ret .nx))
    (seqM (ifM (tst (bin eqM (getL 0) (ret (.int 13)))) (bnd (consM (getL 3) (ret [])) (raiseM "NoPage" ["number"])) (ret .nx))
    (seqM (ifM (tst (bin eqM (getL 0) (ret (.int 14)))) (bnd (consM (getL 3) (ret [])) (raiseM "NoMake" ["number"])) (ret .nx))
    (seqM (ifM (tst (bin eqM (getL 0) (ret (.int 15)))) (bnd (consM (getL 3) (ret [])) (raiseM "NotBroken" ["number"])) (ret .nx))
    (seqM (ifM (tst (bin eqM (getL 0) (ret (.int 16)))) (bnd (consM (getL 4) (ret [])) (raiseM "NoName" ["word"])) (ret .nx))
    (bnd (consM (getL 4) (ret [])) (raiseM "InUse" ["word"])))))))))))))
noncomputable def X_l_raise : Xf := runXP 5 gx_l_raise
theorem okx_l_raise {P : Program} {wd : World} {K : PySem.W.Frag} {mg : Str → Option Value} {base : Heap} (T : Txt K mg) (F : Top K mg "_law_raise" s_l_raise ["_law_k", "_law_key_here", "_law_column", "_law_number", "_law_word"]) (cx_l_raise_plain : FnX P wd K mg base "_law_raise_plain" 1 1 X_l_raise_plain) (e1_NotRising : Xc1 P wd K mg base "NotRising" ["key"] 1) (e1_NoRow : Xc1 P wd K mg base "NoRow" ["key"] 1) (e1_Unfit : Xc1 P wd K mg base "Unfit" ["key"] 1) (e1_NoColumn : Xc1 P wd K mg base "NoColumn" ["column"] 1) (e1_ColumnThere : Xc1 P wd K mg base "ColumnThere" ["column"] 1) (e1_NoClash : Xc1 P wd K mg base "NoClash" ["key", "column"] 1) (e1_NoPage : Xc1 P wd K mg base "NoPage" ["number"] 1) (e1_NoMake : Xc1 P wd K mg base "NoMake" ["number"] 1) (e1_NotBroken : Xc1 P wd K mg base "NotBroken" ["number"] 1) (e1_NoName : Xc1 P wd K mg base "NoName" ["word"] 1) (e1_InUse : Xc1 P wd K mg base "InUse" ["word"] 1) :
    FnX P wd K mg base "_law_raise" 5 3 X_l_raise :=
  F.fnXP sc_l_raise (by decide) fun f cdv A outer s H E hr =>
    ((dss_cons (ds_if (dt_cmp (op_ltA (units_of hr)) rop_ltA (de_v 0) de_int) (dss_one (ds_expr (de_callX cx_l_raise_plain (L2.takes_of rfl rfl rfl rfl) (hr.mono (by decide)) (da_cons (de_v 0) da_nil)))) dss_nil)
    (dss_cons (ds_if (dt_cmp (op_eqA (units_of hr)) rop_eq (de_v 0) de_int) (dss_one (ds_raise1 e1_NotRising (by decide) (by decide) (L2.takes_of rfl rfl rfl rfl) (hr.mono (by decide)) (da_cons (de_v 1) da_nil))) dss_nil)
    (dss_cons (ds_if (dt_cmp (op_eqA (units_of hr)) rop_eq (de_v 0) de_int) (dss_one (ds_raise1 e1_NoRow (by decide) (by decide) (L2.takes_of rfl rfl rfl rfl) (hr.mono (by decide)) (da_cons (de_v 1) da_nil))) dss_nil)
    (dss_cons (ds_if (dt_cmp (op_eqA (units_of hr)) rop_eq (de_v 0) de_int) (dss_one (ds_raise1 e1_Unfit (by decide) (by decide) (L2.takes_of rfl rfl rfl rfl) (hr.mono (by decide)) (da_cons (de_v 1) da_nil))) dss_nil)
    (dss_cons (ds_if (dt_cmp (op_eqA (units_of hr)) rop_eq (de_v 0) de_int) (dss_one (ds_raise1 e1_NoColumn (by decide) (by decide) (L2.takes_of rfl rfl rfl rfl) (hr.mono (by decide)) (da_cons (de_v 2) da_nil))) dss_nil)
    (dss_cons (ds_if (dt_cmp (op_eqA (units_of hr)) rop_eq (de_v 0) de_int) (dss_one (ds_raise1 e1_ColumnThere (by decide) (by decide) (L2.takes_of rfl rfl rfl rfl) (hr.mono (by decide)) (da_cons (de_v 2) da_nil))) dss_nil)
    (dss_cons (ds_if (dt_cmp (op_eqA (units_of hr)) rop_eq (de_v 0) de_int) (dss_one (ds_raise1 e1_NoClash (by decide) (by decide) (L2.takes_of rfl rfl rfl rfl) (hr.mono (by decide)) (da_cons (de_v 1) (da_cons (de_v 2) da_nil)))) dss_nil)
    (dss_cons (ds_if (dt_cmp (op_eqA (units_of hr)) rop_eq (de_v 0) de_int) (dss_one (ds_raise1 e1_NoPage (by decide) (by decide) (L2.takes_of rfl rfl rfl rfl) (hr.mono (by decide)) (da_cons (de_v 3) da_nil))) dss_nil)
    (dss_cons (ds_if (dt_cmp (op_eqA (units_of hr)) rop_eq (de_v 0) de_int) (dss_one (ds_raise1 e1_NoMake (by decide) (by decide) (L2.takes_of rfl rfl rfl rfl) (hr.mono (by decide)) (da_cons (de_v 3) da_nil))) dss_nil)
    (dss_cons (ds_if (dt_cmp (op_eqA (units_of hr)) rop_eq (de_v 0) de_int) (dss_one (ds_raise1 e1_NotBroken (by decide) (by decide) (L2.takes_of rfl rfl rfl rfl) (hr.mono (by decide)) (da_cons (de_v 3) da_nil))) dss_nil)
    (dss_cons (ds_if (dt_cmp (op_eqA (units_of hr)) rop_eq (de_v 0) de_int) (dss_one (ds_raise1 e1_NoName (by decide) (by decide) (L2.takes_of rfl rfl rfl rfl) (hr.mono (by decide)) (da_cons (de_v 4) da_nil))) dss_nil)
    (dss_one (ds_raise1 e1_InUse (by decide) (by decide) (L2.takes_of rfl rfl rfl rfl) (hr.mono (by decide)) (da_cons (de_v 4) da_nil)))))))))))))) : DSs _ (LE K mg E) (defBody s_l_raise) gx_l_raise)
abbrev s_l_good : Stmt := topS 30
theorem sc_l_good : FnScope ["_law_k", "_law_key_here", "_law_column", "_law_number", "_law_word", "_law_caught", "_law_e", "_law_j"] ["_law_k", "_law_key_here", "_law_column", "_law_number", "_law_word"] (defScope s_l_good) := ⟨rfl, rfl, rfl, by decide +kernel, rfl, by decide +kernel, by decide +kernel⟩
noncomputable def c_l_good_1 : M Cell :=
    (lcM (bnd (consM (ret (.int 18)) (ret [])) ran1I) 7 yesM (bin eqM (getL 0) (getL 7)))
noncomputable def g_l_good : M Out :=
    (seqM (asgM (ret .non) (setL 5))
    (seqM (tryM (dropM (bnd (consM (getL 0) (consM (getL 1) (consM (getL 2) (consM (getL 3) (consM (getL 4) (ret [])))))) (callX 5 X_l_raise))) [("BadKey", true), ("BadValue", true), ("BadWord", true), ("BadElders", true), ("BadText", true), ("BadRow", true), ("Unsaved", true), ("NotRising", true), ("NoRow", true), ("Unfit", true), ("NoColumn", true), ("ColumnThere", true), ("NoClash", true), ("NoPage", true), ("NoMake", true), ("NotBroken", true), ("NoName", true), ("InUse", true)] (suK 6 5))
    (seqM (ifM (orT (tst (bin isM (getL 5) (ret .non))) (notT (tst (bnd (getL 5) (isE [("BadKey", true), ("BadValue", true), ("BadWord", true), ("BadElders", true), ("BadText", true), ("BadRow", true), ("Unsaved", true), ("NotRising", true), ("NoRow", true), ("Unfit", true), ("NoColumn", true), ("ColumnThere", true), ("NoClash", true), ("NoPage", true), ("NoMake", true), ("NotBroken", true), ("NoName", true), ("InUse", true)]))))) (retM (ret (.bl false))) (ret .nx))
    (seqM (ifM (tst (bin neM (bnd (consM (getL 5) (ret [])) (callP 1 F_l_classes)) (frzM c_l_good_1))) (retM (ret (.bl false))) (ret .nx))
    (retM (bnd (consM (getL 5) (consM (getL 1) (consM (getL 2) (consM (getL 3) (consM (getL 4) (ret [])))))) (callP 5 F_l_tells)))))))
noncomputable def F_l_good : Pf := runP 8 g_l_good
theorem ok_l_good {P : Program} {wd : World} {K : PySem.W.Frag} {mg : Str → Option Value} {base : Heap} (T : Txt K mg) (F : Top K mg "_law_good" s_l_good ["_law_k", "_law_key_here", "_law_column", "_law_number", "_law_word"]) (c_l_classes : FnP P wd K mg base "_law_classes" 1 1 F_l_classes) (c_l_tells : FnP P wd K mg base "_law_tells" 5 2 F_l_tells) (cx_l_raise : FnX P wd K mg base "_law_raise" 5 3 X_l_raise) :
    FnP P wd K mg base "_law_good" 5 4 F_l_good :=
  F.fn sc_l_good (by decide) fun f cdv A outer s H E hr =>
    ((dss_cons (ds_set 5 de_non sc_l_good.nd)
    (dss_cons (ds_try_keep (i := 6) (j := 5) (n := "_law_e") outW0 takes0 (.cons T.xp_BadKey_TableError (.cons T.xp_BadValue_TableError (.cons T.xp_BadWord_TableError (.cons T.xp_BadElders_TableError (.cons T.xp_BadText_TableError (.cons T.xp_BadRow_TableError (.cons T.xp_Unsaved_TableError (.cons T.xp_NotRising_TableError (.cons T.xp_NoRow_TableError (.cons T.xp_Unfit_TableError (.cons T.xp_NoColumn_TableError (.cons T.xp_ColumnThere_TableError (.cons T.xp_NoClash_TableError (.cons T.xp_NoPage_TableError (.cons T.xp_NoMake_TableError (.cons T.xp_NotBroken_TableError (.cons T.xp_NoName_TableError (.cons T.xp_InUse_TableError .nil)))))))))))))))))) (.cons T.xk_BadKey (.cons T.xk_BadValue (.cons T.xk_BadWord (.cons T.xk_BadElders (.cons T.xk_BadText (.cons T.xk_BadRow (.cons T.xk_Unsaved (.cons T.xk_NotRising (.cons T.xk_NoRow (.cons T.xk_Unfit (.cons T.xk_NoColumn (.cons T.xk_ColumnThere (.cons T.xk_NoClash (.cons T.xk_NoPage (.cons T.xk_NoMake (.cons T.xk_NotBroken (.cons T.xk_NoName (.cons T.xk_InUse .nil)))))))))))))))))) T.xn_TableError (by decide) (fun W' pn xe tk po => (dss_one (ds_expr (de_callX cx_l_raise tk (hr.mono (by decide)) (da_cons (de_v 0) (da_cons (de_v 1) (da_cons (de_v 2) (da_cons (de_v 3) (da_cons (de_v 4) da_nil))))))))) sc_l_good.nd)
    (dss_cons (ds_if (dt_w (dw_or (dt_cmp op_isN rop_is (de_v 5) de_non) (dw_or1 (dt_not (dt_val (de_isEB (T := "ValueError") (tab := [("BadKey", true), ("BadValue", true), ("BadWord", true), ("BadElders", true), ("BadText", true), ("BadRow", true), ("Unsaved", true), ("NotRising", true), ("NoRow", true), ("Unfit", true), ("NoColumn", true), ("ColumnThere", true), ("NoClash", true), ("NoPage", true), ("NoMake", true), ("NotBroken", true), ("NoName", true), ("InUse", true)]) (.cons T.xb_BadKey_ValueError (.cons T.xb_BadValue_ValueError (.cons T.xb_BadWord_ValueError (.cons T.xb_BadElders_ValueError (.cons T.xb_BadText_ValueError (.cons T.xb_BadRow_ValueError (.cons T.xb_Unsaved_ValueError (.cons T.xb_NotRising_ValueError (.cons T.xb_NoRow_ValueError (.cons T.xb_Unfit_ValueError (.cons T.xb_NoColumn_ValueError (.cons T.xb_ColumnThere_ValueError (.cons T.xb_NoClash_ValueError (.cons T.xb_NoPage_ValueError (.cons T.xb_NoMake_ValueError (.cons T.xb_NotBroken_ValueError (.cons T.xb_NoName_ValueError (.cons T.xb_InUse_ValueError .nil)))))))))))))))))) (.cons T.xk_BadKey (.cons T.xk_BadValue (.cons T.xk_BadWord (.cons T.xk_BadElders (.cons T.xk_BadText (.cons T.xk_BadRow (.cons T.xk_Unsaved (.cons T.xk_NotRising (.cons T.xk_NoRow (.cons T.xk_Unfit (.cons T.xk_NoColumn (.cons T.xk_ColumnThere (.cons T.xk_NoClash (.cons T.xk_NoPage (.cons T.xk_NoMake (.cons T.xk_NotBroken (.cons T.xk_NoName (.cons T.xk_InUse .nil)))))))))))))))))) T.b_isinstance T.b_ValueError (by decide +kernel) (de_v 5))))))) (dss_one (ds_ret de_bl)) dss_nil)
    (dss_cons (ds_if (dt_cmp (op_neA (units_of hr)) rop_ne (de_callP c_l_classes (hr.mono (by decide)) (da_cons (de_v 5) da_nil)) (de_frz (dn_lc rfl sc_l_good.nd (di_range1 T.b_range (da_cons de_int da_nil)) (blkOk_by (own := [("_law_j", 7)]) (N := ["_law_k", "_law_key_here", "_law_column", "_law_number", "_law_word", "_law_caught", "_law_e", "_law_j"]) (sc := defScope s_l_good) (by decide +kernel)) (fun _ _ _ _ _ => pg_n (i := 7) sc_l_good.nd) (fun _ _ _ _ _ => tests_nil) (fun _ _ _ _ _ => (de_cmp (op_eqA (units_of hr)) rop_eq (de_v 0) (de_v 7)))))) (dss_one (ds_ret de_bl)) dss_nil)
    (dss_one (ds_ret (de_callP c_l_tells (hr.mono (by decide)) (da_cons (de_v 5) (da_cons (de_v 1) (da_cons (de_v 2) (da_cons (de_v 3) (da_cons (de_v 4) da_nil)))))))))))) : DSs _ W0 (defBody s_l_good) g_l_good)
abbrev s_law : Stmt := topS 31
theorem sc_law : FnScope ["_law_script", "_law_key_here", "_law_column", "_law_number", "_law_word", "_law_k"] ["_law_script"] (defScope s_law) := ⟨rfl, rfl, rfl, by decide +kernel, rfl, by decide +kernel, by decide +kernel⟩
noncomputable def b_law_1 : M Out :=
    (ifM (notT (tst (bnd (consM (getL 5) (consM (getL 1) (consM (getL 2) (consM (getL 3) (consM (getL 4) (ret [])))))) (callP 5 F_l_good)))) (retM (ret (.bl false))) (ret .nx))
noncomputable def g_law : M Out :=
    (seqM (asgM (bnd (consM (bnd (consM (getL 0) (consM (ret (.int 0)) (ret []))) (callP 2 F_l_cell_at)) (ret [])) (callP 1 F_l_key)) (setL 1))
    (seqM (asgM (bnd (consM (bnd (consM (getL 0) (consM (ret (.int 1)) (ret []))) (callP 2 F_l_cell_at)) (ret [])) (callP 1 F_l_letters)) (setL 2))
    (seqM (asgM (bin modM (bnd (consM (getL 0) (consM (ret (.int 2)) (ret []))) (callP 2 F_l_cell_at)) (bin powM (ret (.int 10)) (ret (.int 29)))) (setL 3))
    (seqM (asgM (bnd (consM (bnd (consM (getL 0) (consM (ret (.int 3)) (ret []))) (callP 2 F_l_cell_at)) (ret [])) (callP 1 F_l_letters)) (setL 4))
    (seqM (forM (bnd (consM (ret (.int 18)) (ret [])) ran1I) (setL 5) b_law_1)
    (retM (ret (.bl true))))))))
noncomputable def F_law : Pf := runP 6 g_law
theorem ok_law {P : Program} {wd : World} {K : PySem.W.Frag} {mg : Str → Option Value} (T : Txt K mg) (F : Top K mg "law" s_law ["_law_script"])
    (C : ∀ base : Heap, K.In base → base.Ns mainGlobals mg → FnP P wd K mg base "_law_key" 1 3 F_l_key ∧ FnP P wd K mg base "_law_cell_at" 2 1 F_l_cell_at ∧ FnP P wd K mg base "_law_letters" 1 2 F_l_letters ∧ FnP P wd K mg base "_law_good" 5 4 F_l_good ∧ True) :
    ∃ (fa : Addr) (fd : FuncData), mg "law" = some (.ref fa) ∧ (∀ (s : Shared) (u : Value), BindsTo s fd ⟨[u], []⟩ [("_law_script", u)]) ∧ ∀ base : Heap, K.In base → base.Ns mainGlobals mg → FnOk P wd K mg base CX0 5 fa fd ["_law_script"] (SpP K 1 F_law) :=
  F.law sc_law (by decide) fun base X0 G0 f cdv A outer s H E hr => let ⟨c_l_key, c_l_cell_at, c_l_letters, c_l_good, _⟩ := C base X0 G0
    ((dss_cons (ds_set 1 (de_callP c_l_key (hr.mono (by decide)) (da_cons (de_callP c_l_cell_at (hr.mono (by decide)) (da_cons (de_v 0) (da_cons de_int da_nil))) da_nil)) sc_law.nd)
    (dss_cons (ds_set 2 (de_callP c_l_letters (hr.mono (by decide)) (da_cons (de_callP c_l_cell_at (hr.mono (by decide)) (da_cons (de_v 0) (da_cons de_int da_nil))) da_nil)) sc_law.nd)
    (dss_cons (ds_set 3 (de_mod (de_callP c_l_cell_at (hr.mono (by decide)) (da_cons (de_v 0) (da_cons de_int da_nil))) (de_pow de_int de_int)) sc_law.nd)
    (dss_cons (ds_set 4 (de_callP c_l_letters (hr.mono (by decide)) (da_cons (de_callP c_l_cell_at (hr.mono (by decide)) (da_cons (de_v 0) (da_cons de_int da_nil))) da_nil)) sc_law.nd)
    (dss_cons (ds_for PassesOwn.never rfl (di_range1 T.b_range (da_cons de_int da_nil)) (dg_name sc_law.nd) (dss_one (ds_if (dt_not (dt_val (de_callP c_l_good (hr.mono (by decide)) (da_cons (de_v 5) (da_cons (de_v 1) (da_cons (de_v 2) (da_cons (de_v 3) (da_cons (de_v 4) da_nil)))))))) (dss_one (ds_ret de_bl)) dss_nil)))
    (dss_one (ds_ret de_bl))))))) : DSs _ W0 (defBody s_law) g_law)
end Wktwigtable_k08_refusals

namespace My
open PySem PySem.Spec PyProof.Rows L2 Fx Wktwigtable_k08_refusals
local macro_rules | `(tactic| walk_at "fy") => `(tactic| simp (disch := first | rfl | decide | omega | assumption | (simp only [List.length_append, List.length_cons, List.length_nil, List.length_take, List.length_drop, List.length_map]; omega)) only [x_unp2, x_unp3, x_unpP, x_lputS, x_getE1, x_getE2, x_popE1, x_popE2, x_updE, x_onD, x_npop, x_revT, x_revL, keyD_int, keyD_str, x_alt, x_altO, x_altB, x_altI, x_at0, x_at1, x_at2, x_at3, x_st0, x_st1, x_st2, x_fld, x_fldS, x_sto, x_met, x_metK, x_met0, x_metK0, x_callN, x_callNR, x_callS, x_callSR, x_make, x_mkR, x_ixC, x_ixCd, x_ixCl, x_ixAL, x_ixAT, x_ixAS, x_ixD, x_dstR, x_inC, x_ninC, x_inS, x_ninS, x_inCd, x_inCl, x_inL, x_ninL, x_dputS, x_dput, x_dputT, x_dputR, x_pair, x_keyI, x_keyS, x_dsp, x_merge1, x_isTyC, x_intB, x_intI, x_neg, x_maxl, x_minl, Int.reduceEq, Int.reduceMod, Int.reduceAdd, Int.reduceSub, Int.reduceMul, Int.reduceLT, Int.reduceLE, x_ran1, x_ran2, eq_self, x_lstO, x_isTyR, x_app, x_appR, x_meth0, x_clrC, x_clrR, x_seqC, x_seqCR, x_lenC, x_lenR, x_lenRd, x_isaC, x_isaR, x_isaRd, x_sortSet, x_lk0, x_lk1, x_lk2, x_lk3, x_lk4, x_eqIs, x_neIs, List.append_assoc, List.length_append, Nat.reduceLeDiff, x_min2, x_max2, beq_true, beq_false, x_lisL, x_lisT, litD, Option.isSome_some, Option.isSome_none, x_bnd, x_ok, x_ret, x_fail, x_ite, x_iteM, x_bad, x_get, x_look, x_set, x_seq, x_nx, x_rt, x_brk, x_cnt, x_bad2, x_ite2, x_asg, x_retM, x_drop, x_if, x_itM, x_asB, x_bin, x_tst, x_and, x_or, x_not, x_andT, x_orT, x_notT, x_cons, x_call, x_callR, x_isa, x_sub, x_add, x_mul, x_mod, x_div, x_pow, x_lt, x_le, x_gt, x_ge, x_eqI, x_neI, x_true, x_false, x_aug, x_augF, x_forM, x_frz, x_lst, x_tup, x_lenL, x_ixL, x_ixT, x_opt, x_slL, x_slM, x_slVL, x_slVTx, x_part, x_lenTx, x_addTx, cutS_take, cutS_drop, cutS_drop1, x_seqL, x_seqT,
  initS, List.map_cons, List.map_nil, List.length_cons, List.length_nil, List.cons_append, List.nil_append, List.append_nil, tyName, x_join, x_slS, x_eqS, x_neS, x_eqB, x_neB, tx_app, tx_len, x_is1, x_is2, x_is3, x_is4, x_is5, x_isn1, x_isn2, x_isn3, x_isn4, x_isn5, x_meth, isTy_last, x_own, cd_nil, isa_int_NoneType, isa_int_bool, isa_int_int, isa_int_str, isa_int_tuple, isa_int_list, isa_int_dict, isa_bool_NoneType, isa_bool_bool, isa_bool_int, isa_bool_str, isa_bool_tuple, isa_bool_list, isa_bool_dict, isa_str_NoneType, isa_str_bool, isa_str_int, isa_str_str, isa_str_tuple, isa_str_list, isa_str_dict, isa_tuple_NoneType, isa_tuple_bool, isa_tuple_int, isa_tuple_str, isa_tuple_tuple, isa_tuple_list, isa_tuple_dict, isa_list_NoneType, isa_list_bool, isa_list_int, isa_list_str, isa_list_tuple, isa_list_list, isa_list_dict, isa_dict_NoneType, isa_dict_bool, isa_dict_int, isa_dict_str, isa_dict_tuple, isa_dict_list, isa_dict_dict, decide_eq_true_eq, decide_true, decide_false, Nat.reduceAdd, Nat.reduceSub, Nat.zero_add, List.replicate, List.replicate_succ, List.replicate_zero, List.getElem?_cons_zero, List.getElem?_cons_succ, List.set_cons_zero, List.set_cons_succ, Bool.not_true, Bool.not_false, if_true, if_false, Bool.false_eq_true, ite_true, ite_false, beq_self_eq_true, Bool.or_true, Bool.true_or, Bool.or_false, Bool.false_or, Bool.and_true, Bool.and_false, Bool.true_and, Bool.false_and, Int.reduceToNat])
local macro_rules | `(tactic| walk_at "fyh") => `(tactic| simp (disch := first | rfl | decide | omega | assumption | (simp only [List.length_append, List.length_cons, List.length_nil, List.length_take, List.length_drop, List.length_map]; omega)) only [*, x_unp2, x_unp3, x_unpP, x_lputS, x_getE1, x_getE2, x_popE1, x_popE2, x_updE, x_onD, x_npop, x_revT, x_revL, keyD_int, keyD_str, x_alt, x_altO, x_altB, x_altI, x_at0, x_at1, x_at2, x_at3, x_st0, x_st1, x_st2, x_fld, x_fldS, x_sto, x_met, x_metK, x_met0, x_metK0, x_callN, x_callNR, x_callS, x_callSR, x_make, x_mkR, x_ixC, x_ixCd, x_ixCl, x_ixAL, x_ixAT, x_ixAS, x_ixD, x_dstR, x_inC, x_ninC, x_inS, x_ninS, x_inCd, x_inCl, x_inL, x_ninL, x_dputS, x_dput, x_dputT, x_dputR, x_pair, x_keyI, x_keyS, x_dsp, x_merge1, x_isTyC, x_intB, x_intI, x_neg, x_maxl, x_minl, Int.reduceEq, Int.reduceMod, Int.reduceAdd, Int.reduceSub, Int.reduceMul, Int.reduceLT, Int.reduceLE, x_ran1, x_ran2, eq_self, x_lstO, x_isTyR, x_app, x_appR, x_meth0, x_clrC, x_clrR, x_seqC, x_seqCR, x_lenC, x_lenR, x_lenRd, x_isaC, x_isaR, x_isaRd, x_sortSet, x_lk0, x_lk1, x_lk2, x_lk3, x_lk4, x_eqIs, x_neIs, List.append_assoc, List.length_append, Nat.reduceLeDiff, x_min2, x_max2, beq_true, beq_false, x_lisL, x_lisT, litD, Option.isSome_some, Option.isSome_none, x_bnd, x_ok, x_ret, x_fail, x_ite, x_iteM, x_bad, x_get, x_look, x_set, x_seq, x_nx, x_rt, x_brk, x_cnt, x_bad2, x_ite2, x_asg, x_retM, x_drop, x_if, x_itM, x_asB, x_bin, x_tst, x_and, x_or, x_not, x_andT, x_orT, x_notT, x_cons, x_call, x_callR, x_isa, x_sub, x_add, x_mul, x_mod, x_div, x_pow, x_lt, x_le, x_gt, x_ge, x_eqI, x_neI, x_true, x_false, x_aug, x_augF, x_forM, x_frz, x_lst, x_tup, x_lenL, x_ixL, x_ixT, x_opt, x_slL, x_slM, x_slVL, x_slVTx, x_part, x_lenTx, x_addTx, cutS_take, cutS_drop, cutS_drop1, x_seqL, x_seqT,
  initS, List.map_cons, List.map_nil, List.length_cons, List.length_nil, List.cons_append, List.nil_append, List.append_nil, tyName, x_join, x_slS, x_eqS, x_neS, x_eqB, x_neB, tx_app, tx_len, x_is1, x_is2, x_is3, x_is4, x_is5, x_isn1, x_isn2, x_isn3, x_isn4, x_isn5, x_meth, isTy_last, x_own, cd_nil, isa_int_NoneType, isa_int_bool, isa_int_int, isa_int_str, isa_int_tuple, isa_int_list, isa_int_dict, isa_bool_NoneType, isa_bool_bool, isa_bool_int, isa_bool_str, isa_bool_tuple, isa_bool_list, isa_bool_dict, isa_str_NoneType, isa_str_bool, isa_str_int, isa_str_str, isa_str_tuple, isa_str_list, isa_str_dict, isa_tuple_NoneType, isa_tuple_bool, isa_tuple_int, isa_tuple_str, isa_tuple_tuple, isa_tuple_list, isa_tuple_dict, isa_list_NoneType, isa_list_bool, isa_list_int, isa_list_str, isa_list_tuple, isa_list_list, isa_list_dict, isa_dict_NoneType, isa_dict_bool, isa_dict_int, isa_dict_str, isa_dict_tuple, isa_dict_list, isa_dict_dict, decide_eq_true_eq, decide_true, decide_false, Nat.reduceAdd, Nat.reduceSub, Nat.zero_add, List.replicate, List.replicate_succ, List.replicate_zero, List.getElem?_cons_zero, List.getElem?_cons_succ, List.set_cons_zero, List.set_cons_succ, Bool.not_true, Bool.not_false, if_true, if_false, Bool.false_eq_true, ite_true, ite_false, beq_self_eq_true, Bool.or_true, Bool.true_or, Bool.or_false, Bool.false_or, Bool.and_true, Bool.and_false, Bool.true_and, Bool.false_and, Int.reduceToNat])
/-! drawn numbers -/
theorem lgI (x : Int) (h : -(2 ^ 200) < x) (h2 : x < 2 ^ 200) : x.natAbs.log2 < 200 := log2_of (by decide) (by omega)
/-! k08: errors kept, asked and read -/
theorem x_excT {α β : Type} {e : Ex} {s : S} {k : α → M β} : (Res.exc e s : Res α).then' k = .exc e s := nr rfl
theorem x_excA {e : Ex} {s : S} {q : M Out} : (Res.exc e s : Res Out).andThen q = .exc e s := nr rfl
theorem x_tryK {tab : List (Str × Bool)} {su : Ex → M Out} {x : Str} {fs : List (Str × D)} {s : Fx.S} (h : tab.lookup x = some true) : tryR tab su (.exc ⟨x, fs⟩ s) = su ⟨x, fs⟩ s := x_tryE h
local macro_rules | `(tactic| walk_at "fe") => `(tactic| ((try walk_at "fyh"); repeat (simp (disch := first | decide | rfl | omega | assumption | (simp only [List.length_cons, List.length_nil]; omega)) only [*, x_callX, x_rzO, x_rzE, x_raise, x_try, x_tryK, x_tryE, x_tryO, x_excT, x_excA, x_isEt, x_isEf, x_isEst, x_isEsf, x_suK, x_isErr, x_isnErr, List.length_cons, List.length_nil, Nat.reduceAdd, if_true, List.zip_cons_cons, List.zip_nil_right, List.zip_nil_left, List.reverse_cons, List.reverse_nil, List.nil_append]; try walk_at "fyh")))
/-- what stands in an error: equal to itself, without cells -/
structure Sm8 (d : D) : Prop where
  q : ∀ vh, F_l_same [d, d] vh = some (.bl true)
  n : ∀ c, nc c d = true
theorem sm_int (n : Int) : Sm8 (.int n) := by
  refine ⟨fun vh => runP_of ?_ rfl, fun _ => rfl⟩
  have e : ∀ s, eqM (.int n) (.int n) s = .ok (.bl true) s := fun s => x_eqSelf (Eqd.int n)
  unfold g_l_same
  walk_at "fyh"
  exact ⟨_, rfl⟩
theorem sm_str {cs : List Nat} (h : ∀ c ∈ cs, c < 1114112) : Sm8 (.str (tx cs)) := by
  refine ⟨fun vh => runP_of ?_ rfl, fun _ => rfl⟩
  have e : ∀ s, eqM (.str (tx cs)) (.str (tx cs)) s = .ok (.bl true) s := fun s => x_eqSelf (Eqd.tx h)
  clear h
  unfold g_l_same
  walk_at "fyh"
  exact ⟨_, rfl⟩
theorem rp_0 (vh : List Cell) : X_l_raise_plain [.int 0] vh = .exc ⟨"BadKey", []⟩ vh := by
  refine runXP_ex (more := []) ?_ rfl
  rw [List.append_nil]
  unfold gx_l_raise_plain
  walk_at "fe"
  try exact ⟨_, rfl⟩
theorem rs_0 {K C N W : D} (hK : Sm8 K) (hC : Sm8 C) (hN : Sm8 N) (hW : Sm8 W) (vh : List Cell) : X_l_raise [.int 0, K, C, N, W] vh = .exc ⟨"BadKey", []⟩ vh := by
  have n1 := hK.n vh.length
  have n2 := hC.n vh.length
  have n3 := hN.n vh.length
  have n4 := hW.n vh.length
  refine runXP_ex (more := []) ?_ (by simp only [List.all_cons, List.all_nil, n1, n2, n3, n4, Bool.and_true])
  rw [List.append_nil]
  have rp := rp_0 vh
  clear hK hC hN hW n1 n2 n3 n4
  unfold gx_l_raise
  walk_at "fe"
  try exact ⟨_, rfl⟩
theorem cs_0 {ds : List D} (vh : List Cell) : F_l_classes [.err "BadKey" [] ds] vh = some (.lst [.bl true, .bl false, .bl false, .bl false, .bl false, .bl false, .bl false, .bl false, .bl false, .bl false, .bl false, .bl false, .bl false, .bl false, .bl false, .bl false, .bl false, .bl false]) := by
  refine runP_of ?_ rfl
  unfold g_l_classes
  walk_at "fe"
  try exact ⟨_, rfl⟩
theorem ts_0 {K C N W : D} (hK : Sm8 K) (hC : Sm8 C) (hN : Sm8 N) (hW : Sm8 W) (vh : List Cell) : F_l_tells [(.err "BadKey" [] []), K, C, N, W] vh = some (.bl true) := by
  refine runP_of ?_ rfl
  clear hK hC hN hW
  unfold g_l_tells
  walk_at "fe"
  try exact ⟨_, rfl⟩
theorem gd_0 {K C N W : D} (hK : Sm8 K) (hC : Sm8 C) (hN : Sm8 N) (hW : Sm8 W) (vh : List Cell) : F_l_good [.int 0, K, C, N, W] vh = some (.bl true) := by
  refine runP_of ?_ rfl
  have e1 := rs_0 hK hC hN hW vh
  have e2 := cs_0 (ds := []) vh
  have e3 := ts_0 hK hC hN hW vh
  have e4 : ∀ e, errD e = .err e.cls (e.fs.map (·.1)) (e.fs.map (·.2)) := fun _ => rfl
  have e5 : ∀ s, neM (.lst [.bl true, .bl false, .bl false, .bl false, .bl false, .bl false, .bl false, .bl false, .bl false, .bl false, .bl false, .bl false, .bl false, .bl false, .bl false, .bl false, .bl false, .bl false]) (.lst [.bl true, .bl false, .bl false, .bl false, .bl false, .bl false, .bl false, .bl false, .bl false, .bl false, .bl false, .bl false, .bl false, .bl false, .bl false, .bl false, .bl false, .bl false]) s = .ok (.bl false) s := fun s => x_neSelf (Eqd.mono (Eqd.lst (n := 0) fun d hd => by
    simp only [List.mem_cons, List.not_mem_nil, or_false] at hd
    rcases hd with rfl | rfl | rfl | rfl | rfl | rfl | rfl | rfl | rfl | rfl | rfl | rfl | rfl | rfl | rfl | rfl | rfl | rfl <;> exact Eqd.bl _) (by decide))
  have e6 : ∀ x1 x2 x3 x4 x5 x6 x7, c_l_good_1 ⟨[some (.int 0), x1, x2, x3, x4, x5, x6, x7], vh⟩ = .ok (.lst [.bl true, .bl false, .bl false, .bl false, .bl false, .bl false, .bl false, .bl false, .bl false, .bl false, .bl false, .bl false, .bl false, .bl false, .bl false, .bl false, .bl false, .bl false]) ⟨[some (.int 0), x1, x2, x3, x4, x5, x6, x7], vh⟩ := fun x1 x2 x3 x4 x5 x6 x7 => by
    have := lc_pure (ok := fun _ => True) (l := [some (.int 0), x1, x2, x3, x4, x5, x6, x7]) (vh := vh) (i := 7) (c := yesM) (e := bin eqM (getL 0) (getL 7)) (f := bnd (consM (ret (.int 18)) (ret [])) ran1I) (List.range 18) (fun j => D.int (0 + (j : Int))) (fun j => D.bl (decide ((0 : Int) = 0 + (j : Int)))) (fun _ => true) (by
      have o1 : okB 18 = true := okB_of (by omega) (by omega)
      clear e1 e2 e3 e4 e5 hK hC hN hW
      walk_at "fyh"
      rfl) (fun _ => trivial) (by rw [List.length_range]; omega) (fun _ _ => rfl) (fun j hj _ => by
      clear e1 e2 e3 e4 e5 hK hC hN hW
      walk_at "fy")
    exact this
  clear hK hC hN hW
  unfold g_l_good
  walk_at "fe"
  try exact ⟨_, rfl⟩
theorem rp_1 (vh : List Cell) : X_l_raise_plain [.int 1] vh = .exc ⟨"BadValue", []⟩ vh := by
  refine runXP_ex (more := []) ?_ rfl
  rw [List.append_nil]
  unfold gx_l_raise_plain
  walk_at "fe"
  try exact ⟨_, rfl⟩
theorem rs_1 {K C N W : D} (hK : Sm8 K) (hC : Sm8 C) (hN : Sm8 N) (hW : Sm8 W) (vh : List Cell) : X_l_raise [.int 1, K, C, N, W] vh = .exc ⟨"BadValue", []⟩ vh := by
  have n1 := hK.n vh.length
  have n2 := hC.n vh.length
  have n3 := hN.n vh.length
  have n4 := hW.n vh.length
  refine runXP_ex (more := []) ?_ (by simp only [List.all_cons, List.all_nil, n1, n2, n3, n4, Bool.and_true])
  rw [List.append_nil]
  have rp := rp_1 vh
  clear hK hC hN hW n1 n2 n3 n4
  unfold gx_l_raise
  walk_at "fe"
  try exact ⟨_, rfl⟩
theorem cs_1 {ds : List D} (vh : List Cell) : F_l_classes [.err "BadValue" [] ds] vh = some (.lst [.bl false, .bl true, .bl false, .bl false, .bl false, .bl false, .bl false, .bl false, .bl false, .bl false, .bl false, .bl false, .bl false, .bl false, .bl false, .bl false, .bl false, .bl false]) := by
  refine runP_of ?_ rfl
  unfold g_l_classes
  walk_at "fe"
  try exact ⟨_, rfl⟩
theorem ts_1 {K C N W : D} (hK : Sm8 K) (hC : Sm8 C) (hN : Sm8 N) (hW : Sm8 W) (vh : List Cell) : F_l_tells [(.err "BadValue" [] []), K, C, N, W] vh = some (.bl true) := by
  refine runP_of ?_ rfl
  clear hK hC hN hW
  unfold g_l_tells
  walk_at "fe"
  try exact ⟨_, rfl⟩
theorem gd_1 {K C N W : D} (hK : Sm8 K) (hC : Sm8 C) (hN : Sm8 N) (hW : Sm8 W) (vh : List Cell) : F_l_good [.int 1, K, C, N, W] vh = some (.bl true) := by
  refine runP_of ?_ rfl
  have e1 := rs_1 hK hC hN hW vh
  have e2 := cs_1 (ds := []) vh
  have e3 := ts_1 hK hC hN hW vh
  have e4 : ∀ e, errD e = .err e.cls (e.fs.map (·.1)) (e.fs.map (·.2)) := fun _ => rfl
  have e5 : ∀ s, neM (.lst [.bl false, .bl true, .bl false, .bl false, .bl false, .bl false, .bl false, .bl false, .bl false, .bl false, .bl false, .bl false, .bl false, .bl false, .bl false, .bl false, .bl false, .bl false]) (.lst [.bl false, .bl true, .bl false, .bl false, .bl false, .bl false, .bl false, .bl false, .bl false, .bl false, .bl false, .bl false, .bl false, .bl false, .bl false, .bl false, .bl false, .bl false]) s = .ok (.bl false) s := fun s => x_neSelf (Eqd.mono (Eqd.lst (n := 0) fun d hd => by
    simp only [List.mem_cons, List.not_mem_nil, or_false] at hd
    rcases hd with rfl | rfl | rfl | rfl | rfl | rfl | rfl | rfl | rfl | rfl | rfl | rfl | rfl | rfl | rfl | rfl | rfl | rfl <;> exact Eqd.bl _) (by decide))
  have e6 : ∀ x1 x2 x3 x4 x5 x6 x7, c_l_good_1 ⟨[some (.int 1), x1, x2, x3, x4, x5, x6, x7], vh⟩ = .ok (.lst [.bl false, .bl true, .bl false, .bl false, .bl false, .bl false, .bl false, .bl false, .bl false, .bl false, .bl false, .bl false, .bl false, .bl false, .bl false, .bl false, .bl false, .bl false]) ⟨[some (.int 1), x1, x2, x3, x4, x5, x6, x7], vh⟩ := fun x1 x2 x3 x4 x5 x6 x7 => by
    have := lc_pure (ok := fun _ => True) (l := [some (.int 1), x1, x2, x3, x4, x5, x6, x7]) (vh := vh) (i := 7) (c := yesM) (e := bin eqM (getL 0) (getL 7)) (f := bnd (consM (ret (.int 18)) (ret [])) ran1I) (List.range 18) (fun j => D.int (0 + (j : Int))) (fun j => D.bl (decide ((1 : Int) = 0 + (j : Int)))) (fun _ => true) (by
      have o1 : okB 18 = true := okB_of (by omega) (by omega)
      clear e1 e2 e3 e4 e5 hK hC hN hW
      walk_at "fyh"
      rfl) (fun _ => trivial) (by rw [List.length_range]; omega) (fun _ _ => rfl) (fun j hj _ => by
      clear e1 e2 e3 e4 e5 hK hC hN hW
      walk_at "fy")
    exact this
  clear hK hC hN hW
  unfold g_l_good
  walk_at "fe"
  try exact ⟨_, rfl⟩
theorem rp_2 (vh : List Cell) : X_l_raise_plain [.int 2] vh = .exc ⟨"BadWord", []⟩ vh := by
  refine runXP_ex (more := []) ?_ rfl
  rw [List.append_nil]
  unfold gx_l_raise_plain
  walk_at "fe"
  try exact ⟨_, rfl⟩
theorem rs_2 {K C N W : D} (hK : Sm8 K) (hC : Sm8 C) (hN : Sm8 N) (hW : Sm8 W) (vh : List Cell) : X_l_raise [.int 2, K, C, N, W] vh = .exc ⟨"BadWord", []⟩ vh := by
  have n1 := hK.n vh.length
  have n2 := hC.n vh.length
  have n3 := hN.n vh.length
  have n4 := hW.n vh.length
  refine runXP_ex (more := []) ?_ (by simp only [List.all_cons, List.all_nil, n1, n2, n3, n4, Bool.and_true])
  rw [List.append_nil]
  have rp := rp_2 vh
  clear hK hC hN hW n1 n2 n3 n4
  unfold gx_l_raise
  walk_at "fe"
  try exact ⟨_, rfl⟩
theorem cs_2 {ds : List D} (vh : List Cell) : F_l_classes [.err "BadWord" [] ds] vh = some (.lst [.bl false, .bl false, .bl true, .bl false, .bl false, .bl false, .bl false, .bl false, .bl false, .bl false, .bl false, .bl false, .bl false, .bl false, .bl false, .bl false, .bl false, .bl false]) := by
  refine runP_of ?_ rfl
  unfold g_l_classes
  walk_at "fe"
  try exact ⟨_, rfl⟩
theorem ts_2 {K C N W : D} (hK : Sm8 K) (hC : Sm8 C) (hN : Sm8 N) (hW : Sm8 W) (vh : List Cell) : F_l_tells [(.err "BadWord" [] []), K, C, N, W] vh = some (.bl true) := by
  refine runP_of ?_ rfl
  clear hK hC hN hW
  unfold g_l_tells
  walk_at "fe"
  try exact ⟨_, rfl⟩
theorem gd_2 {K C N W : D} (hK : Sm8 K) (hC : Sm8 C) (hN : Sm8 N) (hW : Sm8 W) (vh : List Cell) : F_l_good [.int 2, K, C, N, W] vh = some (.bl true) := by
  refine runP_of ?_ rfl
  have e1 := rs_2 hK hC hN hW vh
  have e2 := cs_2 (ds := []) vh
  have e3 := ts_2 hK hC hN hW vh
  have e4 : ∀ e, errD e = .err e.cls (e.fs.map (·.1)) (e.fs.map (·.2)) := fun _ => rfl
  have e5 : ∀ s, neM (.lst [.bl false, .bl false, .bl true, .bl false, .bl false, .bl false, .bl false, .bl false, .bl false, .bl false, .bl false, .bl false, .bl false, .bl false, .bl false, .bl false, .bl false, .bl false]) (.lst [.bl false, .bl false, .bl true, .bl false, .bl false, .bl false, .bl false, .bl false, .bl false, .bl false, .bl false, .bl false, .bl false, .bl false, .bl false, .bl false, .bl false, .bl false]) s = .ok (.bl false) s := fun s => x_neSelf (Eqd.mono (Eqd.lst (n := 0) fun d hd => by
    simp only [List.mem_cons, List.not_mem_nil, or_false] at hd
    rcases hd with rfl | rfl | rfl | rfl | rfl | rfl | rfl | rfl | rfl | rfl | rfl | rfl | rfl | rfl | rfl | rfl | rfl | rfl <;> exact Eqd.bl _) (by decide))
  have e6 : ∀ x1 x2 x3 x4 x5 x6 x7, c_l_good_1 ⟨[some (.int 2), x1, x2, x3, x4, x5, x6, x7], vh⟩ = .ok (.lst [.bl false, .bl false, .bl true, .bl false, .bl false, .bl false, .bl false, .bl false, .bl false, .bl false, .bl false, .bl false, .bl false, .bl false, .bl false, .bl false, .bl false, .bl false]) ⟨[some (.int 2), x1, x2, x3, x4, x5, x6, x7], vh⟩ := fun x1 x2 x3 x4 x5 x6 x7 => by
    have := lc_pure (ok := fun _ => True) (l := [some (.int 2), x1, x2, x3, x4, x5, x6, x7]) (vh := vh) (i := 7) (c := yesM) (e := bin eqM (getL 0) (getL 7)) (f := bnd (consM (ret (.int 18)) (ret [])) ran1I) (List.range 18) (fun j => D.int (0 + (j : Int))) (fun j => D.bl (decide ((2 : Int) = 0 + (j : Int)))) (fun _ => true) (by
      have o1 : okB 18 = true := okB_of (by omega) (by omega)
      clear e1 e2 e3 e4 e5 hK hC hN hW
      walk_at "fyh"
      rfl) (fun _ => trivial) (by rw [List.length_range]; omega) (fun _ _ => rfl) (fun j hj _ => by
      clear e1 e2 e3 e4 e5 hK hC hN hW
      walk_at "fy")
    exact this
  clear hK hC hN hW
  unfold g_l_good
  walk_at "fe"
  try exact ⟨_, rfl⟩
theorem rp_3 (vh : List Cell) : X_l_raise_plain [.int 3] vh = .exc ⟨"BadElders", []⟩ vh := by
  refine runXP_ex (more := []) ?_ rfl
  rw [List.append_nil]
  unfold gx_l_raise_plain
  walk_at "fe"
  try exact ⟨_, rfl⟩
theorem rs_3 {K C N W : D} (hK : Sm8 K) (hC : Sm8 C) (hN : Sm8 N) (hW : Sm8 W) (vh : List Cell) : X_l_raise [.int 3, K, C, N, W] vh = .exc ⟨"BadElders", []⟩ vh := by
  have n1 := hK.n vh.length
  have n2 := hC.n vh.length
  have n3 := hN.n vh.length
  have n4 := hW.n vh.length
  refine runXP_ex (more := []) ?_ (by simp only [List.all_cons, List.all_nil, n1, n2, n3, n4, Bool.and_true])
  rw [List.append_nil]
  have rp := rp_3 vh
  clear hK hC hN hW n1 n2 n3 n4
  unfold gx_l_raise
  walk_at "fe"
  try exact ⟨_, rfl⟩
theorem cs_3 {ds : List D} (vh : List Cell) : F_l_classes [.err "BadElders" [] ds] vh = some (.lst [.bl false, .bl false, .bl false, .bl true, .bl false, .bl false, .bl false, .bl false, .bl false, .bl false, .bl false, .bl false, .bl false, .bl false, .bl false, .bl false, .bl false, .bl false]) := by
  refine runP_of ?_ rfl
  unfold g_l_classes
  walk_at "fe"
  try exact ⟨_, rfl⟩
theorem ts_3 {K C N W : D} (hK : Sm8 K) (hC : Sm8 C) (hN : Sm8 N) (hW : Sm8 W) (vh : List Cell) : F_l_tells [(.err "BadElders" [] []), K, C, N, W] vh = some (.bl true) := by
  refine runP_of ?_ rfl
  clear hK hC hN hW
  unfold g_l_tells
  walk_at "fe"
  try exact ⟨_, rfl⟩
theorem gd_3 {K C N W : D} (hK : Sm8 K) (hC : Sm8 C) (hN : Sm8 N) (hW : Sm8 W) (vh : List Cell) : F_l_good [.int 3, K, C, N, W] vh = some (.bl true) := by
  refine runP_of ?_ rfl
  have e1 := rs_3 hK hC hN hW vh
  have e2 := cs_3 (ds := []) vh
  have e3 := ts_3 hK hC hN hW vh
  have e4 : ∀ e, errD e = .err e.cls (e.fs.map (·.1)) (e.fs.map (·.2)) := fun _ => rfl
  have e5 : ∀ s, neM (.lst [.bl false, .bl false, .bl false, .bl true, .bl false, .bl false, .bl false, .bl false, .bl false, .bl false, .bl false, .bl false, .bl false, .bl false, .bl false, .bl false, .bl false, .bl false]) (.lst [.bl false, .bl false, .bl false, .bl true, .bl false, .bl false, .bl false, .bl false, .bl false, .bl false, .bl false, .bl false, .bl false, .bl false, .bl false, .bl false, .bl false, .bl false]) s = .ok (.bl false) s := fun s => x_neSelf (Eqd.mono (Eqd.lst (n := 0) fun d hd => by
    simp only [List.mem_cons, List.not_mem_nil, or_false] at hd
    rcases hd with rfl | rfl | rfl | rfl | rfl | rfl | rfl | rfl | rfl | rfl | rfl | rfl | rfl | rfl | rfl | rfl | rfl | rfl <;> exact Eqd.bl _) (by decide))
  have e6 : ∀ x1 x2 x3 x4 x5 x6 x7, c_l_good_1 ⟨[some (.int 3), x1, x2, x3, x4, x5, x6, x7], vh⟩ = .ok (.lst [.bl false, .bl false, .bl false, .bl true, .bl false, .bl false, .bl false, .bl false, .bl false, .bl false, .bl false, .bl false, .bl false, .bl false, .bl false, .bl false, .bl false, .bl false]) ⟨[some (.int 3), x1, x2, x3, x4, x5, x6, x7], vh⟩ := fun x1 x2 x3 x4 x5 x6 x7 => by
    have := lc_pure (ok := fun _ => True) (l := [some (.int 3), x1, x2, x3, x4, x5, x6, x7]) (vh := vh) (i := 7) (c := yesM) (e := bin eqM (getL 0) (getL 7)) (f := bnd (consM (ret (.int 18)) (ret [])) ran1I) (List.range 18) (fun j => D.int (0 + (j : Int))) (fun j => D.bl (decide ((3 : Int) = 0 + (j : Int)))) (fun _ => true) (by
      have o1 : okB 18 = true := okB_of (by omega) (by omega)
      clear e1 e2 e3 e4 e5 hK hC hN hW
      walk_at "fyh"
      rfl) (fun _ => trivial) (by rw [List.length_range]; omega) (fun _ _ => rfl) (fun j hj _ => by
      clear e1 e2 e3 e4 e5 hK hC hN hW
      walk_at "fy")
    exact this
  clear hK hC hN hW
  unfold g_l_good
  walk_at "fe"
  try exact ⟨_, rfl⟩
theorem rp_4 (vh : List Cell) : X_l_raise_plain [.int 4] vh = .exc ⟨"BadText", []⟩ vh := by
  refine runXP_ex (more := []) ?_ rfl
  rw [List.append_nil]
  unfold gx_l_raise_plain
  walk_at "fe"
  try exact ⟨_, rfl⟩
theorem rs_4 {K C N W : D} (hK : Sm8 K) (hC : Sm8 C) (hN : Sm8 N) (hW : Sm8 W) (vh : List Cell) : X_l_raise [.int 4, K, C, N, W] vh = .exc ⟨"BadText", []⟩ vh := by
  have n1 := hK.n vh.length
  have n2 := hC.n vh.length
  have n3 := hN.n vh.length
  have n4 := hW.n vh.length
  refine runXP_ex (more := []) ?_ (by simp only [List.all_cons, List.all_nil, n1, n2, n3, n4, Bool.and_true])
  rw [List.append_nil]
  have rp := rp_4 vh
  clear hK hC hN hW n1 n2 n3 n4
  unfold gx_l_raise
  walk_at "fe"
  try exact ⟨_, rfl⟩
theorem cs_4 {ds : List D} (vh : List Cell) : F_l_classes [.err "BadText" [] ds] vh = some (.lst [.bl false, .bl false, .bl false, .bl false, .bl true, .bl false, .bl false, .bl false, .bl false, .bl false, .bl false, .bl false, .bl false, .bl false, .bl false, .bl false, .bl false, .bl false]) := by
  refine runP_of ?_ rfl
  unfold g_l_classes
  walk_at "fe"
  try exact ⟨_, rfl⟩
theorem ts_4 {K C N W : D} (hK : Sm8 K) (hC : Sm8 C) (hN : Sm8 N) (hW : Sm8 W) (vh : List Cell) : F_l_tells [(.err "BadText" [] []), K, C, N, W] vh = some (.bl true) := by
  refine runP_of ?_ rfl
  clear hK hC hN hW
  unfold g_l_tells
  walk_at "fe"
  try exact ⟨_, rfl⟩
theorem gd_4 {K C N W : D} (hK : Sm8 K) (hC : Sm8 C) (hN : Sm8 N) (hW : Sm8 W) (vh : List Cell) : F_l_good [.int 4, K, C, N, W] vh = some (.bl true) := by
  refine runP_of ?_ rfl
  have e1 := rs_4 hK hC hN hW vh
  have e2 := cs_4 (ds := []) vh
  have e3 := ts_4 hK hC hN hW vh
  have e4 : ∀ e, errD e = .err e.cls (e.fs.map (·.1)) (e.fs.map (·.2)) := fun _ => rfl
  have e5 : ∀ s, neM (.lst [.bl false, .bl false, .bl false, .bl false, .bl true, .bl false, .bl false, .bl false, .bl false, .bl false, .bl false, .bl false, .bl false, .bl false, .bl false, .bl false, .bl false, .bl false]) (.lst [.bl false, .bl false, .bl false, .bl false, .bl true, .bl false, .bl false, .bl false, .bl false, .bl false, .bl false, .bl false, .bl false, .bl false, .bl false, .bl false, .bl false, .bl false]) s = .ok (.bl false) s := fun s => x_neSelf (Eqd.mono (Eqd.lst (n := 0) fun d hd => by
    simp only [List.mem_cons, List.not_mem_nil, or_false] at hd
    rcases hd with rfl | rfl | rfl | rfl | rfl | rfl | rfl | rfl | rfl | rfl | rfl | rfl | rfl | rfl | rfl | rfl | rfl | rfl <;> exact Eqd.bl _) (by decide))
  have e6 : ∀ x1 x2 x3 x4 x5 x6 x7, c_l_good_1 ⟨[some (.int 4), x1, x2, x3, x4, x5, x6, x7], vh⟩ = .ok (.lst [.bl false, .bl false, .bl false, .bl false, .bl true, .bl false, .bl false, .bl false, .bl false, .bl false, .bl false, .bl false, .bl false, .bl false, .bl false, .bl false, .bl false, .bl false]) ⟨[some (.int 4), x1, x2, x3, x4, x5, x6, x7], vh⟩ := fun x1 x2 x3 x4 x5 x6 x7 => by
    have := lc_pure (ok := fun _ => True) (l := [some (.int 4), x1, x2, x3, x4, x5, x6, x7]) (vh := vh) (i := 7) (c := yesM) (e := bin eqM (getL 0) (getL 7)) (f := bnd (consM (ret (.int 18)) (ret [])) ran1I) (List.range 18) (fun j => D.int (0 + (j : Int))) (fun j => D.bl (decide ((4 : Int) = 0 + (j : Int)))) (fun _ => true) (by
      have o1 : okB 18 = true := okB_of (by omega) (by omega)
      clear e1 e2 e3 e4 e5 hK hC hN hW
      walk_at "fyh"
      rfl) (fun _ => trivial) (by rw [List.length_range]; omega) (fun _ _ => rfl) (fun j hj _ => by
      clear e1 e2 e3 e4 e5 hK hC hN hW
      walk_at "fy")
    exact this
  clear hK hC hN hW
  unfold g_l_good
  walk_at "fe"
  try exact ⟨_, rfl⟩
theorem rp_5 (vh : List Cell) : X_l_raise_plain [.int 5] vh = .exc ⟨"BadRow", []⟩ vh := by
  refine runXP_ex (more := []) ?_ rfl
  rw [List.append_nil]
  unfold gx_l_raise_plain
  walk_at "fe"
  try exact ⟨_, rfl⟩
theorem rs_5 {K C N W : D} (hK : Sm8 K) (hC : Sm8 C) (hN : Sm8 N) (hW : Sm8 W) (vh : List Cell) : X_l_raise [.int 5, K, C, N, W] vh = .exc ⟨"BadRow", []⟩ vh := by
  have n1 := hK.n vh.length
  have n2 := hC.n vh.length
  have n3 := hN.n vh.length
  have n4 := hW.n vh.length
  refine runXP_ex (more := []) ?_ (by simp only [List.all_cons, List.all_nil, n1, n2, n3, n4, Bool.and_true])
  rw [List.append_nil]
  have rp := rp_5 vh
  clear hK hC hN hW n1 n2 n3 n4
  unfold gx_l_raise
  walk_at "fe"
  try exact ⟨_, rfl⟩
theorem cs_5 {ds : List D} (vh : List Cell) : F_l_classes [.err "BadRow" [] ds] vh = some (.lst [.bl false, .bl false, .bl false, .bl false, .bl false, .bl true, .bl false, .bl false, .bl false, .bl false, .bl false, .bl false, .bl false, .bl false, .bl false, .bl false, .bl false, .bl false]) := by
  refine runP_of ?_ rfl
  unfold g_l_classes
  walk_at "fe"
  try exact ⟨_, rfl⟩
theorem ts_5 {K C N W : D} (hK : Sm8 K) (hC : Sm8 C) (hN : Sm8 N) (hW : Sm8 W) (vh : List Cell) : F_l_tells [(.err "BadRow" [] []), K, C, N, W] vh = some (.bl true) := by
  refine runP_of ?_ rfl
  clear hK hC hN hW
  unfold g_l_tells
  walk_at "fe"
  try exact ⟨_, rfl⟩
theorem gd_5 {K C N W : D} (hK : Sm8 K) (hC : Sm8 C) (hN : Sm8 N) (hW : Sm8 W) (vh : List Cell) : F_l_good [.int 5, K, C, N, W] vh = some (.bl true) := by
  refine runP_of ?_ rfl
  have e1 := rs_5 hK hC hN hW vh
  have e2 := cs_5 (ds := []) vh
  have e3 := ts_5 hK hC hN hW vh
  have e4 : ∀ e, errD e = .err e.cls (e.fs.map (·.1)) (e.fs.map (·.2)) := fun _ => rfl
  have e5 : ∀ s, neM (.lst [.bl false, .bl false, .bl false, .bl false, .bl false, .bl true, .bl false, .bl false, .bl false, .bl false, .bl false, .bl false, .bl false, .bl false, .bl false, .bl false, .bl false, .bl false]) (.lst [.bl false, .bl false, .bl false, .bl false, .bl false, .bl true, .bl false, .bl false, .bl false, .bl false, .bl false, .bl false, .bl false, .bl false, .bl false, .bl false, .bl false, .bl false]) s = .ok (.bl false) s := fun s => x_neSelf (Eqd.mono (Eqd.lst (n := 0) fun d hd => by
    simp only [List.mem_cons, List.not_mem_nil, or_false] at hd
    rcases hd with rfl | rfl | rfl | rfl | rfl | rfl | rfl | rfl | rfl | rfl | rfl | rfl | rfl | rfl | rfl | rfl | rfl | rfl <;> exact Eqd.bl _) (by decide))
  have e6 : ∀ x1 x2 x3 x4 x5 x6 x7, c_l_good_1 ⟨[some (.int 5), x1, x2, x3, x4, x5, x6, x7], vh⟩ = .ok (.lst [.bl false, .bl false, .bl false, .bl false, .bl false, .bl true, .bl false, .bl false, .bl false, .bl false, .bl false, .bl false, .bl false, .bl false, .bl false, .bl false, .bl false, .bl false]) ⟨[some (.int 5), x1, x2, x3, x4, x5, x6, x7], vh⟩ := fun x1 x2 x3 x4 x5 x6 x7 => by
    have := lc_pure (ok := fun _ => True) (l := [some (.int 5), x1, x2, x3, x4, x5, x6, x7]) (vh := vh) (i := 7) (c := yesM) (e := bin eqM (getL 0) (getL 7)) (f := bnd (consM (ret (.int 18)) (ret [])) ran1I) (List.range 18) (fun j => D.int (0 + (j : Int))) (fun j => D.bl (decide ((5 : Int) = 0 + (j : Int)))) (fun _ => true) (by
      have o1 : okB 18 = true := okB_of (by omega) (by omega)
      clear e1 e2 e3 e4 e5 hK hC hN hW
      walk_at "fyh"
      rfl) (fun _ => trivial) (by rw [List.length_range]; omega) (fun _ _ => rfl) (fun j hj _ => by
      clear e1 e2 e3 e4 e5 hK hC hN hW
      walk_at "fy")
    exact this
  clear hK hC hN hW
  unfold g_l_good
  walk_at "fe"
  try exact ⟨_, rfl⟩
theorem rp_6 (vh : List Cell) : X_l_raise_plain [.int 6] vh = .exc ⟨"Unsaved", []⟩ vh := by
  refine runXP_ex (more := []) ?_ rfl
  rw [List.append_nil]
  unfold gx_l_raise_plain
  walk_at "fe"
  try exact ⟨_, rfl⟩
theorem rs_6 {K C N W : D} (hK : Sm8 K) (hC : Sm8 C) (hN : Sm8 N) (hW : Sm8 W) (vh : List Cell) : X_l_raise [.int 6, K, C, N, W] vh = .exc ⟨"Unsaved", []⟩ vh := by
  have n1 := hK.n vh.length
  have n2 := hC.n vh.length
  have n3 := hN.n vh.length
  have n4 := hW.n vh.length
  refine runXP_ex (more := []) ?_ (by simp only [List.all_cons, List.all_nil, n1, n2, n3, n4, Bool.and_true])
  rw [List.append_nil]
  have rp := rp_6 vh
  clear hK hC hN hW n1 n2 n3 n4
  unfold gx_l_raise
  walk_at "fe"
  try exact ⟨_, rfl⟩
theorem cs_6 {ds : List D} (vh : List Cell) : F_l_classes [.err "Unsaved" [] ds] vh = some (.lst [.bl false, .bl false, .bl false, .bl false, .bl false, .bl false, .bl true, .bl false, .bl false, .bl false, .bl false, .bl false, .bl false, .bl false, .bl false, .bl false, .bl false, .bl false]) := by
  refine runP_of ?_ rfl
  unfold g_l_classes
  walk_at "fe"
  try exact ⟨_, rfl⟩
theorem ts_6 {K C N W : D} (hK : Sm8 K) (hC : Sm8 C) (hN : Sm8 N) (hW : Sm8 W) (vh : List Cell) : F_l_tells [(.err "Unsaved" [] []), K, C, N, W] vh = some (.bl true) := by
  refine runP_of ?_ rfl
  clear hK hC hN hW
  unfold g_l_tells
  walk_at "fe"
  try exact ⟨_, rfl⟩
theorem gd_6 {K C N W : D} (hK : Sm8 K) (hC : Sm8 C) (hN : Sm8 N) (hW : Sm8 W) (vh : List Cell) : F_l_good [.int 6, K, C, N, W] vh = some (.bl true) := by
  refine runP_of ?_ rfl
  have e1 := rs_6 hK hC hN hW vh
  have e2 := cs_6 (ds := []) vh
  have e3 := ts_6 hK hC hN hW vh
  have e4 : ∀ e, errD e = .err e.cls (e.fs.map (·.1)) (e.fs.map (·.2)) := fun _ => rfl
  have e5 : ∀ s, neM (.lst [.bl false, .bl false, .bl false, .bl false, .bl false, .bl false, .bl true, .bl false, .bl false, .bl false, .bl false, .bl false, .bl false, .bl false, .bl false, .bl false, .bl false, .bl false]) (.lst [.bl false, .bl false, .bl false, .bl false, .bl false, .bl false, .bl true, .bl false, .bl false, .bl false, .bl false, .bl false, .bl false, .bl false, .bl false, .bl false, .bl false, .bl false]) s = .ok (.bl false) s := fun s => x_neSelf (Eqd.mono (Eqd.lst (n := 0) fun d hd => by
    simp only [List.mem_cons, List.not_mem_nil, or_false] at hd
    rcases hd with rfl | rfl | rfl | rfl | rfl | rfl | rfl | rfl | rfl | rfl | rfl | rfl | rfl | rfl | rfl | rfl | rfl | rfl <;> exact Eqd.bl _) (by decide))
  have e6 : ∀ x1 x2 x3 x4 x5 x6 x7, c_l_good_1 ⟨[some (.int 6), x1, x2, x3, x4, x5, x6, x7], vh⟩ = .ok (.lst [.bl false, .bl false, .bl false, .bl false, .bl false, .bl false, .bl true, .bl false, .bl false, .bl false, .bl false, .bl false, .bl false, .bl false, .bl false, .bl false, .bl false, .bl false]) ⟨[some (.int 6), x1, x2, x3, x4, x5, x6, x7], vh⟩ := fun x1 x2 x3 x4 x5 x6 x7 => by
    have := lc_pure (ok := fun _ => True) (l := [some (.int 6), x1, x2, x3, x4, x5, x6, x7]) (vh := vh) (i := 7) (c := yesM) (e := bin eqM (getL 0) (getL 7)) (f := bnd (consM (ret (.int 18)) (ret [])) ran1I) (List.range 18) (fun j => D.int (0 + (j : Int))) (fun j => D.bl (decide ((6 : Int) = 0 + (j : Int)))) (fun _ => true) (by
      have o1 : okB 18 = true := okB_of (by omega) (by omega)
      clear e1 e2 e3 e4 e5 hK hC hN hW
      walk_at "fyh"
      rfl) (fun _ => trivial) (by rw [List.length_range]; omega) (fun _ _ => rfl) (fun j hj _ => by
      clear e1 e2 e3 e4 e5 hK hC hN hW
      walk_at "fy")
    exact this
  clear hK hC hN hW
  unfold g_l_good
  walk_at "fe"
  try exact ⟨_, rfl⟩
theorem rs_7 {K C N W : D} (hK : Sm8 K) (hC : Sm8 C) (hN : Sm8 N) (hW : Sm8 W) (vh : List Cell) : X_l_raise [.int 7, K, C, N, W] vh = .exc ⟨"NotRising", [("key", K)]⟩ vh := by
  have n1 := hK.n vh.length
  have n2 := hC.n vh.length
  have n3 := hN.n vh.length
  have n4 := hW.n vh.length
  refine runXP_ex (more := []) ?_ (by simp only [List.all_cons, List.all_nil, n1, n2, n3, n4, Bool.and_true])
  rw [List.append_nil]
  clear hK hC hN hW n1 n2 n3 n4
  unfold gx_l_raise
  walk_at "fe"
  try exact ⟨_, rfl⟩
theorem cs_7 {ds : List D} (vh : List Cell) : F_l_classes [.err "NotRising" ["key"] ds] vh = some (.lst [.bl false, .bl false, .bl false, .bl false, .bl false, .bl false, .bl false, .bl true, .bl false, .bl false, .bl false, .bl false, .bl false, .bl false, .bl false, .bl false, .bl false, .bl false]) := by
  refine runP_of ?_ rfl
  unfold g_l_classes
  walk_at "fe"
  try exact ⟨_, rfl⟩
theorem ts_7 {K C N W : D} (hK : Sm8 K) (hC : Sm8 C) (hN : Sm8 N) (hW : Sm8 W) (vh : List Cell) : F_l_tells [(.err "NotRising" ["key"] [K]), K, C, N, W] vh = some (.bl true) := by
  refine runP_of ?_ rfl
  have qK := hK.q
  have fK : ∀ s : Fx.S, fldE [("NotRising", true), ("NoRow", true), ("Unfit", true), ("NoClash", true)] "key" (.err "NotRising" ["key"] [K]) s = .ok K s := fun s => x_fldE rfl rfl
  clear hK hC hN hW
  unfold g_l_tells
  walk_at "fe"
  try exact ⟨_, rfl⟩
theorem gd_7 {K C N W : D} (hK : Sm8 K) (hC : Sm8 C) (hN : Sm8 N) (hW : Sm8 W) (vh : List Cell) : F_l_good [.int 7, K, C, N, W] vh = some (.bl true) := by
  refine runP_of ?_ rfl
  have e1 := rs_7 hK hC hN hW vh
  have e2 := cs_7 (ds := [K]) vh
  have e3 := ts_7 hK hC hN hW vh
  have e4 : ∀ e, errD e = .err e.cls (e.fs.map (·.1)) (e.fs.map (·.2)) := fun _ => rfl
  have e5 : ∀ s, neM (.lst [.bl false, .bl false, .bl false, .bl false, .bl false, .bl false, .bl false, .bl true, .bl false, .bl false, .bl false, .bl false, .bl false, .bl false, .bl false, .bl false, .bl false, .bl false]) (.lst [.bl false, .bl false, .bl false, .bl false, .bl false, .bl false, .bl false, .bl true, .bl false, .bl false, .bl false, .bl false, .bl false, .bl false, .bl false, .bl false, .bl false, .bl false]) s = .ok (.bl false) s := fun s => x_neSelf (Eqd.mono (Eqd.lst (n := 0) fun d hd => by
    simp only [List.mem_cons, List.not_mem_nil, or_false] at hd
    rcases hd with rfl | rfl | rfl | rfl | rfl | rfl | rfl | rfl | rfl | rfl | rfl | rfl | rfl | rfl | rfl | rfl | rfl | rfl <;> exact Eqd.bl _) (by decide))
  have e6 : ∀ x1 x2 x3 x4 x5 x6 x7, c_l_good_1 ⟨[some (.int 7), x1, x2, x3, x4, x5, x6, x7], vh⟩ = .ok (.lst [.bl false, .bl false, .bl false, .bl false, .bl false, .bl false, .bl false, .bl true, .bl false, .bl false, .bl false, .bl false, .bl false, .bl false, .bl false, .bl false, .bl false, .bl false]) ⟨[some (.int 7), x1, x2, x3, x4, x5, x6, x7], vh⟩ := fun x1 x2 x3 x4 x5 x6 x7 => by
    have := lc_pure (ok := fun _ => True) (l := [some (.int 7), x1, x2, x3, x4, x5, x6, x7]) (vh := vh) (i := 7) (c := yesM) (e := bin eqM (getL 0) (getL 7)) (f := bnd (consM (ret (.int 18)) (ret [])) ran1I) (List.range 18) (fun j => D.int (0 + (j : Int))) (fun j => D.bl (decide ((7 : Int) = 0 + (j : Int)))) (fun _ => true) (by
      have o1 : okB 18 = true := okB_of (by omega) (by omega)
      clear e1 e2 e3 e4 e5 hK hC hN hW
      walk_at "fyh"
      rfl) (fun _ => trivial) (by rw [List.length_range]; omega) (fun _ _ => rfl) (fun j hj _ => by
      clear e1 e2 e3 e4 e5 hK hC hN hW
      walk_at "fy")
    exact this
  clear hK hC hN hW
  unfold g_l_good
  walk_at "fe"
  try exact ⟨_, rfl⟩
theorem rs_8 {K C N W : D} (hK : Sm8 K) (hC : Sm8 C) (hN : Sm8 N) (hW : Sm8 W) (vh : List Cell) : X_l_raise [.int 8, K, C, N, W] vh = .exc ⟨"NoRow", [("key", K)]⟩ vh := by
  have n1 := hK.n vh.length
  have n2 := hC.n vh.length
  have n3 := hN.n vh.length
  have n4 := hW.n vh.length
  refine runXP_ex (more := []) ?_ (by simp only [List.all_cons, List.all_nil, n1, n2, n3, n4, Bool.and_true])
  rw [List.append_nil]
  clear hK hC hN hW n1 n2 n3 n4
  unfold gx_l_raise
  walk_at "fe"
  try exact ⟨_, rfl⟩
theorem cs_8 {ds : List D} (vh : List Cell) : F_l_classes [.err "NoRow" ["key"] ds] vh = some (.lst [.bl false, .bl false, .bl false, .bl false, .bl false, .bl false, .bl false, .bl false, .bl true, .bl false, .bl false, .bl false, .bl false, .bl false, .bl false, .bl false, .bl false, .bl false]) := by
  refine runP_of ?_ rfl
  unfold g_l_classes
  walk_at "fe"
  try exact ⟨_, rfl⟩
theorem ts_8 {K C N W : D} (hK : Sm8 K) (hC : Sm8 C) (hN : Sm8 N) (hW : Sm8 W) (vh : List Cell) : F_l_tells [(.err "NoRow" ["key"] [K]), K, C, N, W] vh = some (.bl true) := by
  refine runP_of ?_ rfl
  have qK := hK.q
  have fK : ∀ s : Fx.S, fldE [("NotRising", true), ("NoRow", true), ("Unfit", true), ("NoClash", true)] "key" (.err "NoRow" ["key"] [K]) s = .ok K s := fun s => x_fldE rfl rfl
  clear hK hC hN hW
  unfold g_l_tells
  walk_at "fe"
  try exact ⟨_, rfl⟩
theorem gd_8 {K C N W : D} (hK : Sm8 K) (hC : Sm8 C) (hN : Sm8 N) (hW : Sm8 W) (vh : List Cell) : F_l_good [.int 8, K, C, N, W] vh = some (.bl true) := by
  refine runP_of ?_ rfl
  have e1 := rs_8 hK hC hN hW vh
  have e2 := cs_8 (ds := [K]) vh
  have e3 := ts_8 hK hC hN hW vh
  have e4 : ∀ e, errD e = .err e.cls (e.fs.map (·.1)) (e.fs.map (·.2)) := fun _ => rfl
  have e5 : ∀ s, neM (.lst [.bl false, .bl false, .bl false, .bl false, .bl false, .bl false, .bl false, .bl false, .bl true, .bl false, .bl false, .bl false, .bl false, .bl false, .bl false, .bl false, .bl false, .bl false]) (.lst [.bl false, .bl false, .bl false, .bl false, .bl false, .bl false, .bl false, .bl false, .bl true, .bl false, .bl false, .bl false, .bl false, .bl false, .bl false, .bl false, .bl false, .bl false]) s = .ok (.bl false) s := fun s => x_neSelf (Eqd.mono (Eqd.lst (n := 0) fun d hd => by
    simp only [List.mem_cons, List.not_mem_nil, or_false] at hd
    rcases hd with rfl | rfl | rfl | rfl | rfl | rfl | rfl | rfl | rfl | rfl | rfl | rfl | rfl | rfl | rfl | rfl | rfl | rfl <;> exact Eqd.bl _) (by decide))
  have e6 : ∀ x1 x2 x3 x4 x5 x6 x7, c_l_good_1 ⟨[some (.int 8), x1, x2, x3, x4, x5, x6, x7], vh⟩ = .ok (.lst [.bl false, .bl false, .bl false, .bl false, .bl false, .bl false, .bl false, .bl false, .bl true, .bl false, .bl false, .bl false, .bl false, .bl false, .bl false, .bl false, .bl false, .bl false]) ⟨[some (.int 8), x1, x2, x3, x4, x5, x6, x7], vh⟩ := fun x1 x2 x3 x4 x5 x6 x7 => by
    have := lc_pure (ok := fun _ => True) (l := [some (.int 8), x1, x2, x3, x4, x5, x6, x7]) (vh := vh) (i := 7) (c := yesM) (e := bin eqM (getL 0) (getL 7)) (f := bnd (consM (ret (.int 18)) (ret [])) ran1I) (List.range 18) (fun j => D.int (0 + (j : Int))) (fun j => D.bl (decide ((8 : Int) = 0 + (j : Int)))) (fun _ => true) (by
      have o1 : okB 18 = true := okB_of (by omega) (by omega)
      clear e1 e2 e3 e4 e5 hK hC hN hW
      walk_at "fyh"
      rfl) (fun _ => trivial) (by rw [List.length_range]; omega) (fun _ _ => rfl) (fun j hj _ => by
      clear e1 e2 e3 e4 e5 hK hC hN hW
      walk_at "fy")
    exact this
  clear hK hC hN hW
  unfold g_l_good
  walk_at "fe"
  try exact ⟨_, rfl⟩
theorem rs_9 {K C N W : D} (hK : Sm8 K) (hC : Sm8 C) (hN : Sm8 N) (hW : Sm8 W) (vh : List Cell) : X_l_raise [.int 9, K, C, N, W] vh = .exc ⟨"Unfit", [("key", K)]⟩ vh := by
  have n1 := hK.n vh.length
  have n2 := hC.n vh.length
  have n3 := hN.n vh.length
  have n4 := hW.n vh.length
  refine runXP_ex (more := []) ?_ (by simp only [List.all_cons, List.all_nil, n1, n2, n3, n4, Bool.and_true])
  rw [List.append_nil]
  clear hK hC hN hW n1 n2 n3 n4
  unfold gx_l_raise
  walk_at "fe"
  try exact ⟨_, rfl⟩
theorem cs_9 {ds : List D} (vh : List Cell) : F_l_classes [.err "Unfit" ["key"] ds] vh = some (.lst [.bl false, .bl false, .bl false, .bl false, .bl false, .bl false, .bl false, .bl false, .bl false, .bl true, .bl false, .bl false, .bl false, .bl false, .bl false, .bl false, .bl false, .bl false]) := by
  refine runP_of ?_ rfl
  unfold g_l_classes
  walk_at "fe"
  try exact ⟨_, rfl⟩
theorem ts_9 {K C N W : D} (hK : Sm8 K) (hC : Sm8 C) (hN : Sm8 N) (hW : Sm8 W) (vh : List Cell) : F_l_tells [(.err "Unfit" ["key"] [K]), K, C, N, W] vh = some (.bl true) := by
  refine runP_of ?_ rfl
  have qK := hK.q
  have fK : ∀ s : Fx.S, fldE [("NotRising", true), ("NoRow", true), ("Unfit", true), ("NoClash", true)] "key" (.err "Unfit" ["key"] [K]) s = .ok K s := fun s => x_fldE rfl rfl
  clear hK hC hN hW
  unfold g_l_tells
  walk_at "fe"
  try exact ⟨_, rfl⟩
theorem gd_9 {K C N W : D} (hK : Sm8 K) (hC : Sm8 C) (hN : Sm8 N) (hW : Sm8 W) (vh : List Cell) : F_l_good [.int 9, K, C, N, W] vh = some (.bl true) := by
  refine runP_of ?_ rfl
  have e1 := rs_9 hK hC hN hW vh
  have e2 := cs_9 (ds := [K]) vh
  have e3 := ts_9 hK hC hN hW vh
  have e4 : ∀ e, errD e = .err e.cls (e.fs.map (·.1)) (e.fs.map (·.2)) := fun _ => rfl
  have e5 : ∀ s, neM (.lst [.bl false, .bl false, .bl false, .bl false, .bl false, .bl false, .bl false, .bl false, .bl false, .bl true, .bl false, .bl false, .bl false, .bl false, .bl false, .bl false, .bl false, .bl false]) (.lst [.bl false, .bl false, .bl false, .bl false, .bl false, .bl false, .bl false, .bl false, .bl false, .bl true, .bl false, .bl false, .bl false, .bl false, .bl false, .bl false, .bl false, .bl false]) s = .ok (.bl false) s := fun s => x_neSelf (Eqd.mono (Eqd.lst (n := 0) fun d hd => by
    simp only [List.mem_cons, List.not_mem_nil, or_false] at hd
    rcases hd with rfl | rfl | rfl | rfl | rfl | rfl | rfl | rfl | rfl | rfl | rfl | rfl | rfl | rfl | rfl | rfl | rfl | rfl <;> exact Eqd.bl _) (by decide))
  have e6 : ∀ x1 x2 x3 x4 x5 x6 x7, c_l_good_1 ⟨[some (.int 9), x1, x2, x3, x4, x5, x6, x7], vh⟩ = .ok (.lst [.bl false, .bl false, .bl false, .bl false, .bl false, .bl false, .bl false, .bl false, .bl false, .bl true, .bl false, .bl false, .bl false, .bl false, .bl false, .bl false, .bl false, .bl false]) ⟨[some (.int 9), x1, x2, x3, x4, x5, x6, x7], vh⟩ := fun x1 x2 x3 x4 x5 x6 x7 => by
    have := lc_pure (ok := fun _ => True) (l := [some (.int 9), x1, x2, x3, x4, x5, x6, x7]) (vh := vh) (i := 7) (c := yesM) (e := bin eqM (getL 0) (getL 7)) (f := bnd (consM (ret (.int 18)) (ret [])) ran1I) (List.range 18) (fun j => D.int (0 + (j : Int))) (fun j => D.bl (decide ((9 : Int) = 0 + (j : Int)))) (fun _ => true) (by
      have o1 : okB 18 = true := okB_of (by omega) (by omega)
      clear e1 e2 e3 e4 e5 hK hC hN hW
      walk_at "fyh"
      rfl) (fun _ => trivial) (by rw [List.length_range]; omega) (fun _ _ => rfl) (fun j hj _ => by
      clear e1 e2 e3 e4 e5 hK hC hN hW
      walk_at "fy")
    exact this
  clear hK hC hN hW
  unfold g_l_good
  walk_at "fe"
  try exact ⟨_, rfl⟩
theorem rs_10 {K C N W : D} (hK : Sm8 K) (hC : Sm8 C) (hN : Sm8 N) (hW : Sm8 W) (vh : List Cell) : X_l_raise [.int 10, K, C, N, W] vh = .exc ⟨"NoColumn", [("column", C)]⟩ vh := by
  have n1 := hK.n vh.length
  have n2 := hC.n vh.length
  have n3 := hN.n vh.length
  have n4 := hW.n vh.length
  refine runXP_ex (more := []) ?_ (by simp only [List.all_cons, List.all_nil, n1, n2, n3, n4, Bool.and_true])
  rw [List.append_nil]
  clear hK hC hN hW n1 n2 n3 n4
  unfold gx_l_raise
  walk_at "fe"
  try exact ⟨_, rfl⟩
theorem cs_10 {ds : List D} (vh : List Cell) : F_l_classes [.err "NoColumn" ["column"] ds] vh = some (.lst [.bl false, .bl false, .bl false, .bl false, .bl false, .bl false, .bl false, .bl false, .bl false, .bl false, .bl true, .bl false, .bl false, .bl false, .bl false, .bl false, .bl false, .bl false]) := by
  refine runP_of ?_ rfl
  unfold g_l_classes
  walk_at "fe"
  try exact ⟨_, rfl⟩
theorem ts_10 {K C N W : D} (hK : Sm8 K) (hC : Sm8 C) (hN : Sm8 N) (hW : Sm8 W) (vh : List Cell) : F_l_tells [(.err "NoColumn" ["column"] [C]), K, C, N, W] vh = some (.bl true) := by
  refine runP_of ?_ rfl
  have qC := hC.q
  have fC : ∀ s : Fx.S, fldE [("NoColumn", true), ("ColumnThere", true), ("NoClash", true)] "column" (.err "NoColumn" ["column"] [C]) s = .ok C s := fun s => x_fldE rfl rfl
  clear hK hC hN hW
  unfold g_l_tells
  walk_at "fe"
  try exact ⟨_, rfl⟩
theorem gd_10 {K C N W : D} (hK : Sm8 K) (hC : Sm8 C) (hN : Sm8 N) (hW : Sm8 W) (vh : List Cell) : F_l_good [.int 10, K, C, N, W] vh = some (.bl true) := by
  refine runP_of ?_ rfl
  have e1 := rs_10 hK hC hN hW vh
  have e2 := cs_10 (ds := [C]) vh
  have e3 := ts_10 hK hC hN hW vh
  have e4 : ∀ e, errD e = .err e.cls (e.fs.map (·.1)) (e.fs.map (·.2)) := fun _ => rfl
  have e5 : ∀ s, neM (.lst [.bl false, .bl false, .bl false, .bl false, .bl false, .bl false, .bl false, .bl false, .bl false, .bl false, .bl true, .bl false, .bl false, .bl false, .bl false, .bl false, .bl false, .bl false]) (.lst [.bl false, .bl false, .bl false, .bl false, .bl false, .bl false, .bl false, .bl false, .bl false, .bl false, .bl true, .bl false, .bl false, .bl false, .bl false, .bl false, .bl false, .bl false]) s = .ok (.bl false) s := fun s => x_neSelf (Eqd.mono (Eqd.lst (n := 0) fun d hd => by
    simp only [List.mem_cons, List.not_mem_nil, or_false] at hd
    rcases hd with rfl | rfl | rfl | rfl | rfl | rfl | rfl | rfl | rfl | rfl | rfl | rfl | rfl | rfl | rfl | rfl | rfl | rfl <;> exact Eqd.bl _) (by decide))
  have e6 : ∀ x1 x2 x3 x4 x5 x6 x7, c_l_good_1 ⟨[some (.int 10), x1, x2, x3, x4, x5, x6, x7], vh⟩ = .ok (.lst [.bl false, .bl false, .bl false, .bl false, .bl false, .bl false, .bl false, .bl false, .bl false, .bl false, .bl true, .bl false, .bl false, .bl false, .bl false, .bl false, .bl false, .bl false]) ⟨[some (.int 10), x1, x2, x3, x4, x5, x6, x7], vh⟩ := fun x1 x2 x3 x4 x5 x6 x7 => by
    have := lc_pure (ok := fun _ => True) (l := [some (.int 10), x1, x2, x3, x4, x5, x6, x7]) (vh := vh) (i := 7) (c := yesM) (e := bin eqM (getL 0) (getL 7)) (f := bnd (consM (ret (.int 18)) (ret [])) ran1I) (List.range 18) (fun j => D.int (0 + (j : Int))) (fun j => D.bl (decide ((10 : Int) = 0 + (j : Int)))) (fun _ => true) (by
      have o1 : okB 18 = true := okB_of (by omega) (by omega)
      clear e1 e2 e3 e4 e5 hK hC hN hW
      walk_at "fyh"
      rfl) (fun _ => trivial) (by rw [List.length_range]; omega) (fun _ _ => rfl) (fun j hj _ => by
      clear e1 e2 e3 e4 e5 hK hC hN hW
      walk_at "fy")
    exact this
  clear hK hC hN hW
  unfold g_l_good
  walk_at "fe"
  try exact ⟨_, rfl⟩
theorem rs_11 {K C N W : D} (hK : Sm8 K) (hC : Sm8 C) (hN : Sm8 N) (hW : Sm8 W) (vh : List Cell) : X_l_raise [.int 11, K, C, N, W] vh = .exc ⟨"ColumnThere", [("column", C)]⟩ vh := by
  have n1 := hK.n vh.length
  have n2 := hC.n vh.length
  have n3 := hN.n vh.length
  have n4 := hW.n vh.length
  refine runXP_ex (more := []) ?_ (by simp only [List.all_cons, List.all_nil, n1, n2, n3, n4, Bool.and_true])
  rw [List.append_nil]
  clear hK hC hN hW n1 n2 n3 n4
  unfold gx_l_raise
  walk_at "fe"
  try exact ⟨_, rfl⟩
theorem cs_11 {ds : List D} (vh : List Cell) : F_l_classes [.err "ColumnThere" ["column"] ds] vh = some (.lst [.bl false, .bl false, .bl false, .bl false, .bl false, .bl false, .bl false, .bl false, .bl false, .bl false, .bl false, .bl true, .bl false, .bl false, .bl false, .bl false, .bl false, .bl false]) := by
  refine runP_of ?_ rfl
  unfold g_l_classes
  walk_at "fe"
  try exact ⟨_, rfl⟩
theorem ts_11 {K C N W : D} (hK : Sm8 K) (hC : Sm8 C) (hN : Sm8 N) (hW : Sm8 W) (vh : List Cell) : F_l_tells [(.err "ColumnThere" ["column"] [C]), K, C, N, W] vh = some (.bl true) := by
  refine runP_of ?_ rfl
  have qC := hC.q
  have fC : ∀ s : Fx.S, fldE [("NoColumn", true), ("ColumnThere", true), ("NoClash", true)] "column" (.err "ColumnThere" ["column"] [C]) s = .ok C s := fun s => x_fldE rfl rfl
  clear hK hC hN hW
  unfold g_l_tells
  walk_at "fe"
  try exact ⟨_, rfl⟩
theorem gd_11 {K C N W : D} (hK : Sm8 K) (hC : Sm8 C) (hN : Sm8 N) (hW : Sm8 W) (vh : List Cell) : F_l_good [.int 11, K, C, N, W] vh = some (.bl true) := by
  refine runP_of ?_ rfl
  have e1 := rs_11 hK hC hN hW vh
  have e2 := cs_11 (ds := [C]) vh
  have e3 := ts_11 hK hC hN hW vh
  have e4 : ∀ e, errD e = .err e.cls (e.fs.map (·.1)) (e.fs.map (·.2)) := fun _ => rfl
  have e5 : ∀ s, neM (.lst [.bl false, .bl false, .bl false, .bl false, .bl false, .bl false, .bl false, .bl false, .bl false, .bl false, .bl false, .bl true, .bl false, .bl false, .bl false, .bl false, .bl false, .bl false]) (.lst [.bl false, .bl false, .bl false, .bl false, .bl false, .bl false, .bl false, .bl false, .bl false, .bl false, .bl false, .bl true, .bl false, .bl false, .bl false, .bl false, .bl false, .bl false]) s = .ok (.bl false) s := fun s => x_neSelf (Eqd.mono (Eqd.lst (n := 0) fun d hd => by
    simp only [List.mem_cons, List.not_mem_nil, or_false] at hd
    rcases hd with rfl | rfl | rfl | rfl | rfl | rfl | rfl | rfl | rfl | rfl | rfl | rfl | rfl | rfl | rfl | rfl | rfl | rfl <;> exact Eqd.bl _) (by decide))
  have e6 : ∀ x1 x2 x3 x4 x5 x6 x7, c_l_good_1 ⟨[some (.int 11), x1, x2, x3, x4, x5, x6, x7], vh⟩ = .ok (.lst [.bl false, .bl false, .bl false, .bl false, .bl false, .bl false, .bl false, .bl false, .bl false, .bl false, .bl false, .bl true, .bl false, .bl false, .bl false, .bl false, .bl false, .bl false]) ⟨[some (.int 11), x1, x2, x3, x4, x5, x6, x7], vh⟩ := fun x1 x2 x3 x4 x5 x6 x7 => by
    have := lc_pure (ok := fun _ => True) (l := [some (.int 11), x1, x2, x3, x4, x5, x6, x7]) (vh := vh) (i := 7) (c := yesM) (e := bin eqM (getL 0) (getL 7)) (f := bnd (consM (ret (.int 18)) (ret [])) ran1I) (List.range 18) (fun j => D.int (0 + (j : Int))) (fun j => D.bl (decide ((11 : Int) = 0 + (j : Int)))) (fun _ => true) (by
      have o1 : okB 18 = true := okB_of (by omega) (by omega)
      clear e1 e2 e3 e4 e5 hK hC hN hW
      walk_at "fyh"
      rfl) (fun _ => trivial) (by rw [List.length_range]; omega) (fun _ _ => rfl) (fun j hj _ => by
      clear e1 e2 e3 e4 e5 hK hC hN hW
      walk_at "fy")
    exact this
  clear hK hC hN hW
  unfold g_l_good
  walk_at "fe"
  try exact ⟨_, rfl⟩
theorem rs_12 {K C N W : D} (hK : Sm8 K) (hC : Sm8 C) (hN : Sm8 N) (hW : Sm8 W) (vh : List Cell) : X_l_raise [.int 12, K, C, N, W] vh = .exc ⟨"NoClash", [("column", C), ("key", K)]⟩ vh := by
  have n1 := hK.n vh.length
  have n2 := hC.n vh.length
  have n3 := hN.n vh.length
  have n4 := hW.n vh.length
  refine runXP_ex (more := []) ?_ (by simp only [List.all_cons, List.all_nil, n1, n2, n3, n4, Bool.and_true])
  rw [List.append_nil]
  clear hK hC hN hW n1 n2 n3 n4
  unfold gx_l_raise
  walk_at "fe"
  try exact ⟨_, rfl⟩
theorem cs_12 {ds : List D} (vh : List Cell) : F_l_classes [.err "NoClash" ["column", "key"] ds] vh = some (.lst [.bl false, .bl false, .bl false, .bl false, .bl false, .bl false, .bl false, .bl false, .bl false, .bl false, .bl false, .bl false, .bl true, .bl false, .bl false, .bl false, .bl false, .bl false]) := by
  refine runP_of ?_ rfl
  unfold g_l_classes
  walk_at "fe"
  try exact ⟨_, rfl⟩
theorem ts_12 {K C N W : D} (hK : Sm8 K) (hC : Sm8 C) (hN : Sm8 N) (hW : Sm8 W) (vh : List Cell) : F_l_tells [(.err "NoClash" ["column", "key"] [C, K]), K, C, N, W] vh = some (.bl true) := by
  refine runP_of ?_ rfl
  have qC := hC.q
  have qK := hK.q
  have fC : ∀ s : Fx.S, fldE [("NoColumn", true), ("ColumnThere", true), ("NoClash", true)] "column" (.err "NoClash" ["column", "key"] [C, K]) s = .ok C s := fun s => x_fldE rfl rfl
  have fK : ∀ s : Fx.S, fldE [("NotRising", true), ("NoRow", true), ("Unfit", true), ("NoClash", true)] "key" (.err "NoClash" ["column", "key"] [C, K]) s = .ok K s := fun s => x_fldE rfl rfl
  clear hK hC hN hW
  unfold g_l_tells
  walk_at "fe"
  try exact ⟨_, rfl⟩
theorem gd_12 {K C N W : D} (hK : Sm8 K) (hC : Sm8 C) (hN : Sm8 N) (hW : Sm8 W) (vh : List Cell) : F_l_good [.int 12, K, C, N, W] vh = some (.bl true) := by
  refine runP_of ?_ rfl
  have e1 := rs_12 hK hC hN hW vh
  have e2 := cs_12 (ds := [C, K]) vh
  have e3 := ts_12 hK hC hN hW vh
  have e4 : ∀ e, errD e = .err e.cls (e.fs.map (·.1)) (e.fs.map (·.2)) := fun _ => rfl
  have e5 : ∀ s, neM (.lst [.bl false, .bl false, .bl false, .bl false, .bl false, .bl false, .bl false, .bl false, .bl false, .bl false, .bl false, .bl false, .bl true, .bl false, .bl false, .bl false, .bl false, .bl false]) (.lst [.bl false, .bl false, .bl false, .bl false, .bl false, .bl false, .bl false, .bl false, .bl false, .bl false, .bl false, .bl false, .bl true, .bl false, .bl false, .bl false, .bl false, .bl false]) s = .ok (.bl false) s := fun s => x_neSelf (Eqd.mono (Eqd.lst (n := 0) fun d hd => by
    simp only [List.mem_cons, List.not_mem_nil, or_false] at hd
    rcases hd with rfl | rfl | rfl | rfl | rfl | rfl | rfl | rfl | rfl | rfl | rfl | rfl | rfl | rfl | rfl | rfl | rfl | rfl <;> exact Eqd.bl _) (by decide))
  have e6 : ∀ x1 x2 x3 x4 x5 x6 x7, c_l_good_1 ⟨[some (.int 12), x1, x2, x3, x4, x5, x6, x7], vh⟩ = .ok (.lst [.bl false, .bl false, .bl false, .bl false, .bl false, .bl false, .bl false, .bl false, .bl false, .bl false, .bl false, .bl false, .bl true, .bl false, .bl false, .bl false, .bl false, .bl false]) ⟨[some (.int 12), x1, x2, x3, x4, x5, x6, x7], vh⟩ := fun x1 x2 x3 x4 x5 x6 x7 => by
    have := lc_pure (ok := fun _ => True) (l := [some (.int 12), x1, x2, x3, x4, x5, x6, x7]) (vh := vh) (i := 7) (c := yesM) (e := bin eqM (getL 0) (getL 7)) (f := bnd (consM (ret (.int 18)) (ret [])) ran1I) (List.range 18) (fun j => D.int (0 + (j : Int))) (fun j => D.bl (decide ((12 : Int) = 0 + (j : Int)))) (fun _ => true) (by
      have o1 : okB 18 = true := okB_of (by omega) (by omega)
      clear e1 e2 e3 e4 e5 hK hC hN hW
      walk_at "fyh"
      rfl) (fun _ => trivial) (by rw [List.length_range]; omega) (fun _ _ => rfl) (fun j hj _ => by
      clear e1 e2 e3 e4 e5 hK hC hN hW
      walk_at "fy")
    exact this
  clear hK hC hN hW
  unfold g_l_good
  walk_at "fe"
  try exact ⟨_, rfl⟩
theorem rs_13 {K C N W : D} (hK : Sm8 K) (hC : Sm8 C) (hN : Sm8 N) (hW : Sm8 W) (vh : List Cell) : X_l_raise [.int 13, K, C, N, W] vh = .exc ⟨"NoPage", [("number", N)]⟩ vh := by
  have n1 := hK.n vh.length
  have n2 := hC.n vh.length
  have n3 := hN.n vh.length
  have n4 := hW.n vh.length
  refine runXP_ex (more := []) ?_ (by simp only [List.all_cons, List.all_nil, n1, n2, n3, n4, Bool.and_true])
  rw [List.append_nil]
  clear hK hC hN hW n1 n2 n3 n4
  unfold gx_l_raise
  walk_at "fe"
  try exact ⟨_, rfl⟩
theorem cs_13 {ds : List D} (vh : List Cell) : F_l_classes [.err "NoPage" ["number"] ds] vh = some (.lst [.bl false, .bl false, .bl false, .bl false, .bl false, .bl false, .bl false, .bl false, .bl false, .bl false, .bl false, .bl false, .bl false, .bl true, .bl false, .bl false, .bl false, .bl false]) := by
  refine runP_of ?_ rfl
  unfold g_l_classes
  walk_at "fe"
  try exact ⟨_, rfl⟩
theorem ts_13 {K C N W : D} (hK : Sm8 K) (hC : Sm8 C) (hN : Sm8 N) (hW : Sm8 W) (vh : List Cell) : F_l_tells [(.err "NoPage" ["number"] [N]), K, C, N, W] vh = some (.bl true) := by
  refine runP_of ?_ rfl
  have qN := hN.q
  have fN : ∀ s : Fx.S, fldE [("NoPage", true), ("NoMake", true), ("NotBroken", true)] "number" (.err "NoPage" ["number"] [N]) s = .ok N s := fun s => x_fldE rfl rfl
  clear hK hC hN hW
  unfold g_l_tells
  walk_at "fe"
  try exact ⟨_, rfl⟩
theorem gd_13 {K C N W : D} (hK : Sm8 K) (hC : Sm8 C) (hN : Sm8 N) (hW : Sm8 W) (vh : List Cell) : F_l_good [.int 13, K, C, N, W] vh = some (.bl true) := by
  refine runP_of ?_ rfl
  have e1 := rs_13 hK hC hN hW vh
  have e2 := cs_13 (ds := [N]) vh
  have e3 := ts_13 hK hC hN hW vh
  have e4 : ∀ e, errD e = .err e.cls (e.fs.map (·.1)) (e.fs.map (·.2)) := fun _ => rfl
  have e5 : ∀ s, neM (.lst [.bl false, .bl false, .bl false, .bl false, .bl false, .bl false, .bl false, .bl false, .bl false, .bl false, .bl false, .bl false, .bl false, .bl true, .bl false, .bl false, .bl false, .bl false]) (.lst [.bl false, .bl false, .bl false, .bl false, .bl false, .bl false, .bl false, .bl false, .bl false, .bl false, .bl false, .bl false, .bl false, .bl true, .bl false, .bl false, .bl false, .bl false]) s = .ok (.bl false) s := fun s => x_neSelf (Eqd.mono (Eqd.lst (n := 0) fun d hd => by
    simp only [List.mem_cons, List.not_mem_nil, or_false] at hd
    rcases hd with rfl | rfl | rfl | rfl | rfl | rfl | rfl | rfl | rfl | rfl | rfl | rfl | rfl | rfl | rfl | rfl | rfl | rfl <;> exact Eqd.bl _) (by decide))
  have e6 : ∀ x1 x2 x3 x4 x5 x6 x7, c_l_good_1 ⟨[some (.int 13), x1, x2, x3, x4, x5, x6, x7], vh⟩ = .ok (.lst [.bl false, .bl false, .bl false, .bl false, .bl false, .bl false, .bl false, .bl false, .bl false, .bl false, .bl false, .bl false, .bl false, .bl true, .bl false, .bl false, .bl false, .bl false]) ⟨[some (.int 13), x1, x2, x3, x4, x5, x6, x7], vh⟩ := fun x1 x2 x3 x4 x5 x6 x7 => by
    have := lc_pure (ok := fun _ => True) (l := [some (.int 13), x1, x2, x3, x4, x5, x6, x7]) (vh := vh) (i := 7) (c := yesM) (e := bin eqM (getL 0) (getL 7)) (f := bnd (consM (ret (.int 18)) (ret [])) ran1I) (List.range 18) (fun j => D.int (0 + (j : Int))) (fun j => D.bl (decide ((13 : Int) = 0 + (j : Int)))) (fun _ => true) (by
      have o1 : okB 18 = true := okB_of (by omega) (by omega)
      clear e1 e2 e3 e4 e5 hK hC hN hW
      walk_at "fyh"
      rfl) (fun _ => trivial) (by rw [List.length_range]; omega) (fun _ _ => rfl) (fun j hj _ => by
      clear e1 e2 e3 e4 e5 hK hC hN hW
      walk_at "fy")
    exact this
  clear hK hC hN hW
  unfold g_l_good
  walk_at "fe"
  try exact ⟨_, rfl⟩
theorem rs_14 {K C N W : D} (hK : Sm8 K) (hC : Sm8 C) (hN : Sm8 N) (hW : Sm8 W) (vh : List Cell) : X_l_raise [.int 14, K, C, N, W] vh = .exc ⟨"NoMake", [("number", N)]⟩ vh := by
  have n1 := hK.n vh.length
  have n2 := hC.n vh.length
  have n3 := hN.n vh.length
  have n4 := hW.n vh.length
  refine runXP_ex (more := []) ?_ (by simp only [List.all_cons, List.all_nil, n1, n2, n3, n4, Bool.and_true])
  rw [List.append_nil]
  clear hK hC hN hW n1 n2 n3 n4
  unfold gx_l_raise
  walk_at "fe"
  try exact ⟨_, rfl⟩
theorem cs_14 {ds : List D} (vh : List Cell) : F_l_classes [.err "NoMake" ["number"] ds] vh = some (.lst [.bl false, .bl false, .bl false, .bl false, .bl false, .bl false, .bl false, .bl false, .bl false, .bl false, .bl false, .bl false, .bl false, .bl false, .bl true, .bl false, .bl false, .bl false]) := by
  refine runP_of ?_ rfl
  unfold g_l_classes
  walk_at "fe"
  try exact ⟨_, rfl⟩
theorem ts_14 {K C N W : D} (hK : Sm8 K) (hC : Sm8 C) (hN : Sm8 N) (hW : Sm8 W) (vh : List Cell) : F_l_tells [(.err "NoMake" ["number"] [N]), K, C, N, W] vh = some (.bl true) := by
  refine runP_of ?_ rfl
  have qN := hN.q
  have fN : ∀ s : Fx.S, fldE [("NoPage", true), ("NoMake", true), ("NotBroken", true)] "number" (.err "NoMake" ["number"] [N]) s = .ok N s := fun s => x_fldE rfl rfl
  clear hK hC hN hW
  unfold g_l_tells
  walk_at "fe"
  try exact ⟨_, rfl⟩
theorem gd_14 {K C N W : D} (hK : Sm8 K) (hC : Sm8 C) (hN : Sm8 N) (hW : Sm8 W) (vh : List Cell) : F_l_good [.int 14, K, C, N, W] vh = some (.bl true) := by
  refine runP_of ?_ rfl
  have e1 := rs_14 hK hC hN hW vh
  have e2 := cs_14 (ds := [N]) vh
  have e3 := ts_14 hK hC hN hW vh
  have e4 : ∀ e, errD e = .err e.cls (e.fs.map (·.1)) (e.fs.map (·.2)) := fun _ => rfl
  have e5 : ∀ s, neM (.lst [.bl false, .bl false, .bl false, .bl false, .bl false, .bl false, .bl false, .bl false, .bl false, .bl false, .bl false, .bl false, .bl false, .bl false, .bl true, .bl false, .bl false, .bl false]) (.lst [.bl false, .bl false, .bl false, .bl false, .bl false, .bl false, .bl false, .bl false, .bl false, .bl false, .bl false, .bl false, .bl false, .bl false, .bl true, .bl false, .bl false, .bl false]) s = .ok (.bl false) s := fun s => x_neSelf (Eqd.mono (Eqd.lst (n := 0) fun d hd => by
    simp only [List.mem_cons, List.not_mem_nil, or_false] at hd
    rcases hd with rfl | rfl | rfl | rfl | rfl | rfl | rfl | rfl | rfl | rfl | rfl | rfl | rfl | rfl | rfl | rfl | rfl | rfl <;> exact Eqd.bl _) (by decide))
  have e6 : ∀ x1 x2 x3 x4 x5 x6 x7, c_l_good_1 ⟨[some (.int 14), x1, x2, x3, x4, x5, x6, x7], vh⟩ = .ok (.lst [.bl false, .bl false, .bl false, .bl false, .bl false, .bl false, .bl false, .bl false, .bl false, .bl false, .bl false, .bl false, .bl false, .bl false, .bl true, .bl false, .bl false, .bl false]) ⟨[some (.int 14), x1, x2, x3, x4, x5, x6, x7], vh⟩ := fun x1 x2 x3 x4 x5 x6 x7 => by
    have := lc_pure (ok := fun _ => True) (l := [some (.int 14), x1, x2, x3, x4, x5, x6, x7]) (vh := vh) (i := 7) (c := yesM) (e := bin eqM (getL 0) (getL 7)) (f := bnd (consM (ret (.int 18)) (ret [])) ran1I) (List.range 18) (fun j => D.int (0 + (j : Int))) (fun j => D.bl (decide ((14 : Int) = 0 + (j : Int)))) (fun _ => true) (by
      have o1 : okB 18 = true := okB_of (by omega) (by omega)
      clear e1 e2 e3 e4 e5 hK hC hN hW
      walk_at "fyh"
      rfl) (fun _ => trivial) (by rw [List.length_range]; omega) (fun _ _ => rfl) (fun j hj _ => by
      clear e1 e2 e3 e4 e5 hK hC hN hW
      walk_at "fy")
    exact this
  clear hK hC hN hW
  unfold g_l_good
  walk_at "fe"
  try exact ⟨_, rfl⟩
theorem rs_15 {K C N W : D} (hK : Sm8 K) (hC : Sm8 C) (hN : Sm8 N) (hW : Sm8 W) (vh : List Cell) : X_l_raise [.int 15, K, C, N, W] vh = .exc ⟨"NotBroken", [("number", N)]⟩ vh := by
  have n1 := hK.n vh.length
  have n2 := hC.n vh.length
  have n3 := hN.n vh.length
  have n4 := hW.n vh.length
  refine runXP_ex (more := []) ?_ (by simp only [List.all_cons, List.all_nil, n1, n2, n3, n4, Bool.and_true])
  rw [List.append_nil]
  clear hK hC hN hW n1 n2 n3 n4
  unfold gx_l_raise
  walk_at "fe"
  try exact ⟨_, rfl⟩
theorem cs_15 {ds : List D} (vh : List Cell) : F_l_classes [.err "NotBroken" ["number"] ds] vh = some (.lst [.bl false, .bl false, .bl false, .bl false, .bl false, .bl false, .bl false, .bl false, .bl false, .bl false, .bl false, .bl false, .bl false, .bl false, .bl false, .bl true, .bl false, .bl false]) := by
  refine runP_of ?_ rfl
  unfold g_l_classes
  walk_at "fe"
  try exact ⟨_, rfl⟩
theorem ts_15 {K C N W : D} (hK : Sm8 K) (hC : Sm8 C) (hN : Sm8 N) (hW : Sm8 W) (vh : List Cell) : F_l_tells [(.err "NotBroken" ["number"] [N]), K, C, N, W] vh = some (.bl true) := by
  refine runP_of ?_ rfl
  have qN := hN.q
  have fN : ∀ s : Fx.S, fldE [("NoPage", true), ("NoMake", true), ("NotBroken", true)] "number" (.err "NotBroken" ["number"] [N]) s = .ok N s := fun s => x_fldE rfl rfl
  clear hK hC hN hW
  unfold g_l_tells
  walk_at "fe"
  try exact ⟨_, rfl⟩
theorem gd_15 {K C N W : D} (hK : Sm8 K) (hC : Sm8 C) (hN : Sm8 N) (hW : Sm8 W) (vh : List Cell) : F_l_good [.int 15, K, C, N, W] vh = some (.bl true) := by
  refine runP_of ?_ rfl
  have e1 := rs_15 hK hC hN hW vh
  have e2 := cs_15 (ds := [N]) vh
  have e3 := ts_15 hK hC hN hW vh
  have e4 : ∀ e, errD e = .err e.cls (e.fs.map (·.1)) (e.fs.map (·.2)) := fun _ => rfl
  have e5 : ∀ s, neM (.lst [.bl false, .bl false, .bl false, .bl false, .bl false, .bl false, .bl false, .bl false, .bl false, .bl false, .bl false, .bl false, .bl false, .bl false, .bl false, .bl true, .bl false, .bl false]) (.lst [.bl false, .bl false, .bl false, .bl false, .bl false, .bl false, .bl false, .bl false, .bl false, .bl false, .bl false, .bl false, .bl false, .bl false, .bl false, .bl true, .bl false, .bl false]) s = .ok (.bl false) s := fun s => x_neSelf (Eqd.mono (Eqd.lst (n := 0) fun d hd => by
    simp only [List.mem_cons, List.not_mem_nil, or_false] at hd
    rcases hd with rfl | rfl | rfl | rfl | rfl | rfl | rfl | rfl | rfl | rfl | rfl | rfl | rfl | rfl | rfl | rfl | rfl | rfl <;> exact Eqd.bl _) (by decide))
  have e6 : ∀ x1 x2 x3 x4 x5 x6 x7, c_l_good_1 ⟨[some (.int 15), x1, x2, x3, x4, x5, x6, x7], vh⟩ = .ok (.lst [.bl false, .bl false, .bl false, .bl false, .bl false, .bl false, .bl false, .bl false, .bl false, .bl false, .bl false, .bl false, .bl false, .bl false, .bl false, .bl true, .bl false, .bl false]) ⟨[some (.int 15), x1, x2, x3, x4, x5, x6, x7], vh⟩ := fun x1 x2 x3 x4 x5 x6 x7 => by
    have := lc_pure (ok := fun _ => True) (l := [some (.int 15), x1, x2, x3, x4, x5, x6, x7]) (vh := vh) (i := 7) (c := yesM) (e := bin eqM (getL 0) (getL 7)) (f := bnd (consM (ret (.int 18)) (ret [])) ran1I) (List.range 18) (fun j => D.int (0 + (j : Int))) (fun j => D.bl (decide ((15 : Int) = 0 + (j : Int)))) (fun _ => true) (by
      have o1 : okB 18 = true := okB_of (by omega) (by omega)
      clear e1 e2 e3 e4 e5 hK hC hN hW
      walk_at "fyh"
      rfl) (fun _ => trivial) (by rw [List.length_range]; omega) (fun _ _ => rfl) (fun j hj _ => by
      clear e1 e2 e3 e4 e5 hK hC hN hW
      walk_at "fy")
    exact this
  clear hK hC hN hW
  unfold g_l_good
  walk_at "fe"
  try exact ⟨_, rfl⟩
theorem rs_16 {K C N W : D} (hK : Sm8 K) (hC : Sm8 C) (hN : Sm8 N) (hW : Sm8 W) (vh : List Cell) : X_l_raise [.int 16, K, C, N, W] vh = .exc ⟨"NoName", [("word", W)]⟩ vh := by
  have n1 := hK.n vh.length
  have n2 := hC.n vh.length
  have n3 := hN.n vh.length
  have n4 := hW.n vh.length
  refine runXP_ex (more := []) ?_ (by simp only [List.all_cons, List.all_nil, n1, n2, n3, n4, Bool.and_true])
  rw [List.append_nil]
  clear hK hC hN hW n1 n2 n3 n4
  unfold gx_l_raise
  walk_at "fe"
  try exact ⟨_, rfl⟩
theorem cs_16 {ds : List D} (vh : List Cell) : F_l_classes [.err "NoName" ["word"] ds] vh = some (.lst [.bl false, .bl false, .bl false, .bl false, .bl false, .bl false, .bl false, .bl false, .bl false, .bl false, .bl false, .bl false, .bl false, .bl false, .bl false, .bl false, .bl true, .bl false]) := by
  refine runP_of ?_ rfl
  unfold g_l_classes
  walk_at "fe"
  try exact ⟨_, rfl⟩
theorem ts_16 {K C N W : D} (hK : Sm8 K) (hC : Sm8 C) (hN : Sm8 N) (hW : Sm8 W) (vh : List Cell) : F_l_tells [(.err "NoName" ["word"] [W]), K, C, N, W] vh = some (.bl true) := by
  refine runP_of ?_ rfl
  have qW := hW.q
  have fW : ∀ s : Fx.S, fldE [("NoName", true), ("InUse", true)] "word" (.err "NoName" ["word"] [W]) s = .ok W s := fun s => x_fldE rfl rfl
  clear hK hC hN hW
  unfold g_l_tells
  walk_at "fe"
  try exact ⟨_, rfl⟩
theorem gd_16 {K C N W : D} (hK : Sm8 K) (hC : Sm8 C) (hN : Sm8 N) (hW : Sm8 W) (vh : List Cell) : F_l_good [.int 16, K, C, N, W] vh = some (.bl true) := by
  refine runP_of ?_ rfl
  have e1 := rs_16 hK hC hN hW vh
  have e2 := cs_16 (ds := [W]) vh
  have e3 := ts_16 hK hC hN hW vh
  have e4 : ∀ e, errD e = .err e.cls (e.fs.map (·.1)) (e.fs.map (·.2)) := fun _ => rfl
  have e5 : ∀ s, neM (.lst [.bl false, .bl false, .bl false, .bl false, .bl false, .bl false, .bl false, .bl false, .bl false, .bl false, .bl false, .bl false, .bl false, .bl false, .bl false, .bl false, .bl true, .bl false]) (.lst [.bl false, .bl false, .bl false, .bl false, .bl false, .bl false, .bl false, .bl false, .bl false, .bl false, .bl false, .bl false, .bl false, .bl false, .bl false, .bl false, .bl true, .bl false]) s = .ok (.bl false) s := fun s => x_neSelf (Eqd.mono (Eqd.lst (n := 0) fun d hd => by
    simp only [List.mem_cons, List.not_mem_nil, or_false] at hd
    rcases hd with rfl | rfl | rfl | rfl | rfl | rfl | rfl | rfl | rfl | rfl | rfl | rfl | rfl | rfl | rfl | rfl | rfl | rfl <;> exact Eqd.bl _) (by decide))
  have e6 : ∀ x1 x2 x3 x4 x5 x6 x7, c_l_good_1 ⟨[some (.int 16), x1, x2, x3, x4, x5, x6, x7], vh⟩ = .ok (.lst [.bl false, .bl false, .bl false, .bl false, .bl false, .bl false, .bl false, .bl false, .bl false, .bl false, .bl false, .bl false, .bl false, .bl false, .bl false, .bl false, .bl true, .bl false]) ⟨[some (.int 16), x1, x2, x3, x4, x5, x6, x7], vh⟩ := fun x1 x2 x3 x4 x5 x6 x7 => by
    have := lc_pure (ok := fun _ => True) (l := [some (.int 16), x1, x2, x3, x4, x5, x6, x7]) (vh := vh) (i := 7) (c := yesM) (e := bin eqM (getL 0) (getL 7)) (f := bnd (consM (ret (.int 18)) (ret [])) ran1I) (List.range 18) (fun j => D.int (0 + (j : Int))) (fun j => D.bl (decide ((16 : Int) = 0 + (j : Int)))) (fun _ => true) (by
      have o1 : okB 18 = true := okB_of (by omega) (by omega)
      clear e1 e2 e3 e4 e5 hK hC hN hW
      walk_at "fyh"
      rfl) (fun _ => trivial) (by rw [List.length_range]; omega) (fun _ _ => rfl) (fun j hj _ => by
      clear e1 e2 e3 e4 e5 hK hC hN hW
      walk_at "fy")
    exact this
  clear hK hC hN hW
  unfold g_l_good
  walk_at "fe"
  try exact ⟨_, rfl⟩
theorem rs_17 {K C N W : D} (hK : Sm8 K) (hC : Sm8 C) (hN : Sm8 N) (hW : Sm8 W) (vh : List Cell) : X_l_raise [.int 17, K, C, N, W] vh = .exc ⟨"InUse", [("word", W)]⟩ vh := by
  have n1 := hK.n vh.length
  have n2 := hC.n vh.length
  have n3 := hN.n vh.length
  have n4 := hW.n vh.length
  refine runXP_ex (more := []) ?_ (by simp only [List.all_cons, List.all_nil, n1, n2, n3, n4, Bool.and_true])
  rw [List.append_nil]
  clear hK hC hN hW n1 n2 n3 n4
  unfold gx_l_raise
  walk_at "fe"
  try exact ⟨_, rfl⟩
theorem cs_17 {ds : List D} (vh : List Cell) : F_l_classes [.err "InUse" ["word"] ds] vh = some (.lst [.bl false, .bl false, .bl false, .bl false, .bl false, .bl false, .bl false, .bl false, .bl false, .bl false, .bl false, .bl false, .bl false, .bl false, .bl false, .bl false, .bl false, .bl true]) := by
  refine runP_of ?_ rfl
  unfold g_l_classes
  walk_at "fe"
  try exact ⟨_, rfl⟩
theorem ts_17 {K C N W : D} (hK : Sm8 K) (hC : Sm8 C) (hN : Sm8 N) (hW : Sm8 W) (vh : List Cell) : F_l_tells [(.err "InUse" ["word"] [W]), K, C, N, W] vh = some (.bl true) := by
  refine runP_of ?_ rfl
  have qW := hW.q
  have fW : ∀ s : Fx.S, fldE [("NoName", true), ("InUse", true)] "word" (.err "InUse" ["word"] [W]) s = .ok W s := fun s => x_fldE rfl rfl
  clear hK hC hN hW
  unfold g_l_tells
  walk_at "fe"
  try exact ⟨_, rfl⟩
theorem gd_17 {K C N W : D} (hK : Sm8 K) (hC : Sm8 C) (hN : Sm8 N) (hW : Sm8 W) (vh : List Cell) : F_l_good [.int 17, K, C, N, W] vh = some (.bl true) := by
  refine runP_of ?_ rfl
  have e1 := rs_17 hK hC hN hW vh
  have e2 := cs_17 (ds := [W]) vh
  have e3 := ts_17 hK hC hN hW vh
  have e4 : ∀ e, errD e = .err e.cls (e.fs.map (·.1)) (e.fs.map (·.2)) := fun _ => rfl
  have e5 : ∀ s, neM (.lst [.bl false, .bl false, .bl false, .bl false, .bl false, .bl false, .bl false, .bl false, .bl false, .bl false, .bl false, .bl false, .bl false, .bl false, .bl false, .bl false, .bl false, .bl true]) (.lst [.bl false, .bl false, .bl false, .bl false, .bl false, .bl false, .bl false, .bl false, .bl false, .bl false, .bl false, .bl false, .bl false, .bl false, .bl false, .bl false, .bl false, .bl true]) s = .ok (.bl false) s := fun s => x_neSelf (Eqd.mono (Eqd.lst (n := 0) fun d hd => by
    simp only [List.mem_cons, List.not_mem_nil, or_false] at hd
    rcases hd with rfl | rfl | rfl | rfl | rfl | rfl | rfl | rfl | rfl | rfl | rfl | rfl | rfl | rfl | rfl | rfl | rfl | rfl <;> exact Eqd.bl _) (by decide))
  have e6 : ∀ x1 x2 x3 x4 x5 x6 x7, c_l_good_1 ⟨[some (.int 17), x1, x2, x3, x4, x5, x6, x7], vh⟩ = .ok (.lst [.bl false, .bl false, .bl false, .bl false, .bl false, .bl false, .bl false, .bl false, .bl false, .bl false, .bl false, .bl false, .bl false, .bl false, .bl false, .bl false, .bl false, .bl true]) ⟨[some (.int 17), x1, x2, x3, x4, x5, x6, x7], vh⟩ := fun x1 x2 x3 x4 x5 x6 x7 => by
    have := lc_pure (ok := fun _ => True) (l := [some (.int 17), x1, x2, x3, x4, x5, x6, x7]) (vh := vh) (i := 7) (c := yesM) (e := bin eqM (getL 0) (getL 7)) (f := bnd (consM (ret (.int 18)) (ret [])) ran1I) (List.range 18) (fun j => D.int (0 + (j : Int))) (fun j => D.bl (decide ((17 : Int) = 0 + (j : Int)))) (fun _ => true) (by
      have o1 : okB 18 = true := okB_of (by omega) (by omega)
      clear e1 e2 e3 e4 e5 hK hC hN hW
      walk_at "fyh"
      rfl) (fun _ => trivial) (by rw [List.length_range]; omega) (fun _ _ => rfl) (fun j hj _ => by
      clear e1 e2 e3 e4 e5 hK hC hN hW
      walk_at "fy")
    exact this
  clear hK hC hN hW
  unfold g_l_good
  walk_at "fe"
  try exact ⟨_, rfl⟩
/-! k08: what is drawn, the law -/
def mxv (c k : Int) : Int := ((c % 2147483647 + 7919 * k + 1) * 48271 % 2147483647 * ((c % 2147483647 + 7919 * k + 1) * 48271 % 2147483647) + k) % 2147483629
theorem t_mxv (c k : Int) (hk : 0 ≤ k ∧ k ≤ 100000) : ∀ vh, F_l_mix [.int c, .int k] vh = some (.int (mxv c k)) := by
  have a1 : (7919 : Int).natAbs.log2 + k.natAbs.log2 < 100000000 := by have := lgI 7919 (by decide) (by decide); have := lgI k (by omega) (by omega); omega
  obtain ⟨m, hm⟩ : ∃ m, m = c % 2147483647 + 7919 * k + 1 := ⟨_, rfl⟩
  have m0 : 0 ≤ m ∧ m < 21474836470 := by omega
  have a2 : m.natAbs.log2 + (48271 : Int).natAbs.log2 < 100000000 := by have := lgI m (by omega) (by omega); have := lgI 48271 (by decide) (by decide); omega
  obtain ⟨n, hn⟩ : ∃ n, n = m * 48271 % 2147483647 := ⟨_, rfl⟩
  have n0 : 0 ≤ n ∧ n < 2147483647 := by omega
  have a3 : n.natAbs.log2 + n.natAbs.log2 < 100000000 := by have := lgI n (by omega) (by omega); omega
  refine fun vh => runP_of ?_ rfl
  unfold mxv
  subst hn
  subst hm
  clear n0 m0
  unfold g_l_mix
  walk_at "fy"
  exact ⟨_, rfl⟩
def AL : List Nat := cd "abcdefghijklmnopqrstuvwxyz"
theorem AL_len : AL.length = 26 := by decide +kernel
theorem AL_at : ∀ i : Fin 26, AL[i.val]? = some (97 + i.val) := by decide +kernel
theorem x_al {n : Int} {s : S} (h0 : 0 ≤ n) (h1 : n < 26) : ixM (.str (tx AL)) (.int n) s = .ok (.str (tx [97 + n.toNat])) s := by
  obtain ⟨k, rfl⟩ := Int.eq_ofNat_of_zero_le h0
  rw [x_ixS (by rw [AL_len]; omega), atI_ofNat (by rw [AL_len]; omega), AL_at ⟨k, by omega⟩, Int.toNat_natCast]
  rfl
theorem t_letters (c : Int) : ∃ cs : List Nat, cs.length ≤ 12 ∧ (∀ x ∈ cs, x < 1114112) ∧ ∀ vh, F_l_letters [.int c] vh = some (.str (tx cs)) := by
  obtain ⟨n, hn⟩ : ∃ n : Nat, 1 + mxv c 50 % 12 = (n : Int) := Int.eq_ofNat_of_zero_le (by omega)
  have n12 : n ≤ 12 := by omega
  refine ⟨(List.range n).map fun j : Nat => 97 + (mxv c (0 + (j : Int)) % 26).toNat, by rw [List.length_map, List.length_range]; exact n12, fun x hx => ?_, fun vh => runP_of ?_ rfl⟩
  · obtain ⟨j, _, rfl⟩ := List.mem_map.mp hx
    omega
  have m50 := t_mxv c 50 (by decide)
  have c1 : ∀ vh, c_l_letters_1 ⟨[some (.int c), some (.str (tx AL)), none], vh⟩ = .ok (.lst (((List.range n).map fun j : Nat => 97 + (mxv c (0 + (j : Int)) % 26).toNat).map fun c => D.str (tx [c]))) ⟨[some (.int c), some (.str (tx AL)), none], vh⟩ := fun vh => by
    have := lc_pure (ok := fun _ => True) (l := [some (.int c), some (.str (tx AL)), none]) (vh := vh) (i := 2) (c := yesM) (e := bin ixAM (getL 1) (bin modM (bnd (consM (getL 0) (consM (getL 2) (ret []))) (callP 2 F_l_mix)) (ret (.int 26)))) (f := bnd (consM (bin addM (ret (.int 1)) (bin modM (bnd (consM (getL 0) (consM (ret (.int 50)) (ret []))) (callP 2 F_l_mix)) (ret (.int 12)))) (ret [])) ran1I) (List.range n) (fun j => D.int (0 + (j : Int))) (fun j => D.str (tx [97 + (mxv c (0 + (j : Int)) % 26).toNat])) (fun _ => true) (by
      have o1 : okB (n : Int) = true := okB_of (by omega) (by omega)
      have o2 : ((n : Int)).toNat = n := Int.toNat_natCast n
      generalize AL = A at *
      generalize mxv c 50 = M at *
      walk_at "fyh"
      try rfl) (fun _ => trivial) (by rw [List.length_range]; omega) (fun _ _ => rfl) (fun j hj _ => by
      have hj := List.mem_range.mp hj
      have mx := t_mxv c (0 + (j : Int)) (by omega)
      have ix := fun s => x_al (s := s) (n := mxv c (0 + (j : Int)) % 26) (by omega) (by omega)
      clear hj m50 hn
      generalize mxv c (0 + (j : Int)) = M at *
      generalize AL = A at *
      walk_at "fyh"
      try rfl)
    rw [List.filter_eq_self.mpr (fun _ _ => rfl)] at this
    rw [List.map_map]
    exact this
  have jn := fun s => join_signs ((List.range n).map fun j : Nat => 97 + (mxv c (0 + (j : Int)) % 26).toNat) s (by rw [List.length_map, List.length_range]; omega)
  clear m50 hn
  generalize ((List.range n).map fun j : Nat => 97 + (mxv c (0 + (j : Int)) % 26).toNat) = cs at *
  generalize cs.map (fun c => D.str (tx [c])) = CL at *
  unfold g_l_letters
  rw [show (Str.ofString "abcdefghijklmnopqrstuvwxyz" : Str) = tx AL from rfl, show (Str.ofString "" : Str) = tx [] from rfl]
  generalize AL = A at *
  walk_at "fyh"
  exact ⟨_, rfl⟩
theorem t_key8 (c : Int) : ∃ K : D, Sm8 K ∧ ∀ vh, F_l_key [.int c] vh = some K := by
  obtain ⟨a, a1, a2, a3⟩ := t_letters (c / 2)
  obtain ⟨b, b1, b2, b3⟩ := t_letters (c / 3)
  by_cases z : c % 2 = 0
  · refine ⟨.int (c / 2 % (2 * 10 ^ 30 - 1) - (10 ^ 30 - 1)), sm_int _, fun vh => runP_of ?_ rfl⟩
    have p1 : (30 : Int).toNat = 30 := rfl
    clear a1 a2 b1 b2
    unfold g_l_key
    walk_at "fyh"
    exact ⟨_, rfl⟩
  · refine ⟨.str (tx (a ++ cd " ~" ++ b)), sm_str fun x hx => ?_, fun vh => runP_of ?_ rfl⟩
    · rcases List.mem_append.mp hx with h | h
      · rcases List.mem_append.mp h with h | h
        · exact a2 x h
        · have : ∀ x ∈ cd " ~", x < 1114112 := by decide +kernel
          exact this x h
      · exact b2 x h
    have l2 : (cd " ~").length = 2 := by decide +kernel
    have d1 : ∀ s, addM (.str (tx a)) (.str (tx (cd " ~"))) s = .ok (.str (tx (a ++ cd " ~"))) s := fun s => x_addTx (by omega)
    have d2 : ∀ s, addM (.str (tx (a ++ cd " ~"))) (.str (tx b)) s = .ok (.str (tx (a ++ cd " ~" ++ b))) s := fun s => x_addTx (by rw [List.length_append]; omega)
    clear a1 a2 b1 b2 l2
    unfold g_l_key
    rw [show (Str.ofString " ~" : Str) = tx (cd " ~") from rfl]
    generalize cd " ~" = M at *
    walk_at "fyh"
    exact ⟨_, rfl⟩
theorem t_cellat8 (ns : List Int) (k : Nat) : ∃ c : Int, ∀ vh, F_l_cell_at [.lst (ns.map D.int), .int k] vh = some (.int c) := by
  refine ⟨ns.getD k 0, fun vh => ?_⟩
  refine runP_of ?_ rfl
  unfold g_l_cell_at
  walk_at "fy"
  rw [List.length_map]
  by_cases c : k < ns.length
  · rw [if_pos (by omega), at_ints c, List.getD_eq_getElem?_getD, List.getElem?_eq_getElem c]
    walk_at "fy"
    exact ⟨_, rfl⟩
  · rw [if_neg (by omega), List.getD_eq_getElem?_getD, List.getElem?_eq_none (by omega)]
    exact ⟨_, rfl⟩
theorem gd_all {K C N W : D} (hK : Sm8 K) (hC : Sm8 C) (hN : Sm8 N) (hW : Sm8 W) (vh : List Cell) (i : Nat) (hi : i < 18) : F_l_good [.int (0 + (i : Int)), K, C, N, W] vh = some (.bl true) := by
  rw [Int.zero_add]
  match i, hi with
  | 0, _ => exact gd_0 hK hC hN hW vh
  | 1, _ => exact gd_1 hK hC hN hW vh
  | 2, _ => exact gd_2 hK hC hN hW vh
  | 3, _ => exact gd_3 hK hC hN hW vh
  | 4, _ => exact gd_4 hK hC hN hW vh
  | 5, _ => exact gd_5 hK hC hN hW vh
  | 6, _ => exact gd_6 hK hC hN hW vh
  | 7, _ => exact gd_7 hK hC hN hW vh
  | 8, _ => exact gd_8 hK hC hN hW vh
  | 9, _ => exact gd_9 hK hC hN hW vh
  | 10, _ => exact gd_10 hK hC hN hW vh
  | 11, _ => exact gd_11 hK hC hN hW vh
  | 12, _ => exact gd_12 hK hC hN hW vh
  | 13, _ => exact gd_13 hK hC hN hW vh
  | 14, _ => exact gd_14 hK hC hN hW vh
  | 15, _ => exact gd_15 hK hC hN hW vh
  | 16, _ => exact gd_16 hK hC hN hW vh
  | 17, _ => exact gd_17 hK hC hN hW vh
  | i + 18, h => omega
theorem law_true (ns : List Int) (hlen : ns.length ≤ 63) (hbits : ∀ z ∈ ns, Builtin.Int.intBits z ≤ 1048576) : F_law [.lst (ns.map D.int)] [] = some (.bl true) := by
  obtain ⟨c0, e0⟩ := t_cellat8 ns 0
  obtain ⟨c1, e1⟩ := t_cellat8 ns 1
  obtain ⟨c2, e2⟩ := t_cellat8 ns 2
  obtain ⟨c3, e3⟩ := t_cellat8 ns 3
  have e0 : ∀ vh, F_l_cell_at [.lst (ns.map D.int), .int 0] vh = some (.int c0) := e0
  have e1 : ∀ vh, F_l_cell_at [.lst (ns.map D.int), .int 1] vh = some (.int c1) := e1
  have e2 : ∀ vh, F_l_cell_at [.lst (ns.map D.int), .int 2] vh = some (.int c2) := e2
  have e3 : ∀ vh, F_l_cell_at [.lst (ns.map D.int), .int 3] vh = some (.int c3) := e3
  obtain ⟨K, hK, ek⟩ := t_key8 c0
  obtain ⟨a, a1, a2, a3⟩ := t_letters c1
  obtain ⟨b, b1, b2, b3⟩ := t_letters c3
  have hC := sm_str a2
  have hW := sm_str b2
  have hN := sm_int (c2 % 10 ^ 29)
  obtain ⟨s2, lp, x5, hs⟩ := loopM_run (ok := fun _ => True) (t := setL 5) (b := b_law_1) (fun i s => ∃ x5, s = ⟨[some (.lst (ns.map D.int)), some K, some (.str (tx a)), some (.int (c2 % 10 ^ 29)), some (.str (tx b)), x5], []⟩) (ranD 0 18) ⟨[some (.lst (ns.map D.int)), some K, some (.str (tx a)), some (.int (c2 % 10 ^ 29)), some (.str (tx b)), none], []⟩ (fun _ _ _ => trivial)
    (fun i d s hi ⟨x5, hs⟩ => by
      subst hs
      obtain ⟨hi1, rfl⟩ := ranD_at hi
      have g := gd_all hK hC hN hW [] i hi1
      refine ⟨_, rfl, _, .inl ?_, some (.int (0 + (i : Int))), rfl⟩
      clear hK hC hN hW a1 a2 b1 b2 hi hlen hbits e0 e1 e2 e3 ek a3 b3 hi1
      generalize (0 : Int) + (i : Int) = I at *
      generalize c2 % 10 ^ 29 = N at *
      generalize ns.map D.int = SL at *
      unfold b_law_1
      walk_at "fyh")
    ⟨none, rfl⟩
  subst hs
  have rn : ∀ s, ran1I [.int 18] s = .ok ⟨ranD 0 18, fun _ => True⟩ s := fun s => by
    rw [x_ran1 (okB_of (by decide) (by decide))]; rfl
  have p1 : (29 : Int).toNat = 29 := rfl
  have p2 : ∀ s, modM (.int c2) (.int (10 ^ 29)) s = .ok (.int (c2 % 10 ^ 29)) s := fun s => x_mod (by decide)
  refine runP_of ?_ rfl
  clear hK hC hN hW a1 a2 b1 b2 hlen hbits
  generalize ranD 0 18 = RD at *
  generalize ns.map D.int = SL at *
  unfold g_law
  walk_at "fyh"
  exact ⟨_, rfl⟩
end My

/-! ### the end -/
namespace Wktwigtable_k08_refusals
open PySem PySem.Spec PyProof.Rows L2 Fx
theorem all_mk {K : PySem.W.Frag} {h : Heap} {mg : Str → Option Value} (X : K.In h) (G : h.Ns mainGlobals mg)
    {f0 oc0 kV0 dc0 pm0 cd0 ct0} {od0 an0 : Option Addr} {sl0 : Array (Option Value)} (a0 : PySem.W.nsIn K mainGlobals "_law_cell_at" = some (some (.ref f0))) (l0 : K.lookup f0 = some ⟨oc0, od0, .func (PySem.W.fnOf "_law_cell_at" "_law_cell_at" (defArgs s_l_cell_at) (defBody s_l_cell_at) (defScope s_l_cell_at) .none kV0 dc0 pm0 an0 cd0 ct0), sl0⟩) (c0 : PySem.W.codeIn K cd0 "_law_cell_at" = true) (k0 : PySem.W.keepIn K (.ref f0) = true)
    {f1 oc1 kV1 dc1 pm1 cd1 ct1} {od1 an1 : Option Addr} {sl1 : Array (Option Value)} (a1 : PySem.W.nsIn K mainGlobals "_law_mix" = some (some (.ref f1))) (l1 : K.lookup f1 = some ⟨oc1, od1, .func (PySem.W.fnOf "_law_mix" "_law_mix" (defArgs s_l_mix) (defBody s_l_mix) (defScope s_l_mix) .none kV1 dc1 pm1 an1 cd1 ct1), sl1⟩) (c1 : PySem.W.codeIn K cd1 "_law_mix" = true) (k1 : PySem.W.keepIn K (.ref f1) = true)
    {f2 oc2 kV2 dc2 pm2 cd2 ct2} {od2 an2 : Option Addr} {sl2 : Array (Option Value)} (a2 : PySem.W.nsIn K mainGlobals "_law_letters" = some (some (.ref f2))) (l2 : K.lookup f2 = some ⟨oc2, od2, .func (PySem.W.fnOf "_law_letters" "_law_letters" (defArgs s_l_letters) (defBody s_l_letters) (defScope s_l_letters) .none kV2 dc2 pm2 an2 cd2 ct2), sl2⟩) (c2 : PySem.W.codeIn K cd2 "_law_letters" = true) (k2 : PySem.W.keepIn K (.ref f2) = true)
    {f3 oc3 kV3 dc3 pm3 cd3 ct3} {od3 an3 : Option Addr} {sl3 : Array (Option Value)} (a3 : PySem.W.nsIn K mainGlobals "_law_key" = some (some (.ref f3))) (l3 : K.lookup f3 = some ⟨oc3, od3, .func (PySem.W.fnOf "_law_key" "_law_key" (defArgs s_l_key) (defBody s_l_key) (defScope s_l_key) .none kV3 dc3 pm3 an3 cd3 ct3), sl3⟩) (c3 : PySem.W.codeIn K cd3 "_law_key" = true) (k3 : PySem.W.keepIn K (.ref f3) = true)
    {f4 oc4 kV4 dc4 pm4 cd4 ct4} {od4 an4 : Option Addr} {sl4 : Array (Option Value)} (a4 : PySem.W.nsIn K mainGlobals "_law_classes" = some (some (.ref f4))) (l4 : K.lookup f4 = some ⟨oc4, od4, .func (PySem.W.fnOf "_law_classes" "_law_classes" (defArgs s_l_classes) (defBody s_l_classes) (defScope s_l_classes) .none kV4 dc4 pm4 an4 cd4 ct4), sl4⟩) (c4 : PySem.W.codeIn K cd4 "_law_classes" = true) (k4 : PySem.W.keepIn K (.ref f4) = true)
    {f5 oc5 kV5 dc5 pm5 cd5 ct5} {od5 an5 : Option Addr} {sl5 : Array (Option Value)} (a5 : PySem.W.nsIn K mainGlobals "_law_same" = some (some (.ref f5))) (l5 : K.lookup f5 = some ⟨oc5, od5, .func (PySem.W.fnOf "_law_same" "_law_same" (defArgs s_l_same) (defBody s_l_same) (defScope s_l_same) .none kV5 dc5 pm5 an5 cd5 ct5), sl5⟩) (c5 : PySem.W.codeIn K cd5 "_law_same" = true) (k5 : PySem.W.keepIn K (.ref f5) = true)
    {f6 oc6 kV6 dc6 pm6 cd6 ct6} {od6 an6 : Option Addr} {sl6 : Array (Option Value)} (a6 : PySem.W.nsIn K mainGlobals "_law_tells" = some (some (.ref f6))) (l6 : K.lookup f6 = some ⟨oc6, od6, .func (PySem.W.fnOf "_law_tells" "_law_tells" (defArgs s_l_tells) (defBody s_l_tells) (defScope s_l_tells) .none kV6 dc6 pm6 an6 cd6 ct6), sl6⟩) (c6 : PySem.W.codeIn K cd6 "_law_tells" = true) (k6 : PySem.W.keepIn K (.ref f6) = true)
    {f7 oc7 kV7 dc7 pm7 cd7 ct7} {od7 an7 : Option Addr} {sl7 : Array (Option Value)} (a7 : PySem.W.nsIn K mainGlobals "_law_good" = some (some (.ref f7))) (l7 : K.lookup f7 = some ⟨oc7, od7, .func (PySem.W.fnOf "_law_good" "_law_good" (defArgs s_l_good) (defBody s_l_good) (defScope s_l_good) .none kV7 dc7 pm7 an7 cd7 ct7), sl7⟩) (c7 : PySem.W.codeIn K cd7 "_law_good" = true) (k7 : PySem.W.keepIn K (.ref f7) = true)
    {f8 oc8 kV8 dc8 pm8 cd8 ct8} {od8 an8 : Option Addr} {sl8 : Array (Option Value)} (a8 : PySem.W.nsIn K mainGlobals "law" = some (some (.ref f8))) (l8 : K.lookup f8 = some ⟨oc8, od8, .func (PySem.W.fnOf "law" "law" (defArgs s_law) (defBody s_law) (defScope s_law) .none kV8 dc8 pm8 an8 cd8 ct8), sl8⟩) (c8 : PySem.W.codeIn K cd8 "law" = true) (k8 : PySem.W.keepIn K (.ref f8) = true)
    {f9 oc9 kV9 dc9 pm9 cd9 ct9} {od9 an9 : Option Addr} {sl9 : Array (Option Value)} (a9 : PySem.W.nsIn K mainGlobals "_law_raise" = some (some (.ref f9))) (l9 : K.lookup f9 = some ⟨oc9, od9, .func (PySem.W.fnOf "_law_raise" "_law_raise" (defArgs s_l_raise) (defBody s_l_raise) (defScope s_l_raise) .none kV9 dc9 pm9 an9 cd9 ct9), sl9⟩) (c9 : PySem.W.codeIn K cd9 "_law_raise" = true) (k9 : PySem.W.keepIn K (.ref f9) = true)
    {f10 oc10 kV10 dc10 pm10 cd10 ct10} {od10 an10 : Option Addr} {sl10 : Array (Option Value)} (a10 : PySem.W.nsIn K mainGlobals "_law_raise_plain" = some (some (.ref f10))) (l10 : K.lookup f10 = some ⟨oc10, od10, .func (PySem.W.fnOf "_law_raise_plain" "_law_raise_plain" (defArgs s_l_raise_plain) (defBody s_l_raise_plain) (defScope s_l_raise_plain) .none kV10 dc10 pm10 an10 cd10 ct10), sl10⟩) (c10 : PySem.W.codeIn K cd10 "_law_raise_plain" = true) (k10 : PySem.W.keepIn K (.ref f10) = true)
    (kg_ : PySem.W.specialIn K (.builtin "object.__class__") "__get__" = some (some (.builtin "getset_descriptor.__get__"))) (kt_ : PySem.W.takesIn K (.builtin "object.__class__") = some true)
    {C_TableError} (ac_TableError : PySem.W.nsIn K mainGlobals "TableError" = some (some (.ref C_TableError)))
    (e3_TableError : PySem.W.subIn K (.ref C_TableError) (.type "BaseException") = some true)
    (e4_TableError : PySem.W.typeIn K (.ref C_TableError) = some (.type "type"))
    (hd_TableError : PySem.W.hasDictIn K C_TableError = true)
    {C_BadKey} (ac_BadKey : PySem.W.nsIn K mainGlobals "BadKey" = some (some (.ref C_BadKey)))
    (e3_BadKey : PySem.W.subIn K (.ref C_BadKey) (.type "BaseException") = some true)
    (e4_BadKey : PySem.W.typeIn K (.ref C_BadKey) = some (.type "type"))
    (hd_BadKey : PySem.W.hasDictIn K C_BadKey = true)
    (e2_BadKey : PySem.W.keepIn K (.ref C_BadKey) = true)
    (ga_BadKey : PySem.W.findIn K (.ref C_BadKey) "__getattribute__" = some (some (.builtin "BaseException.__getattribute__")))
    (gg_BadKey : PySem.W.findIn K (.ref C_BadKey) "__getattr__" = some none)
    (k1_BadKey : PySem.W.findIn K (.ref C_BadKey) "__class__" = some (some (.builtin "object.__class__")))
    (k4_BadKey : PySem.W.mroIn K C_BadKey (.type "object") = some true)
    (ex_BadKey : PySem.W.excIn K C_BadKey [.type "ValueError", .type "Exception", .type "BaseException", .type "object"] "ValueError.__new__" = true)
    {C_BadValue} (ac_BadValue : PySem.W.nsIn K mainGlobals "BadValue" = some (some (.ref C_BadValue)))
    (e3_BadValue : PySem.W.subIn K (.ref C_BadValue) (.type "BaseException") = some true)
    (e4_BadValue : PySem.W.typeIn K (.ref C_BadValue) = some (.type "type"))
    (hd_BadValue : PySem.W.hasDictIn K C_BadValue = true)
    (e2_BadValue : PySem.W.keepIn K (.ref C_BadValue) = true)
    (ga_BadValue : PySem.W.findIn K (.ref C_BadValue) "__getattribute__" = some (some (.builtin "BaseException.__getattribute__")))
    (gg_BadValue : PySem.W.findIn K (.ref C_BadValue) "__getattr__" = some none)
    (k1_BadValue : PySem.W.findIn K (.ref C_BadValue) "__class__" = some (some (.builtin "object.__class__")))
    (k4_BadValue : PySem.W.mroIn K C_BadValue (.type "object") = some true)
    (ex_BadValue : PySem.W.excIn K C_BadValue [.type "ValueError", .type "Exception", .type "BaseException", .type "object"] "ValueError.__new__" = true)
    {C_BadWord} (ac_BadWord : PySem.W.nsIn K mainGlobals "BadWord" = some (some (.ref C_BadWord)))
    (e3_BadWord : PySem.W.subIn K (.ref C_BadWord) (.type "BaseException") = some true)
    (e4_BadWord : PySem.W.typeIn K (.ref C_BadWord) = some (.type "type"))
    (hd_BadWord : PySem.W.hasDictIn K C_BadWord = true)
    (e2_BadWord : PySem.W.keepIn K (.ref C_BadWord) = true)
    (ga_BadWord : PySem.W.findIn K (.ref C_BadWord) "__getattribute__" = some (some (.builtin "BaseException.__getattribute__")))
    (gg_BadWord : PySem.W.findIn K (.ref C_BadWord) "__getattr__" = some none)
    (k1_BadWord : PySem.W.findIn K (.ref C_BadWord) "__class__" = some (some (.builtin "object.__class__")))
    (k4_BadWord : PySem.W.mroIn K C_BadWord (.type "object") = some true)
    (ex_BadWord : PySem.W.excIn K C_BadWord [.type "ValueError", .type "Exception", .type "BaseException", .type "object"] "ValueError.__new__" = true)
    {C_BadElders} (ac_BadElders : PySem.W.nsIn K mainGlobals "BadElders" = some (some (.ref C_BadElders)))
    (e3_BadElders : PySem.W.subIn K (.ref C_BadElders) (.type "BaseException") = some true)
    (e4_BadElders : PySem.W.typeIn K (.ref C_BadElders) = some (.type "type"))
    (hd_BadElders : PySem.W.hasDictIn K C_BadElders = true)
    (e2_BadElders : PySem.W.keepIn K (.ref C_BadElders) = true)
    (ga_BadElders : PySem.W.findIn K (.ref C_BadElders) "__getattribute__" = some (some (.builtin "BaseException.__getattribute__")))
    (gg_BadElders : PySem.W.findIn K (.ref C_BadElders) "__getattr__" = some none)
    (k1_BadElders : PySem.W.findIn K (.ref C_BadElders) "__class__" = some (some (.builtin "object.__class__")))
    (k4_BadElders : PySem.W.mroIn K C_BadElders (.type "object") = some true)
    (ex_BadElders : PySem.W.excIn K C_BadElders [.type "ValueError", .type "Exception", .type "BaseException", .type "object"] "ValueError.__new__" = true)
    {C_BadText} (ac_BadText : PySem.W.nsIn K mainGlobals "BadText" = some (some (.ref C_BadText)))
    (e3_BadText : PySem.W.subIn K (.ref C_BadText) (.type "BaseException") = some true)
    (e4_BadText : PySem.W.typeIn K (.ref C_BadText) = some (.type "type"))
    (hd_BadText : PySem.W.hasDictIn K C_BadText = true)
    (e2_BadText : PySem.W.keepIn K (.ref C_BadText) = true)
    (ga_BadText : PySem.W.findIn K (.ref C_BadText) "__getattribute__" = some (some (.builtin "BaseException.__getattribute__")))
    (gg_BadText : PySem.W.findIn K (.ref C_BadText) "__getattr__" = some none)
    (k1_BadText : PySem.W.findIn K (.ref C_BadText) "__class__" = some (some (.builtin "object.__class__")))
    (k4_BadText : PySem.W.mroIn K C_BadText (.type "object") = some true)
    (ex_BadText : PySem.W.excIn K C_BadText [.type "ValueError", .type "Exception", .type "BaseException", .type "object"] "ValueError.__new__" = true)
    {C_BadRow} (ac_BadRow : PySem.W.nsIn K mainGlobals "BadRow" = some (some (.ref C_BadRow)))
    (e3_BadRow : PySem.W.subIn K (.ref C_BadRow) (.type "BaseException") = some true)
    (e4_BadRow : PySem.W.typeIn K (.ref C_BadRow) = some (.type "type"))
    (hd_BadRow : PySem.W.hasDictIn K C_BadRow = true)
    (e2_BadRow : PySem.W.keepIn K (.ref C_BadRow) = true)
    (ga_BadRow : PySem.W.findIn K (.ref C_BadRow) "__getattribute__" = some (some (.builtin "BaseException.__getattribute__")))
    (gg_BadRow : PySem.W.findIn K (.ref C_BadRow) "__getattr__" = some none)
    (k1_BadRow : PySem.W.findIn K (.ref C_BadRow) "__class__" = some (some (.builtin "object.__class__")))
    (k4_BadRow : PySem.W.mroIn K C_BadRow (.type "object") = some true)
    (ex_BadRow : PySem.W.excIn K C_BadRow [.type "ValueError", .type "Exception", .type "BaseException", .type "object"] "ValueError.__new__" = true)
    {C_Unsaved} (ac_Unsaved : PySem.W.nsIn K mainGlobals "Unsaved" = some (some (.ref C_Unsaved)))
    (e3_Unsaved : PySem.W.subIn K (.ref C_Unsaved) (.type "BaseException") = some true)
    (e4_Unsaved : PySem.W.typeIn K (.ref C_Unsaved) = some (.type "type"))
    (hd_Unsaved : PySem.W.hasDictIn K C_Unsaved = true)
    (e2_Unsaved : PySem.W.keepIn K (.ref C_Unsaved) = true)
    (ga_Unsaved : PySem.W.findIn K (.ref C_Unsaved) "__getattribute__" = some (some (.builtin "BaseException.__getattribute__")))
    (gg_Unsaved : PySem.W.findIn K (.ref C_Unsaved) "__getattr__" = some none)
    (k1_Unsaved : PySem.W.findIn K (.ref C_Unsaved) "__class__" = some (some (.builtin "object.__class__")))
    (k4_Unsaved : PySem.W.mroIn K C_Unsaved (.type "object") = some true)
    (ex_Unsaved : PySem.W.excIn K C_Unsaved [.type "ValueError", .type "Exception", .type "BaseException", .type "object"] "ValueError.__new__" = true)
    {C_NotRising} (ac_NotRising : PySem.W.nsIn K mainGlobals "NotRising" = some (some (.ref C_NotRising)))
    (e3_NotRising : PySem.W.subIn K (.ref C_NotRising) (.type "BaseException") = some true)
    (e4_NotRising : PySem.W.typeIn K (.ref C_NotRising) = some (.type "type"))
    (hd_NotRising : PySem.W.hasDictIn K C_NotRising = true)
    (e2_NotRising : PySem.W.keepIn K (.ref C_NotRising) = true)
    (ga_NotRising : PySem.W.findIn K (.ref C_NotRising) "__getattribute__" = some (some (.builtin "BaseException.__getattribute__")))
    (gg_NotRising : PySem.W.findIn K (.ref C_NotRising) "__getattr__" = some none)
    (k1_NotRising : PySem.W.findIn K (.ref C_NotRising) "__class__" = some (some (.builtin "object.__class__")))
    (k4_NotRising : PySem.W.mroIn K C_NotRising (.type "object") = some true)
    {nm_NotRising qn_NotRising : Str} {N_NotRising : Addr} {bs_NotRising bm_NotRising : List Value} {sn_NotRising : List Str} {sub_NotRising : List Value} {ab_NotRising : Bool} {col_NotRising : Option Bool} {dd_NotRising : Option Addr} {m0_NotRising m1_NotRising m2_NotRising m3_NotRising m5_NotRising : Option Value} (xL_NotRising : K.lookup C_NotRising = some (excClassObj nm_NotRising qn_NotRising C_NotRising N_NotRising bs_NotRising bm_NotRising true sn_NotRising sub_NotRising ab_NotRising col_NotRising dd_NotRising m0_NotRising m1_NotRising m2_NotRising m3_NotRising m5_NotRising "ValueError.__new__"))
    (rv_NotRising : PySem.HandSPX.refsVE bm_NotRising = true)
    (sa_NotRising : PySem.W.findIn K (.ref C_NotRising) "__setattr__" = some (some (.builtin "object.__setattr__")))
    (hn_NotRising_key : PySem.W.findIn K (.ref C_NotRising) "key" = some none)
    {fI_NotRising : Addr} (fi_NotRising : PySem.W.findIn K (.ref C_NotRising) "__init__" = some (some (.ref fI_NotRising)))
    (ft_NotRising : PySem.W.typeIn K (.ref fI_NotRising) = some (.type "function"))
    {xoc_NotRising xkV_NotRising xdc_NotRising xpm_NotRising xcd_NotRising xct_NotRising} {xod_NotRising xan_NotRising : Option Addr} {xsl_NotRising : Array (Option Value)} (xl_NotRising : K.lookup fI_NotRising = some ⟨xoc_NotRising, xod_NotRising, .func (PySem.W.fnOf "__init__" "NotRising.__init__" (defArgs s_NotRising_init) (defBody s_NotRising_init) (defScope s_NotRising_init) .none xkV_NotRising xdc_NotRising xpm_NotRising xan_NotRising xcd_NotRising xct_NotRising), xsl_NotRising⟩)
    (xc_NotRising : PySem.W.codeIn K xcd_NotRising "NotRising.__init__" = true)
    (xk_NotRising : PySem.W.keepIn K (.ref fI_NotRising) = true)
    {C_NoRow} (ac_NoRow : PySem.W.nsIn K mainGlobals "NoRow" = some (some (.ref C_NoRow)))
    (e3_NoRow : PySem.W.subIn K (.ref C_NoRow) (.type "BaseException") = some true)
    (e4_NoRow : PySem.W.typeIn K (.ref C_NoRow) = some (.type "type"))
    (hd_NoRow : PySem.W.hasDictIn K C_NoRow = true)
    (e2_NoRow : PySem.W.keepIn K (.ref C_NoRow) = true)
    (ga_NoRow : PySem.W.findIn K (.ref C_NoRow) "__getattribute__" = some (some (.builtin "BaseException.__getattribute__")))
    (gg_NoRow : PySem.W.findIn K (.ref C_NoRow) "__getattr__" = some none)
    (k1_NoRow : PySem.W.findIn K (.ref C_NoRow) "__class__" = some (some (.builtin "object.__class__")))
    (k4_NoRow : PySem.W.mroIn K C_NoRow (.type "object") = some true)
    {nm_NoRow qn_NoRow : Str} {N_NoRow : Addr} {bs_NoRow bm_NoRow : List Value} {sn_NoRow : List Str} {sub_NoRow : List Value} {ab_NoRow : Bool} {col_NoRow : Option Bool} {dd_NoRow : Option Addr} {m0_NoRow m1_NoRow m2_NoRow m3_NoRow m5_NoRow : Option Value} (xL_NoRow : K.lookup C_NoRow = some (excClassObj nm_NoRow qn_NoRow C_NoRow N_NoRow bs_NoRow bm_NoRow true sn_NoRow sub_NoRow ab_NoRow col_NoRow dd_NoRow m0_NoRow m1_NoRow m2_NoRow m3_NoRow m5_NoRow "ValueError.__new__"))
    (rv_NoRow : PySem.HandSPX.refsVE bm_NoRow = true)
    (sa_NoRow : PySem.W.findIn K (.ref C_NoRow) "__setattr__" = some (some (.builtin "object.__setattr__")))
    (hn_NoRow_key : PySem.W.findIn K (.ref C_NoRow) "key" = some none)
    {fI_NoRow : Addr} (fi_NoRow : PySem.W.findIn K (.ref C_NoRow) "__init__" = some (some (.ref fI_NoRow)))
    (ft_NoRow : PySem.W.typeIn K (.ref fI_NoRow) = some (.type "function"))
    {xoc_NoRow xkV_NoRow xdc_NoRow xpm_NoRow xcd_NoRow xct_NoRow} {xod_NoRow xan_NoRow : Option Addr} {xsl_NoRow : Array (Option Value)} (xl_NoRow : K.lookup fI_NoRow = some ⟨xoc_NoRow, xod_NoRow, .func (PySem.W.fnOf "__init__" "NoRow.__init__" (defArgs s_NoRow_init) (defBody s_NoRow_init) (defScope s_NoRow_init) .none xkV_NoRow xdc_NoRow xpm_NoRow xan_NoRow xcd_NoRow xct_NoRow), xsl_NoRow⟩)
    (xc_NoRow : PySem.W.codeIn K xcd_NoRow "NoRow.__init__" = true)
    (xk_NoRow : PySem.W.keepIn K (.ref fI_NoRow) = true)
    {C_Unfit} (ac_Unfit : PySem.W.nsIn K mainGlobals "Unfit" = some (some (.ref C_Unfit)))
    (e3_Unfit : PySem.W.subIn K (.ref C_Unfit) (.type "BaseException") = some true)
    (e4_Unfit : PySem.W.typeIn K (.ref C_Unfit) = some (.type "type"))
    (hd_Unfit : PySem.W.hasDictIn K C_Unfit = true)
    (e2_Unfit : PySem.W.keepIn K (.ref C_Unfit) = true)
    (ga_Unfit : PySem.W.findIn K (.ref C_Unfit) "__getattribute__" = some (some (.builtin "BaseException.__getattribute__")))
    (gg_Unfit : PySem.W.findIn K (.ref C_Unfit) "__getattr__" = some none)
    (k1_Unfit : PySem.W.findIn K (.ref C_Unfit) "__class__" = some (some (.builtin "object.__class__")))
    (k4_Unfit : PySem.W.mroIn K C_Unfit (.type "object") = some true)
    {nm_Unfit qn_Unfit : Str} {N_Unfit : Addr} {bs_Unfit bm_Unfit : List Value} {sn_Unfit : List Str} {sub_Unfit : List Value} {ab_Unfit : Bool} {col_Unfit : Option Bool} {dd_Unfit : Option Addr} {m0_Unfit m1_Unfit m2_Unfit m3_Unfit m5_Unfit : Option Value} (xL_Unfit : K.lookup C_Unfit = some (excClassObj nm_Unfit qn_Unfit C_Unfit N_Unfit bs_Unfit bm_Unfit true sn_Unfit sub_Unfit ab_Unfit col_Unfit dd_Unfit m0_Unfit m1_Unfit m2_Unfit m3_Unfit m5_Unfit "ValueError.__new__"))
    (rv_Unfit : PySem.HandSPX.refsVE bm_Unfit = true)
    (sa_Unfit : PySem.W.findIn K (.ref C_Unfit) "__setattr__" = some (some (.builtin "object.__setattr__")))
    (hn_Unfit_key : PySem.W.findIn K (.ref C_Unfit) "key" = some none)
    {fI_Unfit : Addr} (fi_Unfit : PySem.W.findIn K (.ref C_Unfit) "__init__" = some (some (.ref fI_Unfit)))
    (ft_Unfit : PySem.W.typeIn K (.ref fI_Unfit) = some (.type "function"))
    {xoc_Unfit xkV_Unfit xdc_Unfit xpm_Unfit xcd_Unfit xct_Unfit} {xod_Unfit xan_Unfit : Option Addr} {xsl_Unfit : Array (Option Value)} (xl_Unfit : K.lookup fI_Unfit = some ⟨xoc_Unfit, xod_Unfit, .func (PySem.W.fnOf "__init__" "Unfit.__init__" (defArgs s_Unfit_init) (defBody s_Unfit_init) (defScope s_Unfit_init) .none xkV_Unfit xdc_Unfit xpm_Unfit xan_Unfit xcd_Unfit xct_Unfit), xsl_Unfit⟩)
    (xc_Unfit : PySem.W.codeIn K xcd_Unfit "Unfit.__init__" = true)
    (xk_Unfit : PySem.W.keepIn K (.ref fI_Unfit) = true)
    {C_NoColumn} (ac_NoColumn : PySem.W.nsIn K mainGlobals "NoColumn" = some (some (.ref C_NoColumn)))
    (e3_NoColumn : PySem.W.subIn K (.ref C_NoColumn) (.type "BaseException") = some true)
    (e4_NoColumn : PySem.W.typeIn K (.ref C_NoColumn) = some (.type "type"))
    (hd_NoColumn : PySem.W.hasDictIn K C_NoColumn = true)
    (e2_NoColumn : PySem.W.keepIn K (.ref C_NoColumn) = true)
    (ga_NoColumn : PySem.W.findIn K (.ref C_NoColumn) "__getattribute__" = some (some (.builtin "BaseException.__getattribute__")))
    (gg_NoColumn : PySem.W.findIn K (.ref C_NoColumn) "__getattr__" = some none)
    (k1_NoColumn : PySem.W.findIn K (.ref C_NoColumn) "__class__" = some (some (.builtin "object.__class__")))
    (k4_NoColumn : PySem.W.mroIn K C_NoColumn (.type "object") = some true)
    {nm_NoColumn qn_NoColumn : Str} {N_NoColumn : Addr} {bs_NoColumn bm_NoColumn : List Value} {sn_NoColumn : List Str} {sub_NoColumn : List Value} {ab_NoColumn : Bool} {col_NoColumn : Option Bool} {dd_NoColumn : Option Addr} {m0_NoColumn m1_NoColumn m2_NoColumn m3_NoColumn m5_NoColumn : Option Value} (xL_NoColumn : K.lookup C_NoColumn = some (excClassObj nm_NoColumn qn_NoColumn C_NoColumn N_NoColumn bs_NoColumn bm_NoColumn true sn_NoColumn sub_NoColumn ab_NoColumn col_NoColumn dd_NoColumn m0_NoColumn m1_NoColumn m2_NoColumn m3_NoColumn m5_NoColumn "ValueError.__new__"))
    (rv_NoColumn : PySem.HandSPX.refsVE bm_NoColumn = true)
    (sa_NoColumn : PySem.W.findIn K (.ref C_NoColumn) "__setattr__" = some (some (.builtin "object.__setattr__")))
    (hn_NoColumn_column : PySem.W.findIn K (.ref C_NoColumn) "column" = some none)
    {fI_NoColumn : Addr} (fi_NoColumn : PySem.W.findIn K (.ref C_NoColumn) "__init__" = some (some (.ref fI_NoColumn)))
    (ft_NoColumn : PySem.W.typeIn K (.ref fI_NoColumn) = some (.type "function"))
    {xoc_NoColumn xkV_NoColumn xdc_NoColumn xpm_NoColumn xcd_NoColumn xct_NoColumn} {xod_NoColumn xan_NoColumn : Option Addr} {xsl_NoColumn : Array (Option Value)} (xl_NoColumn : K.lookup fI_NoColumn = some ⟨xoc_NoColumn, xod_NoColumn, .func (PySem.W.fnOf "__init__" "NoColumn.__init__" (defArgs s_NoColumn_init) (defBody s_NoColumn_init) (defScope s_NoColumn_init) .none xkV_NoColumn xdc_NoColumn xpm_NoColumn xan_NoColumn xcd_NoColumn xct_NoColumn), xsl_NoColumn⟩)
    (xc_NoColumn : PySem.W.codeIn K xcd_NoColumn "NoColumn.__init__" = true)
    (xk_NoColumn : PySem.W.keepIn K (.ref fI_NoColumn) = true)
    {C_ColumnThere} (ac_ColumnThere : PySem.W.nsIn K mainGlobals "ColumnThere" = some (some (.ref C_ColumnThere)))
    (e3_ColumnThere : PySem.W.subIn K (.ref C_ColumnThere) (.type "BaseException") = some true)
    (e4_ColumnThere : PySem.W.typeIn K (.ref C_ColumnThere) = some (.type "type"))
    (hd_ColumnThere : PySem.W.hasDictIn K C_ColumnThere = true)
    (e2_ColumnThere : PySem.W.keepIn K (.ref C_ColumnThere) = true)
    (ga_ColumnThere : PySem.W.findIn K (.ref C_ColumnThere) "__getattribute__" = some (some (.builtin "BaseException.__getattribute__")))
    (gg_ColumnThere : PySem.W.findIn K (.ref C_ColumnThere) "__getattr__" = some none)
    (k1_ColumnThere : PySem.W.findIn K (.ref C_ColumnThere) "__class__" = some (some (.builtin "object.__class__")))
    (k4_ColumnThere : PySem.W.mroIn K C_ColumnThere (.type "object") = some true)
    {nm_ColumnThere qn_ColumnThere : Str} {N_ColumnThere : Addr} {bs_ColumnThere bm_ColumnThere : List Value} {sn_ColumnThere : List Str} {sub_ColumnThere : List Value} {ab_ColumnThere : Bool} {col_ColumnThere : Option Bool} {dd_ColumnThere : Option Addr} {m0_ColumnThere m1_ColumnThere m2_ColumnThere m3_ColumnThere m5_ColumnThere : Option Value} (xL_ColumnThere : K.lookup C_ColumnThere = some (excClassObj nm_ColumnThere qn_ColumnThere C_ColumnThere N_ColumnThere bs_ColumnThere bm_ColumnThere true sn_ColumnThere sub_ColumnThere ab_ColumnThere col_ColumnThere dd_ColumnThere m0_ColumnThere m1_ColumnThere m2_ColumnThere m3_ColumnThere m5_ColumnThere "ValueError.__new__"))
    (rv_ColumnThere : PySem.HandSPX.refsVE bm_ColumnThere = true)
    (sa_ColumnThere : PySem.W.findIn K (.ref C_ColumnThere) "__setattr__" = some (some (.builtin "object.__setattr__")))
    (hn_ColumnThere_column : PySem.W.findIn K (.ref C_ColumnThere) "column" = some none)
    {fI_ColumnThere : Addr} (fi_ColumnThere : PySem.W.findIn K (.ref C_ColumnThere) "__init__" = some (some (.ref fI_ColumnThere)))
    (ft_ColumnThere : PySem.W.typeIn K (.ref fI_ColumnThere) = some (.type "function"))
    {xoc_ColumnThere xkV_ColumnThere xdc_ColumnThere xpm_ColumnThere xcd_ColumnThere xct_ColumnThere} {xod_ColumnThere xan_ColumnThere : Option Addr} {xsl_ColumnThere : Array (Option Value)} (xl_ColumnThere : K.lookup fI_ColumnThere = some ⟨xoc_ColumnThere, xod_ColumnThere, .func (PySem.W.fnOf "__init__" "ColumnThere.__init__" (defArgs s_ColumnThere_init) (defBody s_ColumnThere_init) (defScope s_ColumnThere_init) .none xkV_ColumnThere xdc_ColumnThere xpm_ColumnThere xan_ColumnThere xcd_ColumnThere xct_ColumnThere), xsl_ColumnThere⟩)
    (xc_ColumnThere : PySem.W.codeIn K xcd_ColumnThere "ColumnThere.__init__" = true)
    (xk_ColumnThere : PySem.W.keepIn K (.ref fI_ColumnThere) = true)
    {C_NoClash} (ac_NoClash : PySem.W.nsIn K mainGlobals "NoClash" = some (some (.ref C_NoClash)))
    (e3_NoClash : PySem.W.subIn K (.ref C_NoClash) (.type "BaseException") = some true)
    (e4_NoClash : PySem.W.typeIn K (.ref C_NoClash) = some (.type "type"))
    (hd_NoClash : PySem.W.hasDictIn K C_NoClash = true)
    (e2_NoClash : PySem.W.keepIn K (.ref C_NoClash) = true)
    (ga_NoClash : PySem.W.findIn K (.ref C_NoClash) "__getattribute__" = some (some (.builtin "BaseException.__getattribute__")))
    (gg_NoClash : PySem.W.findIn K (.ref C_NoClash) "__getattr__" = some none)
    (k1_NoClash : PySem.W.findIn K (.ref C_NoClash) "__class__" = some (some (.builtin "object.__class__")))
    (k4_NoClash : PySem.W.mroIn K C_NoClash (.type "object") = some true)
    {nm_NoClash qn_NoClash : Str} {N_NoClash : Addr} {bs_NoClash bm_NoClash : List Value} {sn_NoClash : List Str} {sub_NoClash : List Value} {ab_NoClash : Bool} {col_NoClash : Option Bool} {dd_NoClash : Option Addr} {m0_NoClash m1_NoClash m2_NoClash m3_NoClash m5_NoClash : Option Value} (xL_NoClash : K.lookup C_NoClash = some (excClassObj nm_NoClash qn_NoClash C_NoClash N_NoClash bs_NoClash bm_NoClash true sn_NoClash sub_NoClash ab_NoClash col_NoClash dd_NoClash m0_NoClash m1_NoClash m2_NoClash m3_NoClash m5_NoClash "ValueError.__new__"))
    (rv_NoClash : PySem.HandSPX.refsVE bm_NoClash = true)
    (sa_NoClash : PySem.W.findIn K (.ref C_NoClash) "__setattr__" = some (some (.builtin "object.__setattr__")))
    (hn_NoClash_key : PySem.W.findIn K (.ref C_NoClash) "key" = some none)
    (hn_NoClash_column : PySem.W.findIn K (.ref C_NoClash) "column" = some none)
    {fI_NoClash : Addr} (fi_NoClash : PySem.W.findIn K (.ref C_NoClash) "__init__" = some (some (.ref fI_NoClash)))
    (ft_NoClash : PySem.W.typeIn K (.ref fI_NoClash) = some (.type "function"))
    {xoc_NoClash xkV_NoClash xdc_NoClash xpm_NoClash xcd_NoClash xct_NoClash} {xod_NoClash xan_NoClash : Option Addr} {xsl_NoClash : Array (Option Value)} (xl_NoClash : K.lookup fI_NoClash = some ⟨xoc_NoClash, xod_NoClash, .func (PySem.W.fnOf "__init__" "NoClash.__init__" (defArgs s_NoClash_init) (defBody s_NoClash_init) (defScope s_NoClash_init) .none xkV_NoClash xdc_NoClash xpm_NoClash xan_NoClash xcd_NoClash xct_NoClash), xsl_NoClash⟩)
    (xc_NoClash : PySem.W.codeIn K xcd_NoClash "NoClash.__init__" = true)
    (xk_NoClash : PySem.W.keepIn K (.ref fI_NoClash) = true)
    {C_NoPage} (ac_NoPage : PySem.W.nsIn K mainGlobals "NoPage" = some (some (.ref C_NoPage)))
    (e3_NoPage : PySem.W.subIn K (.ref C_NoPage) (.type "BaseException") = some true)
    (e4_NoPage : PySem.W.typeIn K (.ref C_NoPage) = some (.type "type"))
    (hd_NoPage : PySem.W.hasDictIn K C_NoPage = true)
    (e2_NoPage : PySem.W.keepIn K (.ref C_NoPage) = true)
    (ga_NoPage : PySem.W.findIn K (.ref C_NoPage) "__getattribute__" = some (some (.builtin "BaseException.__getattribute__")))
    (gg_NoPage : PySem.W.findIn K (.ref C_NoPage) "__getattr__" = some none)
    (k1_NoPage : PySem.W.findIn K (.ref C_NoPage) "__class__" = some (some (.builtin "object.__class__")))
    (k4_NoPage : PySem.W.mroIn K C_NoPage (.type "object") = some true)
    {nm_NoPage qn_NoPage : Str} {N_NoPage : Addr} {bs_NoPage bm_NoPage : List Value} {sn_NoPage : List Str} {sub_NoPage : List Value} {ab_NoPage : Bool} {col_NoPage : Option Bool} {dd_NoPage : Option Addr} {m0_NoPage m1_NoPage m2_NoPage m3_NoPage m5_NoPage : Option Value} (xL_NoPage : K.lookup C_NoPage = some (excClassObj nm_NoPage qn_NoPage C_NoPage N_NoPage bs_NoPage bm_NoPage true sn_NoPage sub_NoPage ab_NoPage col_NoPage dd_NoPage m0_NoPage m1_NoPage m2_NoPage m3_NoPage m5_NoPage "ValueError.__new__"))
    (rv_NoPage : PySem.HandSPX.refsVE bm_NoPage = true)
    (sa_NoPage : PySem.W.findIn K (.ref C_NoPage) "__setattr__" = some (some (.builtin "object.__setattr__")))
    (hn_NoPage_number : PySem.W.findIn K (.ref C_NoPage) "number" = some none)
    {fI_NoPage : Addr} (fi_NoPage : PySem.W.findIn K (.ref C_NoPage) "__init__" = some (some (.ref fI_NoPage)))
    (ft_NoPage : PySem.W.typeIn K (.ref fI_NoPage) = some (.type "function"))
    {xoc_NoPage xkV_NoPage xdc_NoPage xpm_NoPage xcd_NoPage xct_NoPage} {xod_NoPage xan_NoPage : Option Addr} {xsl_NoPage : Array (Option Value)} (xl_NoPage : K.lookup fI_NoPage = some ⟨xoc_NoPage, xod_NoPage, .func (PySem.W.fnOf "__init__" "NoPage.__init__" (defArgs s_NoPage_init) (defBody s_NoPage_init) (defScope s_NoPage_init) .none xkV_NoPage xdc_NoPage xpm_NoPage xan_NoPage xcd_NoPage xct_NoPage), xsl_NoPage⟩)
    (xc_NoPage : PySem.W.codeIn K xcd_NoPage "NoPage.__init__" = true)
    (xk_NoPage : PySem.W.keepIn K (.ref fI_NoPage) = true)
    {C_NoMake} (ac_NoMake : PySem.W.nsIn K mainGlobals "NoMake" = some (some (.ref C_NoMake)))
    (e3_NoMake : PySem.W.subIn K (.ref C_NoMake) (.type "BaseException") = some true)
    (e4_NoMake : PySem.W.typeIn K (.ref C_NoMake) = some (.type "type"))
    (hd_NoMake : PySem.W.hasDictIn K C_NoMake = true)
    (e2_NoMake : PySem.W.keepIn K (.ref C_NoMake) = true)
    (ga_NoMake : PySem.W.findIn K (.ref C_NoMake) "__getattribute__" = some (some (.builtin "BaseException.__getattribute__")))
    (gg_NoMake : PySem.W.findIn K (.ref C_NoMake) "__getattr__" = some none)
    (k1_NoMake : PySem.W.findIn K (.ref C_NoMake) "__class__" = some (some (.builtin "object.__class__")))
    (k4_NoMake : PySem.W.mroIn K C_NoMake (.type "object") = some true)
    {nm_NoMake qn_NoMake : Str} {N_NoMake : Addr} {bs_NoMake bm_NoMake : List Value} {sn_NoMake : List Str} {sub_NoMake : List Value} {ab_NoMake : Bool} {col_NoMake : Option Bool} {dd_NoMake : Option Addr} {m0_NoMake m1_NoMake m2_NoMake m3_NoMake m5_NoMake : Option Value} (xL_NoMake : K.lookup C_NoMake = some (excClassObj nm_NoMake qn_NoMake C_NoMake N_NoMake bs_NoMake bm_NoMake true sn_NoMake sub_NoMake ab_NoMake col_NoMake dd_NoMake m0_NoMake m1_NoMake m2_NoMake m3_NoMake m5_NoMake "ValueError.__new__"))
    (rv_NoMake : PySem.HandSPX.refsVE bm_NoMake = true)
    (sa_NoMake : PySem.W.findIn K (.ref C_NoMake) "__setattr__" = some (some (.builtin "object.__setattr__")))
    (hn_NoMake_number : PySem.W.findIn K (.ref C_NoMake) "number" = some none)
    {fI_NoMake : Addr} (fi_NoMake : PySem.W.findIn K (.ref C_NoMake) "__init__" = some (some (.ref fI_NoMake)))
    (ft_NoMake : PySem.W.typeIn K (.ref fI_NoMake) = some (.type "function"))
    {xoc_NoMake xkV_NoMake xdc_NoMake xpm_NoMake xcd_NoMake xct_NoMake} {xod_NoMake xan_NoMake : Option Addr} {xsl_NoMake : Array (Option Value)} (xl_NoMake : K.lookup fI_NoMake = some ⟨xoc_NoMake, xod_NoMake, .func (PySem.W.fnOf "__init__" "NoMake.__init__" (defArgs s_NoMake_init) (defBody s_NoMake_init) (defScope s_NoMake_init) .none xkV_NoMake xdc_NoMake xpm_NoMake xan_NoMake xcd_NoMake xct_NoMake), xsl_NoMake⟩)
    (xc_NoMake : PySem.W.codeIn K xcd_NoMake "NoMake.__init__" = true)
    (xk_NoMake : PySem.W.keepIn K (.ref fI_NoMake) = true)
    {C_NotBroken} (ac_NotBroken : PySem.W.nsIn K mainGlobals "NotBroken" = some (some (.ref C_NotBroken)))
    (e3_NotBroken : PySem.W.subIn K (.ref C_NotBroken) (.type "BaseException") = some true)
    (e4_NotBroken : PySem.W.typeIn K (.ref C_NotBroken) = some (.type "type"))
    (hd_NotBroken : PySem.W.hasDictIn K C_NotBroken = true)
    (e2_NotBroken : PySem.W.keepIn K (.ref C_NotBroken) = true)
    (ga_NotBroken : PySem.W.findIn K (.ref C_NotBroken) "__getattribute__" = some (some (.builtin "BaseException.__getattribute__")))
    (gg_NotBroken : PySem.W.findIn K (.ref C_NotBroken) "__getattr__" = some none)
    (k1_NotBroken : PySem.W.findIn K (.ref C_NotBroken) "__class__" = some (some (.builtin "object.__class__")))
    (k4_NotBroken : PySem.W.mroIn K C_NotBroken (.type "object") = some true)
    {nm_NotBroken qn_NotBroken : Str} {N_NotBroken : Addr} {bs_NotBroken bm_NotBroken : List Value} {sn_NotBroken : List Str} {sub_NotBroken : List Value} {ab_NotBroken : Bool} {col_NotBroken : Option Bool} {dd_NotBroken : Option Addr} {m0_NotBroken m1_NotBroken m2_NotBroken m3_NotBroken m5_NotBroken : Option Value} (xL_NotBroken : K.lookup C_NotBroken = some (excClassObj nm_NotBroken qn_NotBroken C_NotBroken N_NotBroken bs_NotBroken bm_NotBroken true sn_NotBroken sub_NotBroken ab_NotBroken col_NotBroken dd_NotBroken m0_NotBroken m1_NotBroken m2_NotBroken m3_NotBroken m5_NotBroken "ValueError.__new__"))
    (rv_NotBroken : PySem.HandSPX.refsVE bm_NotBroken = true)
    (sa_NotBroken : PySem.W.findIn K (.ref C_NotBroken) "__setattr__" = some (some (.builtin "object.__setattr__")))
    (hn_NotBroken_number : PySem.W.findIn K (.ref C_NotBroken) "number" = some none)
    {fI_NotBroken : Addr} (fi_NotBroken : PySem.W.findIn K (.ref C_NotBroken) "__init__" = some (some (.ref fI_NotBroken)))
    (ft_NotBroken : PySem.W.typeIn K (.ref fI_NotBroken) = some (.type "function"))
    {xoc_NotBroken xkV_NotBroken xdc_NotBroken xpm_NotBroken xcd_NotBroken xct_NotBroken} {xod_NotBroken xan_NotBroken : Option Addr} {xsl_NotBroken : Array (Option Value)} (xl_NotBroken : K.lookup fI_NotBroken = some ⟨xoc_NotBroken, xod_NotBroken, .func (PySem.W.fnOf "__init__" "NotBroken.__init__" (defArgs s_NotBroken_init) (defBody s_NotBroken_init) (defScope s_NotBroken_init) .none xkV_NotBroken xdc_NotBroken xpm_NotBroken xan_NotBroken xcd_NotBroken xct_NotBroken), xsl_NotBroken⟩)
    (xc_NotBroken : PySem.W.codeIn K xcd_NotBroken "NotBroken.__init__" = true)
    (xk_NotBroken : PySem.W.keepIn K (.ref fI_NotBroken) = true)
    {C_NoName} (ac_NoName : PySem.W.nsIn K mainGlobals "NoName" = some (some (.ref C_NoName)))
    (e3_NoName : PySem.W.subIn K (.ref C_NoName) (.type "BaseException") = some true)
    (e4_NoName : PySem.W.typeIn K (.ref C_NoName) = some (.type "type"))
    (hd_NoName : PySem.W.hasDictIn K C_NoName = true)
    (e2_NoName : PySem.W.keepIn K (.ref C_NoName) = true)
    (ga_NoName : PySem.W.findIn K (.ref C_NoName) "__getattribute__" = some (some (.builtin "BaseException.__getattribute__")))
    (gg_NoName : PySem.W.findIn K (.ref C_NoName) "__getattr__" = some none)
    (k1_NoName : PySem.W.findIn K (.ref C_NoName) "__class__" = some (some (.builtin "object.__class__")))
    (k4_NoName : PySem.W.mroIn K C_NoName (.type "object") = some true)
    {nm_NoName qn_NoName : Str} {N_NoName : Addr} {bs_NoName bm_NoName : List Value} {sn_NoName : List Str} {sub_NoName : List Value} {ab_NoName : Bool} {col_NoName : Option Bool} {dd_NoName : Option Addr} {m0_NoName m1_NoName m2_NoName m3_NoName m5_NoName : Option Value} (xL_NoName : K.lookup C_NoName = some (excClassObj nm_NoName qn_NoName C_NoName N_NoName bs_NoName bm_NoName true sn_NoName sub_NoName ab_NoName col_NoName dd_NoName m0_NoName m1_NoName m2_NoName m3_NoName m5_NoName "ValueError.__new__"))
    (rv_NoName : PySem.HandSPX.refsVE bm_NoName = true)
    (sa_NoName : PySem.W.findIn K (.ref C_NoName) "__setattr__" = some (some (.builtin "object.__setattr__")))
    (hn_NoName_word : PySem.W.findIn K (.ref C_NoName) "word" = some none)
    {fI_NoName : Addr} (fi_NoName : PySem.W.findIn K (.ref C_NoName) "__init__" = some (some (.ref fI_NoName)))
    (ft_NoName : PySem.W.typeIn K (.ref fI_NoName) = some (.type "function"))
    {xoc_NoName xkV_NoName xdc_NoName xpm_NoName xcd_NoName xct_NoName} {xod_NoName xan_NoName : Option Addr} {xsl_NoName : Array (Option Value)} (xl_NoName : K.lookup fI_NoName = some ⟨xoc_NoName, xod_NoName, .func (PySem.W.fnOf "__init__" "NoName.__init__" (defArgs s_NoName_init) (defBody s_NoName_init) (defScope s_NoName_init) .none xkV_NoName xdc_NoName xpm_NoName xan_NoName xcd_NoName xct_NoName), xsl_NoName⟩)
    (xc_NoName : PySem.W.codeIn K xcd_NoName "NoName.__init__" = true)
    (xk_NoName : PySem.W.keepIn K (.ref fI_NoName) = true)
    {C_InUse} (ac_InUse : PySem.W.nsIn K mainGlobals "InUse" = some (some (.ref C_InUse)))
    (e3_InUse : PySem.W.subIn K (.ref C_InUse) (.type "BaseException") = some true)
    (e4_InUse : PySem.W.typeIn K (.ref C_InUse) = some (.type "type"))
    (hd_InUse : PySem.W.hasDictIn K C_InUse = true)
    (e2_InUse : PySem.W.keepIn K (.ref C_InUse) = true)
    (ga_InUse : PySem.W.findIn K (.ref C_InUse) "__getattribute__" = some (some (.builtin "BaseException.__getattribute__")))
    (gg_InUse : PySem.W.findIn K (.ref C_InUse) "__getattr__" = some none)
    (k1_InUse : PySem.W.findIn K (.ref C_InUse) "__class__" = some (some (.builtin "object.__class__")))
    (k4_InUse : PySem.W.mroIn K C_InUse (.type "object") = some true)
    {nm_InUse qn_InUse : Str} {N_InUse : Addr} {bs_InUse bm_InUse : List Value} {sn_InUse : List Str} {sub_InUse : List Value} {ab_InUse : Bool} {col_InUse : Option Bool} {dd_InUse : Option Addr} {m0_InUse m1_InUse m2_InUse m3_InUse m5_InUse : Option Value} (xL_InUse : K.lookup C_InUse = some (excClassObj nm_InUse qn_InUse C_InUse N_InUse bs_InUse bm_InUse true sn_InUse sub_InUse ab_InUse col_InUse dd_InUse m0_InUse m1_InUse m2_InUse m3_InUse m5_InUse "ValueError.__new__"))
    (rv_InUse : PySem.HandSPX.refsVE bm_InUse = true)
    (sa_InUse : PySem.W.findIn K (.ref C_InUse) "__setattr__" = some (some (.builtin "object.__setattr__")))
    (hn_InUse_word : PySem.W.findIn K (.ref C_InUse) "word" = some none)
    {fI_InUse : Addr} (fi_InUse : PySem.W.findIn K (.ref C_InUse) "__init__" = some (some (.ref fI_InUse)))
    (ft_InUse : PySem.W.typeIn K (.ref fI_InUse) = some (.type "function"))
    {xoc_InUse xkV_InUse xdc_InUse xpm_InUse xcd_InUse xct_InUse} {xod_InUse xan_InUse : Option Addr} {xsl_InUse : Array (Option Value)} (xl_InUse : K.lookup fI_InUse = some ⟨xoc_InUse, xod_InUse, .func (PySem.W.fnOf "__init__" "InUse.__init__" (defArgs s_InUse_init) (defBody s_InUse_init) (defScope s_InUse_init) .none xkV_InUse xdc_InUse xpm_InUse xan_InUse xcd_InUse xct_InUse), xsl_InUse⟩)
    (xc_InUse : PySem.W.codeIn K xcd_InUse "InUse.__init__" = true)
    (xk_InUse : PySem.W.keepIn K (.ref fI_InUse) = true)
    (sx_BadKey_TableError : PySem.W.subIn K (.ref C_BadKey) (.ref C_TableError) = some true)
    (sx_BadValue_TableError : PySem.W.subIn K (.ref C_BadValue) (.ref C_TableError) = some true)
    (sx_BadWord_TableError : PySem.W.subIn K (.ref C_BadWord) (.ref C_TableError) = some true)
    (sx_BadElders_TableError : PySem.W.subIn K (.ref C_BadElders) (.ref C_TableError) = some true)
    (sx_BadText_TableError : PySem.W.subIn K (.ref C_BadText) (.ref C_TableError) = some true)
    (sx_BadRow_TableError : PySem.W.subIn K (.ref C_BadRow) (.ref C_TableError) = some true)
    (sx_Unsaved_TableError : PySem.W.subIn K (.ref C_Unsaved) (.ref C_TableError) = some true)
    (sx_NotRising_TableError : PySem.W.subIn K (.ref C_NotRising) (.ref C_TableError) = some true)
    (sx_NoRow_TableError : PySem.W.subIn K (.ref C_NoRow) (.ref C_TableError) = some true)
    (sx_Unfit_TableError : PySem.W.subIn K (.ref C_Unfit) (.ref C_TableError) = some true)
    (sx_NoColumn_TableError : PySem.W.subIn K (.ref C_NoColumn) (.ref C_TableError) = some true)
    (sx_ColumnThere_TableError : PySem.W.subIn K (.ref C_ColumnThere) (.ref C_TableError) = some true)
    (sx_NoClash_TableError : PySem.W.subIn K (.ref C_NoClash) (.ref C_TableError) = some true)
    (sx_NoPage_TableError : PySem.W.subIn K (.ref C_NoPage) (.ref C_TableError) = some true)
    (sx_NoMake_TableError : PySem.W.subIn K (.ref C_NoMake) (.ref C_TableError) = some true)
    (sx_NotBroken_TableError : PySem.W.subIn K (.ref C_NotBroken) (.ref C_TableError) = some true)
    (sx_NoName_TableError : PySem.W.subIn K (.ref C_NoName) (.ref C_TableError) = some true)
    (sx_InUse_TableError : PySem.W.subIn K (.ref C_InUse) (.ref C_TableError) = some true)
    (kx_InUse_BadElders : PySem.W.kitOne K (.ref C_InUse) (.ref C_BadElders) = some false)
    (kx_NoName_BadElders : PySem.W.kitOne K (.ref C_NoName) (.ref C_BadElders) = some false)
    (kx_NotBroken_BadElders : PySem.W.kitOne K (.ref C_NotBroken) (.ref C_BadElders) = some false)
    (kx_NoMake_BadElders : PySem.W.kitOne K (.ref C_NoMake) (.ref C_BadElders) = some false)
    (kx_NoPage_BadElders : PySem.W.kitOne K (.ref C_NoPage) (.ref C_BadElders) = some false)
    (kx_NoClash_BadElders : PySem.W.kitOne K (.ref C_NoClash) (.ref C_BadElders) = some false)
    (kx_ColumnThere_BadElders : PySem.W.kitOne K (.ref C_ColumnThere) (.ref C_BadElders) = some false)
    (kx_NoColumn_BadElders : PySem.W.kitOne K (.ref C_NoColumn) (.ref C_BadElders) = some false)
    (kx_Unfit_BadElders : PySem.W.kitOne K (.ref C_Unfit) (.ref C_BadElders) = some false)
    (kx_NoRow_BadElders : PySem.W.kitOne K (.ref C_NoRow) (.ref C_BadElders) = some false)
    (kx_NotRising_BadElders : PySem.W.kitOne K (.ref C_NotRising) (.ref C_BadElders) = some false)
    (kx_Unsaved_BadElders : PySem.W.kitOne K (.ref C_Unsaved) (.ref C_BadElders) = some false)
    (kx_BadRow_BadElders : PySem.W.kitOne K (.ref C_BadRow) (.ref C_BadElders) = some false)
    (kx_BadText_BadElders : PySem.W.kitOne K (.ref C_BadText) (.ref C_BadElders) = some false)
    (kx_BadElders_BadElders : PySem.W.kitOne K (.ref C_BadElders) (.ref C_BadElders) = some true)
    (kx_BadWord_BadElders : PySem.W.kitOne K (.ref C_BadWord) (.ref C_BadElders) = some false)
    (kx_BadValue_BadElders : PySem.W.kitOne K (.ref C_BadValue) (.ref C_BadElders) = some false)
    (kx_BadKey_BadElders : PySem.W.kitOne K (.ref C_BadKey) (.ref C_BadElders) = some false)
    (kx_InUse_BadWord : PySem.W.kitOne K (.ref C_InUse) (.ref C_BadWord) = some false)
    (kx_NoName_BadWord : PySem.W.kitOne K (.ref C_NoName) (.ref C_BadWord) = some false)
    (kx_NotBroken_BadWord : PySem.W.kitOne K (.ref C_NotBroken) (.ref C_BadWord) = some false)
    (kx_NoMake_BadWord : PySem.W.kitOne K (.ref C_NoMake) (.ref C_BadWord) = some false)
    (kx_NoPage_BadWord : PySem.W.kitOne K (.ref C_NoPage) (.ref C_BadWord) = some false)
    (kx_NoClash_BadWord : PySem.W.kitOne K (.ref C_NoClash) (.ref C_BadWord) = some false)
    (kx_ColumnThere_BadWord : PySem.W.kitOne K (.ref C_ColumnThere) (.ref C_BadWord) = some false)
    (kx_NoColumn_BadWord : PySem.W.kitOne K (.ref C_NoColumn) (.ref C_BadWord) = some false)
    (kx_Unfit_BadWord : PySem.W.kitOne K (.ref C_Unfit) (.ref C_BadWord) = some false)
    (kx_NoRow_BadWord : PySem.W.kitOne K (.ref C_NoRow) (.ref C_BadWord) = some false)
    (kx_NotRising_BadWord : PySem.W.kitOne K (.ref C_NotRising) (.ref C_BadWord) = some false)
    (kx_Unsaved_BadWord : PySem.W.kitOne K (.ref C_Unsaved) (.ref C_BadWord) = some false)
    (kx_BadRow_BadWord : PySem.W.kitOne K (.ref C_BadRow) (.ref C_BadWord) = some false)
    (kx_BadText_BadWord : PySem.W.kitOne K (.ref C_BadText) (.ref C_BadWord) = some false)
    (kx_BadElders_BadWord : PySem.W.kitOne K (.ref C_BadElders) (.ref C_BadWord) = some false)
    (kx_BadWord_BadWord : PySem.W.kitOne K (.ref C_BadWord) (.ref C_BadWord) = some true)
    (kx_BadValue_BadWord : PySem.W.kitOne K (.ref C_BadValue) (.ref C_BadWord) = some false)
    (kx_BadKey_BadWord : PySem.W.kitOne K (.ref C_BadKey) (.ref C_BadWord) = some false)
    (kx_InUse_BadValue : PySem.W.kitOne K (.ref C_InUse) (.ref C_BadValue) = some false)
    (kx_NoName_BadValue : PySem.W.kitOne K (.ref C_NoName) (.ref C_BadValue) = some false)
    (kx_NotBroken_BadValue : PySem.W.kitOne K (.ref C_NotBroken) (.ref C_BadValue) = some false)
    (kx_NoMake_BadValue : PySem.W.kitOne K (.ref C_NoMake) (.ref C_BadValue) = some false)
    (kx_NoPage_BadValue : PySem.W.kitOne K (.ref C_NoPage) (.ref C_BadValue) = some false)
    (kx_NoClash_BadValue : PySem.W.kitOne K (.ref C_NoClash) (.ref C_BadValue) = some false)
    (kx_ColumnThere_BadValue : PySem.W.kitOne K (.ref C_ColumnThere) (.ref C_BadValue) = some false)
    (kx_NoColumn_BadValue : PySem.W.kitOne K (.ref C_NoColumn) (.ref C_BadValue) = some false)
    (kx_Unfit_BadValue : PySem.W.kitOne K (.ref C_Unfit) (.ref C_BadValue) = some false)
    (kx_NoRow_BadValue : PySem.W.kitOne K (.ref C_NoRow) (.ref C_BadValue) = some false)
    (kx_NotRising_BadValue : PySem.W.kitOne K (.ref C_NotRising) (.ref C_BadValue) = some false)
    (kx_Unsaved_BadValue : PySem.W.kitOne K (.ref C_Unsaved) (.ref C_BadValue) = some false)
    (kx_BadRow_BadValue : PySem.W.kitOne K (.ref C_BadRow) (.ref C_BadValue) = some false)
    (kx_BadText_BadValue : PySem.W.kitOne K (.ref C_BadText) (.ref C_BadValue) = some false)
    (kx_BadElders_BadValue : PySem.W.kitOne K (.ref C_BadElders) (.ref C_BadValue) = some false)
    (kx_BadWord_BadValue : PySem.W.kitOne K (.ref C_BadWord) (.ref C_BadValue) = some false)
    (kx_BadValue_BadValue : PySem.W.kitOne K (.ref C_BadValue) (.ref C_BadValue) = some true)
    (kx_BadKey_BadValue : PySem.W.kitOne K (.ref C_BadKey) (.ref C_BadValue) = some false)
    (kx_InUse_BadKey : PySem.W.kitOne K (.ref C_InUse) (.ref C_BadKey) = some false)
    (kx_NoName_BadKey : PySem.W.kitOne K (.ref C_NoName) (.ref C_BadKey) = some false)
    (kx_NotBroken_BadKey : PySem.W.kitOne K (.ref C_NotBroken) (.ref C_BadKey) = some false)
    (kx_NoMake_BadKey : PySem.W.kitOne K (.ref C_NoMake) (.ref C_BadKey) = some false)
    (kx_NoPage_BadKey : PySem.W.kitOne K (.ref C_NoPage) (.ref C_BadKey) = some false)
    (kx_NoClash_BadKey : PySem.W.kitOne K (.ref C_NoClash) (.ref C_BadKey) = some false)
    (kx_ColumnThere_BadKey : PySem.W.kitOne K (.ref C_ColumnThere) (.ref C_BadKey) = some false)
    (kx_NoColumn_BadKey : PySem.W.kitOne K (.ref C_NoColumn) (.ref C_BadKey) = some false)
    (kx_Unfit_BadKey : PySem.W.kitOne K (.ref C_Unfit) (.ref C_BadKey) = some false)
    (kx_NoRow_BadKey : PySem.W.kitOne K (.ref C_NoRow) (.ref C_BadKey) = some false)
    (kx_NotRising_BadKey : PySem.W.kitOne K (.ref C_NotRising) (.ref C_BadKey) = some false)
    (kx_Unsaved_BadKey : PySem.W.kitOne K (.ref C_Unsaved) (.ref C_BadKey) = some false)
    (kx_BadRow_BadKey : PySem.W.kitOne K (.ref C_BadRow) (.ref C_BadKey) = some false)
    (kx_BadText_BadKey : PySem.W.kitOne K (.ref C_BadText) (.ref C_BadKey) = some false)
    (kx_BadElders_BadKey : PySem.W.kitOne K (.ref C_BadElders) (.ref C_BadKey) = some false)
    (kx_BadWord_BadKey : PySem.W.kitOne K (.ref C_BadWord) (.ref C_BadKey) = some false)
    (kx_BadValue_BadKey : PySem.W.kitOne K (.ref C_BadValue) (.ref C_BadKey) = some false)
    (kx_BadKey_BadKey : PySem.W.kitOne K (.ref C_BadKey) (.ref C_BadKey) = some true)
    (kx_InUse_NotRising : PySem.W.kitOne K (.ref C_InUse) (.ref C_NotRising) = some false)
    (kx_NoName_NotRising : PySem.W.kitOne K (.ref C_NoName) (.ref C_NotRising) = some false)
    (kx_NotBroken_NotRising : PySem.W.kitOne K (.ref C_NotBroken) (.ref C_NotRising) = some false)
    (kx_NoMake_NotRising : PySem.W.kitOne K (.ref C_NoMake) (.ref C_NotRising) = some false)
    (kx_NoPage_NotRising : PySem.W.kitOne K (.ref C_NoPage) (.ref C_NotRising) = some false)
    (kx_NoClash_NotRising : PySem.W.kitOne K (.ref C_NoClash) (.ref C_NotRising) = some false)
    (kx_ColumnThere_NotRising : PySem.W.kitOne K (.ref C_ColumnThere) (.ref C_NotRising) = some false)
    (kx_NoColumn_NotRising : PySem.W.kitOne K (.ref C_NoColumn) (.ref C_NotRising) = some false)
    (kx_Unfit_NotRising : PySem.W.kitOne K (.ref C_Unfit) (.ref C_NotRising) = some false)
    (kx_NoRow_NotRising : PySem.W.kitOne K (.ref C_NoRow) (.ref C_NotRising) = some false)
    (kx_NotRising_NotRising : PySem.W.kitOne K (.ref C_NotRising) (.ref C_NotRising) = some true)
    (kx_Unsaved_NotRising : PySem.W.kitOne K (.ref C_Unsaved) (.ref C_NotRising) = some false)
    (kx_BadRow_NotRising : PySem.W.kitOne K (.ref C_BadRow) (.ref C_NotRising) = some false)
    (kx_BadText_NotRising : PySem.W.kitOne K (.ref C_BadText) (.ref C_NotRising) = some false)
    (kx_BadElders_NotRising : PySem.W.kitOne K (.ref C_BadElders) (.ref C_NotRising) = some false)
    (kx_BadWord_NotRising : PySem.W.kitOne K (.ref C_BadWord) (.ref C_NotRising) = some false)
    (kx_BadValue_NotRising : PySem.W.kitOne K (.ref C_BadValue) (.ref C_NotRising) = some false)
    (kx_BadKey_NotRising : PySem.W.kitOne K (.ref C_BadKey) (.ref C_NotRising) = some false)
    (kx_InUse_Unsaved : PySem.W.kitOne K (.ref C_InUse) (.ref C_Unsaved) = some false)
    (kx_NoName_Unsaved : PySem.W.kitOne K (.ref C_NoName) (.ref C_Unsaved) = some false)
    (kx_NotBroken_Unsaved : PySem.W.kitOne K (.ref C_NotBroken) (.ref C_Unsaved) = some false)
    (kx_NoMake_Unsaved : PySem.W.kitOne K (.ref C_NoMake) (.ref C_Unsaved) = some false)
    (kx_NoPage_Unsaved : PySem.W.kitOne K (.ref C_NoPage) (.ref C_Unsaved) = some false)
    (kx_NoClash_Unsaved : PySem.W.kitOne K (.ref C_NoClash) (.ref C_Unsaved) = some false)
    (kx_ColumnThere_Unsaved : PySem.W.kitOne K (.ref C_ColumnThere) (.ref C_Unsaved) = some false)
    (kx_NoColumn_Unsaved : PySem.W.kitOne K (.ref C_NoColumn) (.ref C_Unsaved) = some false)
    (kx_Unfit_Unsaved : PySem.W.kitOne K (.ref C_Unfit) (.ref C_Unsaved) = some false)
    (kx_NoRow_Unsaved : PySem.W.kitOne K (.ref C_NoRow) (.ref C_Unsaved) = some false)
    (kx_NotRising_Unsaved : PySem.W.kitOne K (.ref C_NotRising) (.ref C_Unsaved) = some false)
    (kx_Unsaved_Unsaved : PySem.W.kitOne K (.ref C_Unsaved) (.ref C_Unsaved) = some true)
    (kx_BadRow_Unsaved : PySem.W.kitOne K (.ref C_BadRow) (.ref C_Unsaved) = some false)
    (kx_BadText_Unsaved : PySem.W.kitOne K (.ref C_BadText) (.ref C_Unsaved) = some false)
    (kx_BadElders_Unsaved : PySem.W.kitOne K (.ref C_BadElders) (.ref C_Unsaved) = some false)
    (kx_BadWord_Unsaved : PySem.W.kitOne K (.ref C_BadWord) (.ref C_Unsaved) = some false)
    (kx_BadValue_Unsaved : PySem.W.kitOne K (.ref C_BadValue) (.ref C_Unsaved) = some false)
    (kx_BadKey_Unsaved : PySem.W.kitOne K (.ref C_BadKey) (.ref C_Unsaved) = some false)
    (kx_InUse_BadRow : PySem.W.kitOne K (.ref C_InUse) (.ref C_BadRow) = some false)
    (kx_NoName_BadRow : PySem.W.kitOne K (.ref C_NoName) (.ref C_BadRow) = some false)
    (kx_NotBroken_BadRow : PySem.W.kitOne K (.ref C_NotBroken) (.ref C_BadRow) = some false)
    (kx_NoMake_BadRow : PySem.W.kitOne K (.ref C_NoMake) (.ref C_BadRow) = some false)
    (kx_NoPage_BadRow : PySem.W.kitOne K (.ref C_NoPage) (.ref C_BadRow) = some false)
    (kx_NoClash_BadRow : PySem.W.kitOne K (.ref C_NoClash) (.ref C_BadRow) = some false)
    (kx_ColumnThere_BadRow : PySem.W.kitOne K (.ref C_ColumnThere) (.ref C_BadRow) = some false)
    (kx_NoColumn_BadRow : PySem.W.kitOne K (.ref C_NoColumn) (.ref C_BadRow) = some false)
    (kx_Unfit_BadRow : PySem.W.kitOne K (.ref C_Unfit) (.ref C_BadRow) = some false)
    (kx_NoRow_BadRow : PySem.W.kitOne K (.ref C_NoRow) (.ref C_BadRow) = some false)
    (kx_NotRising_BadRow : PySem.W.kitOne K (.ref C_NotRising) (.ref C_BadRow) = some false)
    (kx_Unsaved_BadRow : PySem.W.kitOne K (.ref C_Unsaved) (.ref C_BadRow) = some false)
    (kx_BadRow_BadRow : PySem.W.kitOne K (.ref C_BadRow) (.ref C_BadRow) = some true)
    (kx_BadText_BadRow : PySem.W.kitOne K (.ref C_BadText) (.ref C_BadRow) = some false)
    (kx_BadElders_BadRow : PySem.W.kitOne K (.ref C_BadElders) (.ref C_BadRow) = some false)
    (kx_BadWord_BadRow : PySem.W.kitOne K (.ref C_BadWord) (.ref C_BadRow) = some false)
    (kx_BadValue_BadRow : PySem.W.kitOne K (.ref C_BadValue) (.ref C_BadRow) = some false)
    (kx_BadKey_BadRow : PySem.W.kitOne K (.ref C_BadKey) (.ref C_BadRow) = some false)
    (kx_InUse_BadText : PySem.W.kitOne K (.ref C_InUse) (.ref C_BadText) = some false)
    (kx_NoName_BadText : PySem.W.kitOne K (.ref C_NoName) (.ref C_BadText) = some false)
    (kx_NotBroken_BadText : PySem.W.kitOne K (.ref C_NotBroken) (.ref C_BadText) = some false)
    (kx_NoMake_BadText : PySem.W.kitOne K (.ref C_NoMake) (.ref C_BadText) = some false)
    (kx_NoPage_BadText : PySem.W.kitOne K (.ref C_NoPage) (.ref C_BadText) = some false)
    (kx_NoClash_BadText : PySem.W.kitOne K (.ref C_NoClash) (.ref C_BadText) = some false)
    (kx_ColumnThere_BadText : PySem.W.kitOne K (.ref C_ColumnThere) (.ref C_BadText) = some false)
    (kx_NoColumn_BadText : PySem.W.kitOne K (.ref C_NoColumn) (.ref C_BadText) = some false)
    (kx_Unfit_BadText : PySem.W.kitOne K (.ref C_Unfit) (.ref C_BadText) = some false)
    (kx_NoRow_BadText : PySem.W.kitOne K (.ref C_NoRow) (.ref C_BadText) = some false)
    (kx_NotRising_BadText : PySem.W.kitOne K (.ref C_NotRising) (.ref C_BadText) = some false)
    (kx_Unsaved_BadText : PySem.W.kitOne K (.ref C_Unsaved) (.ref C_BadText) = some false)
    (kx_BadRow_BadText : PySem.W.kitOne K (.ref C_BadRow) (.ref C_BadText) = some false)
    (kx_BadText_BadText : PySem.W.kitOne K (.ref C_BadText) (.ref C_BadText) = some true)
    (kx_BadElders_BadText : PySem.W.kitOne K (.ref C_BadElders) (.ref C_BadText) = some false)
    (kx_BadWord_BadText : PySem.W.kitOne K (.ref C_BadWord) (.ref C_BadText) = some false)
    (kx_BadValue_BadText : PySem.W.kitOne K (.ref C_BadValue) (.ref C_BadText) = some false)
    (kx_BadKey_BadText : PySem.W.kitOne K (.ref C_BadKey) (.ref C_BadText) = some false)
    (kx_InUse_ColumnThere : PySem.W.kitOne K (.ref C_InUse) (.ref C_ColumnThere) = some false)
    (kx_NoName_ColumnThere : PySem.W.kitOne K (.ref C_NoName) (.ref C_ColumnThere) = some false)
    (kx_NotBroken_ColumnThere : PySem.W.kitOne K (.ref C_NotBroken) (.ref C_ColumnThere) = some false)
    (kx_NoMake_ColumnThere : PySem.W.kitOne K (.ref C_NoMake) (.ref C_ColumnThere) = some false)
    (kx_NoPage_ColumnThere : PySem.W.kitOne K (.ref C_NoPage) (.ref C_ColumnThere) = some false)
    (kx_NoClash_ColumnThere : PySem.W.kitOne K (.ref C_NoClash) (.ref C_ColumnThere) = some false)
    (kx_ColumnThere_ColumnThere : PySem.W.kitOne K (.ref C_ColumnThere) (.ref C_ColumnThere) = some true)
    (kx_NoColumn_ColumnThere : PySem.W.kitOne K (.ref C_NoColumn) (.ref C_ColumnThere) = some false)
    (kx_Unfit_ColumnThere : PySem.W.kitOne K (.ref C_Unfit) (.ref C_ColumnThere) = some false)
    (kx_NoRow_ColumnThere : PySem.W.kitOne K (.ref C_NoRow) (.ref C_ColumnThere) = some false)
    (kx_NotRising_ColumnThere : PySem.W.kitOne K (.ref C_NotRising) (.ref C_ColumnThere) = some false)
    (kx_Unsaved_ColumnThere : PySem.W.kitOne K (.ref C_Unsaved) (.ref C_ColumnThere) = some false)
    (kx_BadRow_ColumnThere : PySem.W.kitOne K (.ref C_BadRow) (.ref C_ColumnThere) = some false)
    (kx_BadText_ColumnThere : PySem.W.kitOne K (.ref C_BadText) (.ref C_ColumnThere) = some false)
    (kx_BadElders_ColumnThere : PySem.W.kitOne K (.ref C_BadElders) (.ref C_ColumnThere) = some false)
    (kx_BadWord_ColumnThere : PySem.W.kitOne K (.ref C_BadWord) (.ref C_ColumnThere) = some false)
    (kx_BadValue_ColumnThere : PySem.W.kitOne K (.ref C_BadValue) (.ref C_ColumnThere) = some false)
    (kx_BadKey_ColumnThere : PySem.W.kitOne K (.ref C_BadKey) (.ref C_ColumnThere) = some false)
    (kx_InUse_NoColumn : PySem.W.kitOne K (.ref C_InUse) (.ref C_NoColumn) = some false)
    (kx_NoName_NoColumn : PySem.W.kitOne K (.ref C_NoName) (.ref C_NoColumn) = some false)
    (kx_NotBroken_NoColumn : PySem.W.kitOne K (.ref C_NotBroken) (.ref C_NoColumn) = some false)
    (kx_NoMake_NoColumn : PySem.W.kitOne K (.ref C_NoMake) (.ref C_NoColumn) = some false)
    (kx_NoPage_NoColumn : PySem.W.kitOne K (.ref C_NoPage) (.ref C_NoColumn) = some false)
    (kx_NoClash_NoColumn : PySem.W.kitOne K (.ref C_NoClash) (.ref C_NoColumn) = some false)
    (kx_ColumnThere_NoColumn : PySem.W.kitOne K (.ref C_ColumnThere) (.ref C_NoColumn) = some false)
    (kx_NoColumn_NoColumn : PySem.W.kitOne K (.ref C_NoColumn) (.ref C_NoColumn) = some true)
    (kx_Unfit_NoColumn : PySem.W.kitOne K (.ref C_Unfit) (.ref C_NoColumn) = some false)
    (kx_NoRow_NoColumn : PySem.W.kitOne K (.ref C_NoRow) (.ref C_NoColumn) = some false)
    (kx_NotRising_NoColumn : PySem.W.kitOne K (.ref C_NotRising) (.ref C_NoColumn) = some false)
    (kx_Unsaved_NoColumn : PySem.W.kitOne K (.ref C_Unsaved) (.ref C_NoColumn) = some false)
    (kx_BadRow_NoColumn : PySem.W.kitOne K (.ref C_BadRow) (.ref C_NoColumn) = some false)
    (kx_BadText_NoColumn : PySem.W.kitOne K (.ref C_BadText) (.ref C_NoColumn) = some false)
    (kx_BadElders_NoColumn : PySem.W.kitOne K (.ref C_BadElders) (.ref C_NoColumn) = some false)
    (kx_BadWord_NoColumn : PySem.W.kitOne K (.ref C_BadWord) (.ref C_NoColumn) = some false)
    (kx_BadValue_NoColumn : PySem.W.kitOne K (.ref C_BadValue) (.ref C_NoColumn) = some false)
    (kx_BadKey_NoColumn : PySem.W.kitOne K (.ref C_BadKey) (.ref C_NoColumn) = some false)
    (kx_InUse_Unfit : PySem.W.kitOne K (.ref C_InUse) (.ref C_Unfit) = some false)
    (kx_NoName_Unfit : PySem.W.kitOne K (.ref C_NoName) (.ref C_Unfit) = some false)
    (kx_NotBroken_Unfit : PySem.W.kitOne K (.ref C_NotBroken) (.ref C_Unfit) = some false)
    (kx_NoMake_Unfit : PySem.W.kitOne K (.ref C_NoMake) (.ref C_Unfit) = some false)
    (kx_NoPage_Unfit : PySem.W.kitOne K (.ref C_NoPage) (.ref C_Unfit) = some false)
    (kx_NoClash_Unfit : PySem.W.kitOne K (.ref C_NoClash) (.ref C_Unfit) = some false)
    (kx_ColumnThere_Unfit : PySem.W.kitOne K (.ref C_ColumnThere) (.ref C_Unfit) = some false)
    (kx_NoColumn_Unfit : PySem.W.kitOne K (.ref C_NoColumn) (.ref C_Unfit) = some false)
    (kx_Unfit_Unfit : PySem.W.kitOne K (.ref C_Unfit) (.ref C_Unfit) = some true)
    (kx_NoRow_Unfit : PySem.W.kitOne K (.ref C_NoRow) (.ref C_Unfit) = some false)
    (kx_NotRising_Unfit : PySem.W.kitOne K (.ref C_NotRising) (.ref C_Unfit) = some false)
    (kx_Unsaved_Unfit : PySem.W.kitOne K (.ref C_Unsaved) (.ref C_Unfit) = some false)
    (kx_BadRow_Unfit : PySem.W.kitOne K (.ref C_BadRow) (.ref C_Unfit) = some false)
    (kx_BadText_Unfit : PySem.W.kitOne K (.ref C_BadText) (.ref C_Unfit) = some false)
    (kx_BadElders_Unfit : PySem.W.kitOne K (.ref C_BadElders) (.ref C_Unfit) = some false)
    (kx_BadWord_Unfit : PySem.W.kitOne K (.ref C_BadWord) (.ref C_Unfit) = some false)
    (kx_BadValue_Unfit : PySem.W.kitOne K (.ref C_BadValue) (.ref C_Unfit) = some false)
    (kx_BadKey_Unfit : PySem.W.kitOne K (.ref C_BadKey) (.ref C_Unfit) = some false)
    (kx_InUse_NoRow : PySem.W.kitOne K (.ref C_InUse) (.ref C_NoRow) = some false)
    (kx_NoName_NoRow : PySem.W.kitOne K (.ref C_NoName) (.ref C_NoRow) = some false)
    (kx_NotBroken_NoRow : PySem.W.kitOne K (.ref C_NotBroken) (.ref C_NoRow) = some false)
    (kx_NoMake_NoRow : PySem.W.kitOne K (.ref C_NoMake) (.ref C_NoRow) = some false)
    (kx_NoPage_NoRow : PySem.W.kitOne K (.ref C_NoPage) (.ref C_NoRow) = some false)
    (kx_NoClash_NoRow : PySem.W.kitOne K (.ref C_NoClash) (.ref C_NoRow) = some false)
    (kx_ColumnThere_NoRow : PySem.W.kitOne K (.ref C_ColumnThere) (.ref C_NoRow) = some false)
    (kx_NoColumn_NoRow : PySem.W.kitOne K (.ref C_NoColumn) (.ref C_NoRow) = some false)
    (kx_Unfit_NoRow : PySem.W.kitOne K (.ref C_Unfit) (.ref C_NoRow) = some false)
    (kx_NoRow_NoRow : PySem.W.kitOne K (.ref C_NoRow) (.ref C_NoRow) = some true)
    (kx_NotRising_NoRow : PySem.W.kitOne K (.ref C_NotRising) (.ref C_NoRow) = some false)
    (kx_Unsaved_NoRow : PySem.W.kitOne K (.ref C_Unsaved) (.ref C_NoRow) = some false)
    (kx_BadRow_NoRow : PySem.W.kitOne K (.ref C_BadRow) (.ref C_NoRow) = some false)
    (kx_BadText_NoRow : PySem.W.kitOne K (.ref C_BadText) (.ref C_NoRow) = some false)
    (kx_BadElders_NoRow : PySem.W.kitOne K (.ref C_BadElders) (.ref C_NoRow) = some false)
    (kx_BadWord_NoRow : PySem.W.kitOne K (.ref C_BadWord) (.ref C_NoRow) = some false)
    (kx_BadValue_NoRow : PySem.W.kitOne K (.ref C_BadValue) (.ref C_NoRow) = some false)
    (kx_BadKey_NoRow : PySem.W.kitOne K (.ref C_BadKey) (.ref C_NoRow) = some false)
    (kx_InUse_NotBroken : PySem.W.kitOne K (.ref C_InUse) (.ref C_NotBroken) = some false)
    (kx_NoName_NotBroken : PySem.W.kitOne K (.ref C_NoName) (.ref C_NotBroken) = some false)
    (kx_NotBroken_NotBroken : PySem.W.kitOne K (.ref C_NotBroken) (.ref C_NotBroken) = some true)
    (kx_NoMake_NotBroken : PySem.W.kitOne K (.ref C_NoMake) (.ref C_NotBroken) = some false)
    (kx_NoPage_NotBroken : PySem.W.kitOne K (.ref C_NoPage) (.ref C_NotBroken) = some false)
    (kx_NoClash_NotBroken : PySem.W.kitOne K (.ref C_NoClash) (.ref C_NotBroken) = some false)
    (kx_ColumnThere_NotBroken : PySem.W.kitOne K (.ref C_ColumnThere) (.ref C_NotBroken) = some false)
    (kx_NoColumn_NotBroken : PySem.W.kitOne K (.ref C_NoColumn) (.ref C_NotBroken) = some false)
    (kx_Unfit_NotBroken : PySem.W.kitOne K (.ref C_Unfit) (.ref C_NotBroken) = some false)
    (kx_NoRow_NotBroken : PySem.W.kitOne K (.ref C_NoRow) (.ref C_NotBroken) = some false)
    (kx_NotRising_NotBroken : PySem.W.kitOne K (.ref C_NotRising) (.ref C_NotBroken) = some false)
    (kx_Unsaved_NotBroken : PySem.W.kitOne K (.ref C_Unsaved) (.ref C_NotBroken) = some false)
    (kx_BadRow_NotBroken : PySem.W.kitOne K (.ref C_BadRow) (.ref C_NotBroken) = some false)
    (kx_BadText_NotBroken : PySem.W.kitOne K (.ref C_BadText) (.ref C_NotBroken) = some false)
    (kx_BadElders_NotBroken : PySem.W.kitOne K (.ref C_BadElders) (.ref C_NotBroken) = some false)
    (kx_BadWord_NotBroken : PySem.W.kitOne K (.ref C_BadWord) (.ref C_NotBroken) = some false)
    (kx_BadValue_NotBroken : PySem.W.kitOne K (.ref C_BadValue) (.ref C_NotBroken) = some false)
    (kx_BadKey_NotBroken : PySem.W.kitOne K (.ref C_BadKey) (.ref C_NotBroken) = some false)
    (kx_InUse_NoMake : PySem.W.kitOne K (.ref C_InUse) (.ref C_NoMake) = some false)
    (kx_NoName_NoMake : PySem.W.kitOne K (.ref C_NoName) (.ref C_NoMake) = some false)
    (kx_NotBroken_NoMake : PySem.W.kitOne K (.ref C_NotBroken) (.ref C_NoMake) = some false)
    (kx_NoMake_NoMake : PySem.W.kitOne K (.ref C_NoMake) (.ref C_NoMake) = some true)
    (kx_NoPage_NoMake : PySem.W.kitOne K (.ref C_NoPage) (.ref C_NoMake) = some false)
    (kx_NoClash_NoMake : PySem.W.kitOne K (.ref C_NoClash) (.ref C_NoMake) = some false)
    (kx_ColumnThere_NoMake : PySem.W.kitOne K (.ref C_ColumnThere) (.ref C_NoMake) = some false)
    (kx_NoColumn_NoMake : PySem.W.kitOne K (.ref C_NoColumn) (.ref C_NoMake) = some false)
    (kx_Unfit_NoMake : PySem.W.kitOne K (.ref C_Unfit) (.ref C_NoMake) = some false)
    (kx_NoRow_NoMake : PySem.W.kitOne K (.ref C_NoRow) (.ref C_NoMake) = some false)
    (kx_NotRising_NoMake : PySem.W.kitOne K (.ref C_NotRising) (.ref C_NoMake) = some false)
    (kx_Unsaved_NoMake : PySem.W.kitOne K (.ref C_Unsaved) (.ref C_NoMake) = some false)
    (kx_BadRow_NoMake : PySem.W.kitOne K (.ref C_BadRow) (.ref C_NoMake) = some false)
    (kx_BadText_NoMake : PySem.W.kitOne K (.ref C_BadText) (.ref C_NoMake) = some false)
    (kx_BadElders_NoMake : PySem.W.kitOne K (.ref C_BadElders) (.ref C_NoMake) = some false)
    (kx_BadWord_NoMake : PySem.W.kitOne K (.ref C_BadWord) (.ref C_NoMake) = some false)
    (kx_BadValue_NoMake : PySem.W.kitOne K (.ref C_BadValue) (.ref C_NoMake) = some false)
    (kx_BadKey_NoMake : PySem.W.kitOne K (.ref C_BadKey) (.ref C_NoMake) = some false)
    (kx_InUse_NoPage : PySem.W.kitOne K (.ref C_InUse) (.ref C_NoPage) = some false)
    (kx_NoName_NoPage : PySem.W.kitOne K (.ref C_NoName) (.ref C_NoPage) = some false)
    (kx_NotBroken_NoPage : PySem.W.kitOne K (.ref C_NotBroken) (.ref C_NoPage) = some false)
    (kx_NoMake_NoPage : PySem.W.kitOne K (.ref C_NoMake) (.ref C_NoPage) = some false)
    (kx_NoPage_NoPage : PySem.W.kitOne K (.ref C_NoPage) (.ref C_NoPage) = some true)
    (kx_NoClash_NoPage : PySem.W.kitOne K (.ref C_NoClash) (.ref C_NoPage) = some false)
    (kx_ColumnThere_NoPage : PySem.W.kitOne K (.ref C_ColumnThere) (.ref C_NoPage) = some false)
    (kx_NoColumn_NoPage : PySem.W.kitOne K (.ref C_NoColumn) (.ref C_NoPage) = some false)
    (kx_Unfit_NoPage : PySem.W.kitOne K (.ref C_Unfit) (.ref C_NoPage) = some false)
    (kx_NoRow_NoPage : PySem.W.kitOne K (.ref C_NoRow) (.ref C_NoPage) = some false)
    (kx_NotRising_NoPage : PySem.W.kitOne K (.ref C_NotRising) (.ref C_NoPage) = some false)
    (kx_Unsaved_NoPage : PySem.W.kitOne K (.ref C_Unsaved) (.ref C_NoPage) = some false)
    (kx_BadRow_NoPage : PySem.W.kitOne K (.ref C_BadRow) (.ref C_NoPage) = some false)
    (kx_BadText_NoPage : PySem.W.kitOne K (.ref C_BadText) (.ref C_NoPage) = some false)
    (kx_BadElders_NoPage : PySem.W.kitOne K (.ref C_BadElders) (.ref C_NoPage) = some false)
    (kx_BadWord_NoPage : PySem.W.kitOne K (.ref C_BadWord) (.ref C_NoPage) = some false)
    (kx_BadValue_NoPage : PySem.W.kitOne K (.ref C_BadValue) (.ref C_NoPage) = some false)
    (kx_BadKey_NoPage : PySem.W.kitOne K (.ref C_BadKey) (.ref C_NoPage) = some false)
    (kx_InUse_NoClash : PySem.W.kitOne K (.ref C_InUse) (.ref C_NoClash) = some false)
    (kx_NoName_NoClash : PySem.W.kitOne K (.ref C_NoName) (.ref C_NoClash) = some false)
    (kx_NotBroken_NoClash : PySem.W.kitOne K (.ref C_NotBroken) (.ref C_NoClash) = some false)
    (kx_NoMake_NoClash : PySem.W.kitOne K (.ref C_NoMake) (.ref C_NoClash) = some false)
    (kx_NoPage_NoClash : PySem.W.kitOne K (.ref C_NoPage) (.ref C_NoClash) = some false)
    (kx_NoClash_NoClash : PySem.W.kitOne K (.ref C_NoClash) (.ref C_NoClash) = some true)
    (kx_ColumnThere_NoClash : PySem.W.kitOne K (.ref C_ColumnThere) (.ref C_NoClash) = some false)
    (kx_NoColumn_NoClash : PySem.W.kitOne K (.ref C_NoColumn) (.ref C_NoClash) = some false)
    (kx_Unfit_NoClash : PySem.W.kitOne K (.ref C_Unfit) (.ref C_NoClash) = some false)
    (kx_NoRow_NoClash : PySem.W.kitOne K (.ref C_NoRow) (.ref C_NoClash) = some false)
    (kx_NotRising_NoClash : PySem.W.kitOne K (.ref C_NotRising) (.ref C_NoClash) = some false)
    (kx_Unsaved_NoClash : PySem.W.kitOne K (.ref C_Unsaved) (.ref C_NoClash) = some false)
    (kx_BadRow_NoClash : PySem.W.kitOne K (.ref C_BadRow) (.ref C_NoClash) = some false)
    (kx_BadText_NoClash : PySem.W.kitOne K (.ref C_BadText) (.ref C_NoClash) = some false)
    (kx_BadElders_NoClash : PySem.W.kitOne K (.ref C_BadElders) (.ref C_NoClash) = some false)
    (kx_BadWord_NoClash : PySem.W.kitOne K (.ref C_BadWord) (.ref C_NoClash) = some false)
    (kx_BadValue_NoClash : PySem.W.kitOne K (.ref C_BadValue) (.ref C_NoClash) = some false)
    (kx_BadKey_NoClash : PySem.W.kitOne K (.ref C_BadKey) (.ref C_NoClash) = some false)
    (kx_InUse_InUse : PySem.W.kitOne K (.ref C_InUse) (.ref C_InUse) = some true)
    (kx_NoName_InUse : PySem.W.kitOne K (.ref C_NoName) (.ref C_InUse) = some false)
    (kx_NotBroken_InUse : PySem.W.kitOne K (.ref C_NotBroken) (.ref C_InUse) = some false)
    (kx_NoMake_InUse : PySem.W.kitOne K (.ref C_NoMake) (.ref C_InUse) = some false)
    (kx_NoPage_InUse : PySem.W.kitOne K (.ref C_NoPage) (.ref C_InUse) = some false)
    (kx_NoClash_InUse : PySem.W.kitOne K (.ref C_NoClash) (.ref C_InUse) = some false)
    (kx_ColumnThere_InUse : PySem.W.kitOne K (.ref C_ColumnThere) (.ref C_InUse) = some false)
    (kx_NoColumn_InUse : PySem.W.kitOne K (.ref C_NoColumn) (.ref C_InUse) = some false)
    (kx_Unfit_InUse : PySem.W.kitOne K (.ref C_Unfit) (.ref C_InUse) = some false)
    (kx_NoRow_InUse : PySem.W.kitOne K (.ref C_NoRow) (.ref C_InUse) = some false)
    (kx_NotRising_InUse : PySem.W.kitOne K (.ref C_NotRising) (.ref C_InUse) = some false)
    (kx_Unsaved_InUse : PySem.W.kitOne K (.ref C_Unsaved) (.ref C_InUse) = some false)
    (kx_BadRow_InUse : PySem.W.kitOne K (.ref C_BadRow) (.ref C_InUse) = some false)
    (kx_BadText_InUse : PySem.W.kitOne K (.ref C_BadText) (.ref C_InUse) = some false)
    (kx_BadElders_InUse : PySem.W.kitOne K (.ref C_BadElders) (.ref C_InUse) = some false)
    (kx_BadWord_InUse : PySem.W.kitOne K (.ref C_BadWord) (.ref C_InUse) = some false)
    (kx_BadValue_InUse : PySem.W.kitOne K (.ref C_BadValue) (.ref C_InUse) = some false)
    (kx_BadKey_InUse : PySem.W.kitOne K (.ref C_BadKey) (.ref C_InUse) = some false)
    (kx_InUse_NoName : PySem.W.kitOne K (.ref C_InUse) (.ref C_NoName) = some false)
    (kx_NoName_NoName : PySem.W.kitOne K (.ref C_NoName) (.ref C_NoName) = some true)
    (kx_NotBroken_NoName : PySem.W.kitOne K (.ref C_NotBroken) (.ref C_NoName) = some false)
    (kx_NoMake_NoName : PySem.W.kitOne K (.ref C_NoMake) (.ref C_NoName) = some false)
    (kx_NoPage_NoName : PySem.W.kitOne K (.ref C_NoPage) (.ref C_NoName) = some false)
    (kx_NoClash_NoName : PySem.W.kitOne K (.ref C_NoClash) (.ref C_NoName) = some false)
    (kx_ColumnThere_NoName : PySem.W.kitOne K (.ref C_ColumnThere) (.ref C_NoName) = some false)
    (kx_NoColumn_NoName : PySem.W.kitOne K (.ref C_NoColumn) (.ref C_NoName) = some false)
    (kx_Unfit_NoName : PySem.W.kitOne K (.ref C_Unfit) (.ref C_NoName) = some false)
    (kx_NoRow_NoName : PySem.W.kitOne K (.ref C_NoRow) (.ref C_NoName) = some false)
    (kx_NotRising_NoName : PySem.W.kitOne K (.ref C_NotRising) (.ref C_NoName) = some false)
    (kx_Unsaved_NoName : PySem.W.kitOne K (.ref C_Unsaved) (.ref C_NoName) = some false)
    (kx_BadRow_NoName : PySem.W.kitOne K (.ref C_BadRow) (.ref C_NoName) = some false)
    (kx_BadText_NoName : PySem.W.kitOne K (.ref C_BadText) (.ref C_NoName) = some false)
    (kx_BadElders_NoName : PySem.W.kitOne K (.ref C_BadElders) (.ref C_NoName) = some false)
    (kx_BadWord_NoName : PySem.W.kitOne K (.ref C_BadWord) (.ref C_NoName) = some false)
    (kx_BadValue_NoName : PySem.W.kitOne K (.ref C_BadValue) (.ref C_NoName) = some false)
    (kx_BadKey_NoName : PySem.W.kitOne K (.ref C_BadKey) (.ref C_NoName) = some false)
    (ky_InUse_ValueError : PySem.W.kitOne K (.ref C_InUse) (.type "ValueError") = some true)
    (ky_NoName_ValueError : PySem.W.kitOne K (.ref C_NoName) (.type "ValueError") = some true)
    (ky_NotBroken_ValueError : PySem.W.kitOne K (.ref C_NotBroken) (.type "ValueError") = some true)
    (ky_NoMake_ValueError : PySem.W.kitOne K (.ref C_NoMake) (.type "ValueError") = some true)
    (ky_NoPage_ValueError : PySem.W.kitOne K (.ref C_NoPage) (.type "ValueError") = some true)
    (ky_NoClash_ValueError : PySem.W.kitOne K (.ref C_NoClash) (.type "ValueError") = some true)
    (ky_ColumnThere_ValueError : PySem.W.kitOne K (.ref C_ColumnThere) (.type "ValueError") = some true)
    (ky_NoColumn_ValueError : PySem.W.kitOne K (.ref C_NoColumn) (.type "ValueError") = some true)
    (ky_Unfit_ValueError : PySem.W.kitOne K (.ref C_Unfit) (.type "ValueError") = some true)
    (ky_NoRow_ValueError : PySem.W.kitOne K (.ref C_NoRow) (.type "ValueError") = some true)
    (ky_NotRising_ValueError : PySem.W.kitOne K (.ref C_NotRising) (.type "ValueError") = some true)
    (ky_Unsaved_ValueError : PySem.W.kitOne K (.ref C_Unsaved) (.type "ValueError") = some true)
    (ky_BadRow_ValueError : PySem.W.kitOne K (.ref C_BadRow) (.type "ValueError") = some true)
    (ky_BadText_ValueError : PySem.W.kitOne K (.ref C_BadText) (.type "ValueError") = some true)
    (ky_BadElders_ValueError : PySem.W.kitOne K (.ref C_BadElders) (.type "ValueError") = some true)
    (ky_BadWord_ValueError : PySem.W.kitOne K (.ref C_BadWord) (.type "ValueError") = some true)
    (ky_BadValue_ValueError : PySem.W.kitOne K (.ref C_BadValue) (.type "ValueError") = some true)
    (ky_BadKey_ValueError : PySem.W.kitOne K (.ref C_BadKey) (.type "ValueError") = some true)
    (z_ValueError : PySem.W.nsIn K mainGlobals "ValueError" = some none)
    (z_bool : PySem.W.nsIn K mainGlobals "bool" = some none)
    (z_int : PySem.W.nsIn K mainGlobals "int" = some none)
    (z_isinstance : PySem.W.nsIn K mainGlobals "isinstance" = some none)
    (z_len : PySem.W.nsIn K mainGlobals "len" = some none)
    (z_range : PySem.W.nsIn K mainGlobals "range" = some none)
    (z_str : PySem.W.nsIn K mainGlobals "str" = some none)
    : Txt K mg ∧ Top K mg "_law_cell_at" s_l_cell_at ["_law_script", "_law_k"] ∧ Top K mg "_law_mix" s_l_mix ["_law_cell", "_law_k"] ∧ Top K mg "_law_letters" s_l_letters ["_law_cell"] ∧ Top K mg "_law_key" s_l_key ["_law_cell"] ∧ Top K mg "_law_classes" s_l_classes ["_law_e"] ∧ Top K mg "_law_same" s_l_same ["_law_found", "_law_due"] ∧ Top K mg "_law_tells" s_l_tells ["_law_e", "_law_key_here", "_law_column", "_law_number", "_law_word"] ∧ Top K mg "_law_good" s_l_good ["_law_k", "_law_key_here", "_law_column", "_law_number", "_law_word"] ∧ Top K mg "law" s_law ["_law_script"] ∧ Top K mg "_law_raise" s_l_raise ["_law_k", "_law_key_here", "_law_column", "_law_number", "_law_word"] ∧ Top K mg "_law_raise_plain" s_l_raise_plain ["_law_k"] ∧ TopE K mg "NotRising" "NotRising.__init__" s_NotRising_init ["self", "key"] ["key"] ∧ TopE K mg "NoRow" "NoRow.__init__" s_NoRow_init ["self", "key"] ["key"] ∧ TopE K mg "Unfit" "Unfit.__init__" s_Unfit_init ["self", "key"] ["key"] ∧ TopE K mg "NoColumn" "NoColumn.__init__" s_NoColumn_init ["self", "column"] ["column"] ∧ TopE K mg "ColumnThere" "ColumnThere.__init__" s_ColumnThere_init ["self", "column"] ["column"] ∧ TopE K mg "NoClash" "NoClash.__init__" s_NoClash_init ["self", "key", "column"] ["key", "column"] ∧ TopE K mg "NoPage" "NoPage.__init__" s_NoPage_init ["self", "number"] ["number"] ∧ TopE K mg "NoMake" "NoMake.__init__" s_NoMake_init ["self", "number"] ["number"] ∧ TopE K mg "NotBroken" "NotBroken.__init__" s_NotBroken_init ["self", "number"] ["number"] ∧ TopE K mg "NoName" "NoName.__init__" s_NoName_init ["self", "word"] ["word"] ∧ TopE K mg "InUse" "InUse.__init__" s_InUse_init ["self", "word"] ["word"] := by
  refine ⟨⟨xc0_mk X G ac_BadKey ex_BadKey e2_BadKey e3_BadKey e4_BadKey, xc0_mk X G ac_BadValue ex_BadValue e2_BadValue e3_BadValue e4_BadValue, xc0_mk X G ac_BadWord ex_BadWord e2_BadWord e3_BadWord e4_BadWord, xc0_mk X G ac_BadElders ex_BadElders e2_BadElders e3_BadElders e4_BadElders, xc0_mk X G ac_BadText ex_BadText e2_BadText e3_BadText e4_BadText, xc0_mk X G ac_BadRow ex_BadRow e2_BadRow e3_BadRow e4_BadRow, xc0_mk X G ac_Unsaved ex_Unsaved e2_Unsaved e3_Unsaved e4_Unsaved, xcK_mk X G ac_InUse, xcK_mk X G ac_NoName, xcK_mk X G ac_NotBroken, xcK_mk X G ac_NoMake, xcK_mk X G ac_NoPage, xcK_mk X G ac_NoClash, xcK_mk X G ac_ColumnThere, xcK_mk X G ac_NoColumn, xcK_mk X G ac_Unfit, xcK_mk X G ac_NoRow, xcK_mk X G ac_NotRising, xcK_mk X G ac_Unsaved, xcK_mk X G ac_BadRow, xcK_mk X G ac_BadText, xcK_mk X G ac_BadElders, xcK_mk X G ac_BadWord, xcK_mk X G ac_BadValue, xcK_mk X G ac_BadKey, ⟨_, PySem.W.mg_of X G ac_BadElders⟩, ⟨_, PySem.W.mg_of X G ac_BadWord⟩, ⟨_, PySem.W.mg_of X G ac_BadValue⟩, ⟨_, PySem.W.mg_of X G ac_BadKey⟩, ⟨_, PySem.W.mg_of X G ac_NotRising⟩, ⟨_, PySem.W.mg_of X G ac_Unsaved⟩, ⟨_, PySem.W.mg_of X G ac_BadRow⟩, ⟨_, PySem.W.mg_of X G ac_BadText⟩, ⟨_, PySem.W.mg_of X G ac_ColumnThere⟩, ⟨_, PySem.W.mg_of X G ac_NoColumn⟩, ⟨_, PySem.W.mg_of X G ac_Unfit⟩, ⟨_, PySem.W.mg_of X G ac_NoRow⟩, ⟨_, PySem.W.mg_of X G ac_NotBroken⟩, ⟨_, PySem.W.mg_of X G ac_NoMake⟩, ⟨_, PySem.W.mg_of X G ac_NoPage⟩, ⟨_, PySem.W.mg_of X G ac_NoClash⟩, ⟨_, PySem.W.mg_of X G ac_InUse⟩, ⟨_, PySem.W.mg_of X G ac_NoName⟩, ⟨_, PySem.W.mg_of X G ac_TableError⟩, xcP_mk X G ac_BadKey ac_TableError e3_TableError hd_TableError e4_TableError sx_BadKey_TableError, xcP_mk X G ac_BadValue ac_TableError e3_TableError hd_TableError e4_TableError sx_BadValue_TableError, xcP_mk X G ac_BadWord ac_TableError e3_TableError hd_TableError e4_TableError sx_BadWord_TableError, xcP_mk X G ac_BadElders ac_TableError e3_TableError hd_TableError e4_TableError sx_BadElders_TableError, xcP_mk X G ac_BadText ac_TableError e3_TableError hd_TableError e4_TableError sx_BadText_TableError, xcP_mk X G ac_BadRow ac_TableError e3_TableError hd_TableError e4_TableError sx_BadRow_TableError, xcP_mk X G ac_Unsaved ac_TableError e3_TableError hd_TableError e4_TableError sx_Unsaved_TableError, xcP_mk X G ac_NotRising ac_TableError e3_TableError hd_TableError e4_TableError sx_NotRising_TableError, xcP_mk X G ac_NoRow ac_TableError e3_TableError hd_TableError e4_TableError sx_NoRow_TableError, xcP_mk X G ac_Unfit ac_TableError e3_TableError hd_TableError e4_TableError sx_Unfit_TableError, xcP_mk X G ac_NoColumn ac_TableError e3_TableError hd_TableError e4_TableError sx_NoColumn_TableError, xcP_mk X G ac_ColumnThere ac_TableError e3_TableError hd_TableError e4_TableError sx_ColumnThere_TableError, xcP_mk X G ac_NoClash ac_TableError e3_TableError hd_TableError e4_TableError sx_NoClash_TableError, xcP_mk X G ac_NoPage ac_TableError e3_TableError hd_TableError e4_TableError sx_NoPage_TableError, xcP_mk X G ac_NoMake ac_TableError e3_TableError hd_TableError e4_TableError sx_NoMake_TableError, xcP_mk X G ac_NotBroken ac_TableError e3_TableError hd_TableError e4_TableError sx_NotBroken_TableError, xcP_mk X G ac_NoName ac_TableError e3_TableError hd_TableError e4_TableError sx_NoName_TableError, xcP_mk X G ac_InUse ac_TableError e3_TableError hd_TableError e4_TableError sx_InUse_TableError, xcI_mk X G ac_InUse ac_BadElders (excQ_mk ga_InUse gg_InUse e3_InUse hd_InUse k1_InUse kg_ kt_ k4_InUse) kx_InUse_BadElders, xcI_mk X G ac_NoName ac_BadElders (excQ_mk ga_NoName gg_NoName e3_NoName hd_NoName k1_NoName kg_ kt_ k4_NoName) kx_NoName_BadElders, xcI_mk X G ac_NotBroken ac_BadElders (excQ_mk ga_NotBroken gg_NotBroken e3_NotBroken hd_NotBroken k1_NotBroken kg_ kt_ k4_NotBroken) kx_NotBroken_BadElders, xcI_mk X G ac_NoMake ac_BadElders (excQ_mk ga_NoMake gg_NoMake e3_NoMake hd_NoMake k1_NoMake kg_ kt_ k4_NoMake) kx_NoMake_BadElders, xcI_mk X G ac_NoPage ac_BadElders (excQ_mk ga_NoPage gg_NoPage e3_NoPage hd_NoPage k1_NoPage kg_ kt_ k4_NoPage) kx_NoPage_BadElders, xcI_mk X G ac_NoClash ac_BadElders (excQ_mk ga_NoClash gg_NoClash e3_NoClash hd_NoClash k1_NoClash kg_ kt_ k4_NoClash) kx_NoClash_BadElders, xcI_mk X G ac_ColumnThere ac_BadElders (excQ_mk ga_ColumnThere gg_ColumnThere e3_ColumnThere hd_ColumnThere k1_ColumnThere kg_ kt_ k4_ColumnThere) kx_ColumnThere_BadElders, xcI_mk X G ac_NoColumn ac_BadElders (excQ_mk ga_NoColumn gg_NoColumn e3_NoColumn hd_NoColumn k1_NoColumn kg_ kt_ k4_NoColumn) kx_NoColumn_BadElders, xcI_mk X G ac_Unfit ac_BadElders (excQ_mk ga_Unfit gg_Unfit e3_Unfit hd_Unfit k1_Unfit kg_ kt_ k4_Unfit) kx_Unfit_BadElders, xcI_mk X G ac_NoRow ac_BadElders (excQ_mk ga_NoRow gg_NoRow e3_NoRow hd_NoRow k1_NoRow kg_ kt_ k4_NoRow) kx_NoRow_BadElders, xcI_mk X G ac_NotRising ac_BadElders (excQ_mk ga_NotRising gg_NotRising e3_NotRising hd_NotRising k1_NotRising kg_ kt_ k4_NotRising) kx_NotRising_BadElders, xcI_mk X G ac_Unsaved ac_BadElders (excQ_mk ga_Unsaved gg_Unsaved e3_Unsaved hd_Unsaved k1_Unsaved kg_ kt_ k4_Unsaved) kx_Unsaved_BadElders, xcI_mk X G ac_BadRow ac_BadElders (excQ_mk ga_BadRow gg_BadRow e3_BadRow hd_BadRow k1_BadRow kg_ kt_ k4_BadRow) kx_BadRow_BadElders, xcI_mk X G ac_BadText ac_BadElders (excQ_mk ga_BadText gg_BadText e3_BadText hd_BadText k1_BadText kg_ kt_ k4_BadText) kx_BadText_BadElders, xcI_mk X G ac_BadElders ac_BadElders (excQ_mk ga_BadElders gg_BadElders e3_BadElders hd_BadElders k1_BadElders kg_ kt_ k4_BadElders) kx_BadElders_BadElders, xcI_mk X G ac_BadWord ac_BadElders (excQ_mk ga_BadWord gg_BadWord e3_BadWord hd_BadWord k1_BadWord kg_ kt_ k4_BadWord) kx_BadWord_BadElders, xcI_mk X G ac_BadValue ac_BadElders (excQ_mk ga_BadValue gg_BadValue e3_BadValue hd_BadValue k1_BadValue kg_ kt_ k4_BadValue) kx_BadValue_BadElders, xcI_mk X G ac_BadKey ac_BadElders (excQ_mk ga_BadKey gg_BadKey e3_BadKey hd_BadKey k1_BadKey kg_ kt_ k4_BadKey) kx_BadKey_BadElders, xcI_mk X G ac_InUse ac_BadWord (excQ_mk ga_InUse gg_InUse e3_InUse hd_InUse k1_InUse kg_ kt_ k4_InUse) kx_InUse_BadWord, xcI_mk X G ac_NoName ac_BadWord (excQ_mk ga_NoName gg_NoName e3_NoName hd_NoName k1_NoName kg_ kt_ k4_NoName) kx_NoName_BadWord, xcI_mk X G ac_NotBroken ac_BadWord (excQ_mk ga_NotBroken gg_NotBroken e3_NotBroken hd_NotBroken k1_NotBroken kg_ kt_ k4_NotBroken) kx_NotBroken_BadWord, xcI_mk X G ac_NoMake ac_BadWord (excQ_mk ga_NoMake gg_NoMake e3_NoMake hd_NoMake k1_NoMake kg_ kt_ k4_NoMake) kx_NoMake_BadWord, xcI_mk X G ac_NoPage ac_BadWord (excQ_mk ga_NoPage gg_NoPage e3_NoPage hd_NoPage k1_NoPage kg_ kt_ k4_NoPage) kx_NoPage_BadWord, xcI_mk X G ac_NoClash ac_BadWord (excQ_mk ga_NoClash gg_NoClash e3_NoClash hd_NoClash k1_NoClash kg_ kt_ k4_NoClash) kx_NoClash_BadWord, xcI_mk X G ac_ColumnThere ac_BadWord (excQ_mk ga_ColumnThere gg_ColumnThere e3_ColumnThere hd_ColumnThere k1_ColumnThere kg_ kt_ k4_ColumnThere) kx_ColumnThere_BadWord, xcI_mk X G ac_NoColumn ac_BadWord (excQ_mk ga_NoColumn gg_NoColumn e3_NoColumn hd_NoColumn k1_NoColumn kg_ kt_ k4_NoColumn) kx_NoColumn_BadWord, xcI_mk X G ac_Unfit ac_BadWord (excQ_mk ga_Unfit gg_Unfit e3_Unfit hd_Unfit k1_Unfit kg_ kt_ k4_Unfit) kx_Unfit_BadWord, xcI_mk X G ac_NoRow ac_BadWord (excQ_mk ga_NoRow gg_NoRow e3_NoRow hd_NoRow k1_NoRow kg_ kt_ k4_NoRow) kx_NoRow_BadWord, xcI_mk X G ac_NotRising ac_BadWord (excQ_mk ga_NotRising gg_NotRising e3_NotRising hd_NotRising k1_NotRising kg_ kt_ k4_NotRising) kx_NotRising_BadWord, xcI_mk X G ac_Unsaved ac_BadWord (excQ_mk ga_Unsaved gg_Unsaved e3_Unsaved hd_Unsaved k1_Unsaved kg_ kt_ k4_Unsaved) kx_Unsaved_BadWord, xcI_mk X G ac_BadRow ac_BadWord (excQ_mk ga_BadRow gg_BadRow e3_BadRow hd_BadRow k1_BadRow kg_ kt_ k4_BadRow) kx_BadRow_BadWord, xcI_mk X G ac_BadText ac_BadWord (excQ_mk ga_BadText gg_BadText e3_BadText hd_BadText k1_BadText kg_ kt_ k4_BadText) kx_BadText_BadWord, xcI_mk X G ac_BadElders ac_BadWord (excQ_mk ga_BadElders gg_BadElders e3_BadElders hd_BadElders k1_BadElders kg_ kt_ k4_BadElders) kx_BadElders_BadWord, xcI_mk X G ac_BadWord ac_BadWord (excQ_mk ga_BadWord gg_BadWord e3_BadWord hd_BadWord k1_BadWord kg_ kt_ k4_BadWord) kx_BadWord_BadWord, xcI_mk X G ac_BadValue ac_BadWord (excQ_mk ga_BadValue gg_BadValue e3_BadValue hd_BadValue k1_BadValue kg_ kt_ k4_BadValue) kx_BadValue_BadWord, xcI_mk X G ac_BadKey ac_BadWord (excQ_mk ga_BadKey gg_BadKey e3_BadKey hd_BadKey k1_BadKey kg_ kt_ k4_BadKey) kx_BadKey_BadWord, xcI_mk X G ac_InUse ac_BadValue (excQ_mk ga_InUse gg_InUse e3_InUse hd_InUse k1_InUse kg_ kt_ k4_InUse) kx_InUse_BadValue, xcI_mk X G ac_NoName ac_BadValue (excQ_mk ga_NoName gg_NoName e3_NoName hd_NoName k1_NoName kg_ kt_ k4_NoName) kx_NoName_BadValue, xcI_mk X G ac_NotBroken ac_BadValue (excQ_mk ga_NotBroken gg_NotBroken e3_NotBroken hd_NotBroken k1_NotBroken kg_ kt_ k4_NotBroken) kx_NotBroken_BadValue, xcI_mk X G ac_NoMake ac_BadValue (excQ_mk ga_NoMake gg_NoMake e3_NoMake hd_NoMake k1_NoMake kg_ kt_ k4_NoMake) kx_NoMake_BadValue, xcI_mk X G ac_NoPage ac_BadValue (excQ_mk ga_NoPage gg_NoPage e3_NoPage hd_NoPage k1_NoPage kg_ kt_ k4_NoPage) kx_NoPage_BadValue, xcI_mk X G ac_NoClash ac_BadValue (excQ_mk ga_NoClash gg_NoClash e3_NoClash hd_NoClash k1_NoClash kg_ kt_ k4_NoClash) kx_NoClash_BadValue, xcI_mk X G ac_ColumnThere ac_BadValue (excQ_mk ga_ColumnThere gg_ColumnThere e3_ColumnThere hd_ColumnThere k1_ColumnThere kg_ kt_ k4_ColumnThere) kx_ColumnThere_BadValue, xcI_mk X G ac_NoColumn ac_BadValue (excQ_mk ga_NoColumn gg_NoColumn e3_NoColumn hd_NoColumn k1_NoColumn kg_ kt_ k4_NoColumn) kx_NoColumn_BadValue, xcI_mk X G ac_Unfit ac_BadValue (excQ_mk ga_Unfit gg_Unfit e3_Unfit hd_Unfit k1_Unfit kg_ kt_ k4_Unfit) kx_Unfit_BadValue, xcI_mk X G ac_NoRow ac_BadValue (excQ_mk ga_NoRow gg_NoRow e3_NoRow hd_NoRow k1_NoRow kg_ kt_ k4_NoRow) kx_NoRow_BadValue, xcI_mk X G ac_NotRising ac_BadValue (excQ_mk ga_NotRising gg_NotRising e3_NotRising hd_NotRising k1_NotRising kg_ kt_ k4_NotRising) kx_NotRising_BadValue, xcI_mk X G ac_Unsaved ac_BadValue (excQ_mk ga_Unsaved gg_Unsaved e3_Unsaved hd_Unsaved k1_Unsaved kg_ kt_ k4_Unsaved) kx_Unsaved_BadValue, xcI_mk X G ac_BadRow ac_BadValue (excQ_mk ga_BadRow gg_BadRow e3_BadRow hd_BadRow k1_BadRow kg_ kt_ k4_BadRow) kx_BadRow_BadValue, xcI_mk X G ac_BadText ac_BadValue (excQ_mk ga_BadText gg_BadText e3_BadText hd_BadText k1_BadText kg_ kt_ k4_BadText) kx_BadText_BadValue, xcI_mk X G ac_BadElders ac_BadValue (excQ_mk ga_BadElders gg_BadElders e3_BadElders hd_BadElders k1_BadElders kg_ kt_ k4_BadElders) kx_BadElders_BadValue, xcI_mk X G ac_BadWord ac_BadValue (excQ_mk ga_BadWord gg_BadWord e3_BadWord hd_BadWord k1_BadWord kg_ kt_ k4_BadWord) kx_BadWord_BadValue, xcI_mk X G ac_BadValue ac_BadValue (excQ_mk ga_BadValue gg_BadValue e3_BadValue hd_BadValue k1_BadValue kg_ kt_ k4_BadValue) kx_BadValue_BadValue, xcI_mk X G ac_BadKey ac_BadValue (excQ_mk ga_BadKey gg_BadKey e3_BadKey hd_BadKey k1_BadKey kg_ kt_ k4_BadKey) kx_BadKey_BadValue, xcI_mk X G ac_InUse ac_BadKey (excQ_mk ga_InUse gg_InUse e3_InUse hd_InUse k1_InUse kg_ kt_ k4_InUse) kx_InUse_BadKey, xcI_mk X G ac_NoName ac_BadKey (excQ_mk ga_NoName gg_NoName e3_NoName hd_NoName k1_NoName kg_ kt_ k4_NoName) kx_NoName_BadKey, xcI_mk X G ac_NotBroken ac_BadKey (excQ_mk ga_NotBroken gg_NotBroken e3_NotBroken hd_NotBroken k1_NotBroken kg_ kt_ k4_NotBroken) kx_NotBroken_BadKey, xcI_mk X G ac_NoMake ac_BadKey (excQ_mk ga_NoMake gg_NoMake e3_NoMake hd_NoMake k1_NoMake kg_ kt_ k4_NoMake) kx_NoMake_BadKey, xcI_mk X G ac_NoPage ac_BadKey (excQ_mk ga_NoPage gg_NoPage e3_NoPage hd_NoPage k1_NoPage kg_ kt_ k4_NoPage) kx_NoPage_BadKey, xcI_mk X G ac_NoClash ac_BadKey (excQ_mk ga_NoClash gg_NoClash e3_NoClash hd_NoClash k1_NoClash kg_ kt_ k4_NoClash) kx_NoClash_BadKey, xcI_mk X G ac_ColumnThere ac_BadKey (excQ_mk ga_ColumnThere gg_ColumnThere e3_ColumnThere hd_ColumnThere k1_ColumnThere kg_ kt_ k4_ColumnThere) kx_ColumnThere_BadKey, xcI_mk X G ac_NoColumn ac_BadKey (excQ_mk ga_NoColumn gg_NoColumn e3_NoColumn hd_NoColumn k1_NoColumn kg_ kt_ k4_NoColumn) kx_NoColumn_BadKey, xcI_mk X G ac_Unfit ac_BadKey (excQ_mk ga_Unfit gg_Unfit e3_Unfit hd_Unfit k1_Unfit kg_ kt_ k4_Unfit) kx_Unfit_BadKey, xcI_mk X G ac_NoRow ac_BadKey (excQ_mk ga_NoRow gg_NoRow e3_NoRow hd_NoRow k1_NoRow kg_ kt_ k4_NoRow) kx_NoRow_BadKey, xcI_mk X G ac_NotRising ac_BadKey (excQ_mk ga_NotRising gg_NotRising e3_NotRising hd_NotRising k1_NotRising kg_ kt_ k4_NotRising) kx_NotRising_BadKey, xcI_mk X G ac_Unsaved ac_BadKey (excQ_mk ga_Unsaved gg_Unsaved e3_Unsaved hd_Unsaved k1_Unsaved kg_ kt_ k4_Unsaved) kx_Unsaved_BadKey, xcI_mk X G ac_BadRow ac_BadKey (excQ_mk ga_BadRow gg_BadRow e3_BadRow hd_BadRow k1_BadRow kg_ kt_ k4_BadRow) kx_BadRow_BadKey, xcI_mk X G ac_BadText ac_BadKey (excQ_mk ga_BadText gg_BadText e3_BadText hd_BadText k1_BadText kg_ kt_ k4_BadText) kx_BadText_BadKey, xcI_mk X G ac_BadElders ac_BadKey (excQ_mk ga_BadElders gg_BadElders e3_BadElders hd_BadElders k1_BadElders kg_ kt_ k4_BadElders) kx_BadElders_BadKey, xcI_mk X G ac_BadWord ac_BadKey (excQ_mk ga_BadWord gg_BadWord e3_BadWord hd_BadWord k1_BadWord kg_ kt_ k4_BadWord) kx_BadWord_BadKey, xcI_mk X G ac_BadValue ac_BadKey (excQ_mk ga_BadValue gg_BadValue e3_BadValue hd_BadValue k1_BadValue kg_ kt_ k4_BadValue) kx_BadValue_BadKey, xcI_mk X G ac_BadKey ac_BadKey (excQ_mk ga_BadKey gg_BadKey e3_BadKey hd_BadKey k1_BadKey kg_ kt_ k4_BadKey) kx_BadKey_BadKey, xcI_mk X G ac_InUse ac_NotRising (excQ_mk ga_InUse gg_InUse e3_InUse hd_InUse k1_InUse kg_ kt_ k4_InUse) kx_InUse_NotRising, xcI_mk X G ac_NoName ac_NotRising (excQ_mk ga_NoName gg_NoName e3_NoName hd_NoName k1_NoName kg_ kt_ k4_NoName) kx_NoName_NotRising, xcI_mk X G ac_NotBroken ac_NotRising (excQ_mk ga_NotBroken gg_NotBroken e3_NotBroken hd_NotBroken k1_NotBroken kg_ kt_ k4_NotBroken) kx_NotBroken_NotRising, xcI_mk X G ac_NoMake ac_NotRising (excQ_mk ga_NoMake gg_NoMake e3_NoMake hd_NoMake k1_NoMake kg_ kt_ k4_NoMake) kx_NoMake_NotRising, xcI_mk X G ac_NoPage ac_NotRising (excQ_mk ga_NoPage gg_NoPage e3_NoPage hd_NoPage k1_NoPage kg_ kt_ k4_NoPage) kx_NoPage_NotRising, xcI_mk X G ac_NoClash ac_NotRising (excQ_mk ga_NoClash gg_NoClash e3_NoClash hd_NoClash k1_NoClash kg_ kt_ k4_NoClash) kx_NoClash_NotRising, xcI_mk X G ac_ColumnThere ac_NotRising (excQ_mk ga_ColumnThere gg_ColumnThere e3_ColumnThere hd_ColumnThere k1_ColumnThere kg_ kt_ k4_ColumnThere) kx_ColumnThere_NotRising, xcI_mk X G ac_NoColumn ac_NotRising (excQ_mk ga_NoColumn gg_NoColumn e3_NoColumn hd_NoColumn k1_NoColumn kg_ kt_ k4_NoColumn) kx_NoColumn_NotRising, xcI_mk X G ac_Unfit ac_NotRising (excQ_mk ga_Unfit gg_Unfit e3_Unfit hd_Unfit k1_Unfit kg_ kt_ k4_Unfit) kx_Unfit_NotRising, xcI_mk X G ac_NoRow ac_NotRising (excQ_mk ga_NoRow gg_NoRow e3_NoRow hd_NoRow k1_NoRow kg_ kt_ k4_NoRow) kx_NoRow_NotRising, xcI_mk X G ac_NotRising ac_NotRising (excQ_mk ga_NotRising gg_NotRising e3_NotRising hd_NotRising k1_NotRising kg_ kt_ k4_NotRising) kx_NotRising_NotRising, xcI_mk X G ac_Unsaved ac_NotRising (excQ_mk ga_Unsaved gg_Unsaved e3_Unsaved hd_Unsaved k1_Unsaved kg_ kt_ k4_Unsaved) kx_Unsaved_NotRising, xcI_mk X G ac_BadRow ac_NotRising (excQ_mk ga_BadRow gg_BadRow e3_BadRow hd_BadRow k1_BadRow kg_ kt_ k4_BadRow) kx_BadRow_NotRising, xcI_mk X G ac_BadText ac_NotRising (excQ_mk ga_BadText gg_BadText e3_BadText hd_BadText k1_BadText kg_ kt_ k4_BadText) kx_BadText_NotRising, xcI_mk X G ac_BadElders ac_NotRising (excQ_mk ga_BadElders gg_BadElders e3_BadElders hd_BadElders k1_BadElders kg_ kt_ k4_BadElders) kx_BadElders_NotRising, xcI_mk X G ac_BadWord ac_NotRising (excQ_mk ga_BadWord gg_BadWord e3_BadWord hd_BadWord k1_BadWord kg_ kt_ k4_BadWord) kx_BadWord_NotRising, xcI_mk X G ac_BadValue ac_NotRising (excQ_mk ga_BadValue gg_BadValue e3_BadValue hd_BadValue k1_BadValue kg_ kt_ k4_BadValue) kx_BadValue_NotRising, xcI_mk X G ac_BadKey ac_NotRising (excQ_mk ga_BadKey gg_BadKey e3_BadKey hd_BadKey k1_BadKey kg_ kt_ k4_BadKey) kx_BadKey_NotRising, xcI_mk X G ac_InUse ac_Unsaved (excQ_mk ga_InUse gg_InUse e3_InUse hd_InUse k1_InUse kg_ kt_ k4_InUse) kx_InUse_Unsaved, xcI_mk X G ac_NoName ac_Unsaved (excQ_mk ga_NoName gg_NoName e3_NoName hd_NoName k1_NoName kg_ kt_ k4_NoName) kx_NoName_Unsaved, xcI_mk X G ac_NotBroken ac_Unsaved (excQ_mk ga_NotBroken gg_NotBroken e3_NotBroken hd_NotBroken k1_NotBroken kg_ kt_ k4_NotBroken) kx_NotBroken_Unsaved, xcI_mk X G ac_NoMake ac_Unsaved (excQ_mk ga_NoMake gg_NoMake e3_NoMake hd_NoMake k1_NoMake kg_ kt_ k4_NoMake) kx_NoMake_Unsaved, xcI_mk X G ac_NoPage ac_Unsaved (excQ_mk ga_NoPage gg_NoPage e3_NoPage hd_NoPage k1_NoPage kg_ kt_ k4_NoPage) kx_NoPage_Unsaved, xcI_mk X G ac_NoClash ac_Unsaved (excQ_mk ga_NoClash gg_NoClash e3_NoClash hd_NoClash k1_NoClash kg_ kt_ k4_NoClash) kx_NoClash_Unsaved, xcI_mk X G ac_ColumnThere ac_Unsaved (excQ_mk ga_ColumnThere gg_ColumnThere e3_ColumnThere hd_ColumnThere k1_ColumnThere kg_ kt_ k4_ColumnThere) kx_ColumnThere_Unsaved, xcI_mk X G ac_NoColumn ac_Unsaved (excQ_mk ga_NoColumn gg_NoColumn e3_NoColumn hd_NoColumn k1_NoColumn kg_ kt_ k4_NoColumn) kx_NoColumn_Unsaved, xcI_mk X G ac_Unfit ac_Unsaved (excQ_mk ga_Unfit gg_Unfit e3_Unfit hd_Unfit k1_Unfit kg_ kt_ k4_Unfit) kx_Unfit_Unsaved, xcI_mk X G ac_NoRow ac_Unsaved (excQ_mk ga_NoRow gg_NoRow e3_NoRow hd_NoRow k1_NoRow kg_ kt_ k4_NoRow) kx_NoRow_Unsaved, xcI_mk X G ac_NotRising ac_Unsaved (excQ_mk ga_NotRising gg_NotRising e3_NotRising hd_NotRising k1_NotRising kg_ kt_ k4_NotRising) kx_NotRising_Unsaved, xcI_mk X G ac_Unsaved ac_Unsaved (excQ_mk ga_Unsaved gg_Unsaved e3_Unsaved hd_Unsaved k1_Unsaved kg_ kt_ k4_Unsaved) kx_Unsaved_Unsaved, xcI_mk X G ac_BadRow ac_Unsaved (excQ_mk ga_BadRow gg_BadRow e3_BadRow hd_BadRow k1_BadRow kg_ kt_ k4_BadRow) kx_BadRow_Unsaved, xcI_mk X G ac_BadText ac_Unsaved (excQ_mk ga_BadText gg_BadText e3_BadText hd_BadText k1_BadText kg_ kt_ k4_BadText) kx_BadText_Unsaved, xcI_mk X G ac_BadElders ac_Unsaved (excQ_mk ga_BadElders gg_BadElders e3_BadElders hd_BadElders k1_BadElders kg_ kt_ k4_BadElders) kx_BadElders_Unsaved, xcI_mk X G ac_BadWord ac_Unsaved (excQ_mk ga_BadWord gg_BadWord e3_BadWord hd_BadWord k1_BadWord kg_ kt_ k4_BadWord) kx_BadWord_Unsaved, xcI_mk X G ac_BadValue ac_Unsaved (excQ_mk ga_BadValue gg_BadValue e3_BadValue hd_BadValue k1_BadValue kg_ kt_ k4_BadValue) kx_BadValue_Unsaved, xcI_mk X G ac_BadKey ac_Unsaved (excQ_mk ga_BadKey gg_BadKey e3_BadKey hd_BadKey k1_BadKey kg_ kt_ k4_BadKey) kx_BadKey_Unsaved, xcI_mk X G ac_InUse ac_BadRow (excQ_mk ga_InUse gg_InUse e3_InUse hd_InUse k1_InUse kg_ kt_ k4_InUse) kx_InUse_BadRow, xcI_mk X G ac_NoName ac_BadRow (excQ_mk ga_NoName gg_NoName e3_NoName hd_NoName k1_NoName kg_ kt_ k4_NoName) kx_NoName_BadRow, xcI_mk X G ac_NotBroken ac_BadRow (excQ_mk ga_NotBroken gg_NotBroken e3_NotBroken hd_NotBroken k1_NotBroken kg_ kt_ k4_NotBroken) kx_NotBroken_BadRow, xcI_mk X G ac_NoMake ac_BadRow (excQ_mk ga_NoMake gg_NoMake e3_NoMake hd_NoMake k1_NoMake kg_ kt_ k4_NoMake) kx_NoMake_BadRow, xcI_mk X G ac_NoPage ac_BadRow (excQ_mk ga_NoPage gg_NoPage e3_NoPage hd_NoPage k1_NoPage kg_ kt_ k4_NoPage) kx_NoPage_BadRow, xcI_mk X G ac_NoClash ac_BadRow (excQ_mk ga_NoClash gg_NoClash e3_NoClash hd_NoClash k1_NoClash kg_ kt_ k4_NoClash) kx_NoClash_BadRow, xcI_mk X G ac_ColumnThere ac_BadRow (excQ_mk ga_ColumnThere gg_ColumnThere e3_ColumnThere hd_ColumnThere k1_ColumnThere kg_ kt_ k4_ColumnThere) kx_ColumnThere_BadRow, xcI_mk X G ac_NoColumn ac_BadRow (excQ_mk ga_NoColumn gg_NoColumn e3_NoColumn hd_NoColumn k1_NoColumn kg_ kt_ k4_NoColumn) kx_NoColumn_BadRow, xcI_mk X G ac_Unfit ac_BadRow (excQ_mk ga_Unfit gg_Unfit e3_Unfit hd_Unfit k1_Unfit kg_ kt_ k4_Unfit) kx_Unfit_BadRow, xcI_mk X G ac_NoRow ac_BadRow (excQ_mk ga_NoRow gg_NoRow e3_NoRow hd_NoRow k1_NoRow kg_ kt_ k4_NoRow) kx_NoRow_BadRow, xcI_mk X G ac_NotRising ac_BadRow (excQ_mk ga_NotRising gg_NotRising e3_NotRising hd_NotRising k1_NotRising kg_ kt_ k4_NotRising) kx_NotRising_BadRow, xcI_mk X G ac_Unsaved ac_BadRow (excQ_mk ga_Unsaved gg_Unsaved e3_Unsaved hd_Unsaved k1_Unsaved kg_ kt_ k4_Unsaved) kx_Unsaved_BadRow, xcI_mk X G ac_BadRow ac_BadRow (excQ_mk ga_BadRow gg_BadRow e3_BadRow hd_BadRow k1_BadRow kg_ kt_ k4_BadRow) kx_BadRow_BadRow, xcI_mk X G ac_BadText ac_BadRow (excQ_mk ga_BadText gg_BadText e3_BadText hd_BadText k1_BadText kg_ kt_ k4_BadText) kx_BadText_BadRow, xcI_mk X G ac_BadElders ac_BadRow (excQ_mk ga_BadElders gg_BadElders e3_BadElders hd_BadElders k1_BadElders kg_ kt_ k4_BadElders) kx_BadElders_BadRow, xcI_mk X G ac_BadWord ac_BadRow (excQ_mk ga_BadWord gg_BadWord e3_BadWord hd_BadWord k1_BadWord kg_ kt_ k4_BadWord) kx_BadWord_BadRow, xcI_mk X G ac_BadValue ac_BadRow (excQ_mk ga_BadValue gg_BadValue e3_BadValue hd_BadValue k1_BadValue kg_ kt_ k4_BadValue) kx_BadValue_BadRow, xcI_mk X G ac_BadKey ac_BadRow (excQ_mk ga_BadKey gg_BadKey e3_BadKey hd_BadKey k1_BadKey kg_ kt_ k4_BadKey) kx_BadKey_BadRow, xcI_mk X G ac_InUse ac_BadText (excQ_mk ga_InUse gg_InUse e3_InUse hd_InUse k1_InUse kg_ kt_ k4_InUse) kx_InUse_BadText, xcI_mk X G ac_NoName ac_BadText (excQ_mk ga_NoName gg_NoName e3_NoName hd_NoName k1_NoName kg_ kt_ k4_NoName) kx_NoName_BadText, xcI_mk X G ac_NotBroken ac_BadText (excQ_mk ga_NotBroken gg_NotBroken e3_NotBroken hd_NotBroken k1_NotBroken kg_ kt_ k4_NotBroken) kx_NotBroken_BadText, xcI_mk X G ac_NoMake ac_BadText (excQ_mk ga_NoMake gg_NoMake e3_NoMake hd_NoMake k1_NoMake kg_ kt_ k4_NoMake) kx_NoMake_BadText, xcI_mk X G ac_NoPage ac_BadText (excQ_mk ga_NoPage gg_NoPage e3_NoPage hd_NoPage k1_NoPage kg_ kt_ k4_NoPage) kx_NoPage_BadText, xcI_mk X G ac_NoClash ac_BadText (excQ_mk ga_NoClash gg_NoClash e3_NoClash hd_NoClash k1_NoClash kg_ kt_ k4_NoClash) kx_NoClash_BadText, xcI_mk X G ac_ColumnThere ac_BadText (excQ_mk ga_ColumnThere gg_ColumnThere e3_ColumnThere hd_ColumnThere k1_ColumnThere kg_ kt_ k4_ColumnThere) kx_ColumnThere_BadText, xcI_mk X G ac_NoColumn ac_BadText (excQ_mk ga_NoColumn gg_NoColumn e3_NoColumn hd_NoColumn k1_NoColumn kg_ kt_ k4_NoColumn) kx_NoColumn_BadText, xcI_mk X G ac_Unfit ac_BadText (excQ_mk ga_Unfit gg_Unfit e3_Unfit hd_Unfit k1_Unfit kg_ kt_ k4_Unfit) kx_Unfit_BadText, xcI_mk X G ac_NoRow ac_BadText (excQ_mk ga_NoRow gg_NoRow e3_NoRow hd_NoRow k1_NoRow kg_ kt_ k4_NoRow) kx_NoRow_BadText, xcI_mk X G ac_NotRising ac_BadText (excQ_mk ga_NotRising gg_NotRising e3_NotRising hd_NotRising k1_NotRising kg_ kt_ k4_NotRising) kx_NotRising_BadText, xcI_mk X G ac_Unsaved ac_BadText (excQ_mk ga_Unsaved gg_Unsaved e3_Unsaved hd_Unsaved k1_Unsaved kg_ kt_ k4_Unsaved) kx_Unsaved_BadText, xcI_mk X G ac_BadRow ac_BadText (excQ_mk ga_BadRow gg_BadRow e3_BadRow hd_BadRow k1_BadRow kg_ kt_ k4_BadRow) kx_BadRow_BadText, xcI_mk X G ac_BadText ac_BadText (excQ_mk ga_BadText gg_BadText e3_BadText hd_BadText k1_BadText kg_ kt_ k4_BadText) kx_BadText_BadText, xcI_mk X G ac_BadElders ac_BadText (excQ_mk ga_BadElders gg_BadElders e3_BadElders hd_BadElders k1_BadElders kg_ kt_ k4_BadElders) kx_BadElders_BadText, xcI_mk X G ac_BadWord ac_BadText (excQ_mk ga_BadWord gg_BadWord e3_BadWord hd_BadWord k1_BadWord kg_ kt_ k4_BadWord) kx_BadWord_BadText, xcI_mk X G ac_BadValue ac_BadText (excQ_mk ga_BadValue gg_BadValue e3_BadValue hd_BadValue k1_BadValue kg_ kt_ k4_BadValue) kx_BadValue_BadText, xcI_mk X G ac_BadKey ac_BadText (excQ_mk ga_BadKey gg_BadKey e3_BadKey hd_BadKey k1_BadKey kg_ kt_ k4_BadKey) kx_BadKey_BadText, xcI_mk X G ac_InUse ac_ColumnThere (excQ_mk ga_InUse gg_InUse e3_InUse hd_InUse k1_InUse kg_ kt_ k4_InUse) kx_InUse_ColumnThere, xcI_mk X G ac_NoName ac_ColumnThere (excQ_mk ga_NoName gg_NoName e3_NoName hd_NoName k1_NoName kg_ kt_ k4_NoName) kx_NoName_ColumnThere, xcI_mk X G ac_NotBroken ac_ColumnThere (excQ_mk ga_NotBroken gg_NotBroken e3_NotBroken hd_NotBroken k1_NotBroken kg_ kt_ k4_NotBroken) kx_NotBroken_ColumnThere, xcI_mk X G ac_NoMake ac_ColumnThere (excQ_mk ga_NoMake gg_NoMake e3_NoMake hd_NoMake k1_NoMake kg_ kt_ k4_NoMake) kx_NoMake_ColumnThere, xcI_mk X G ac_NoPage ac_ColumnThere (excQ_mk ga_NoPage gg_NoPage e3_NoPage hd_NoPage k1_NoPage kg_ kt_ k4_NoPage) kx_NoPage_ColumnThere, xcI_mk X G ac_NoClash ac_ColumnThere (excQ_mk ga_NoClash gg_NoClash e3_NoClash hd_NoClash k1_NoClash kg_ kt_ k4_NoClash) kx_NoClash_ColumnThere, xcI_mk X G ac_ColumnThere ac_ColumnThere (excQ_mk ga_ColumnThere gg_ColumnThere e3_ColumnThere hd_ColumnThere k1_ColumnThere kg_ kt_ k4_ColumnThere) kx_ColumnThere_ColumnThere, xcI_mk X G ac_NoColumn ac_ColumnThere (excQ_mk ga_NoColumn gg_NoColumn e3_NoColumn hd_NoColumn k1_NoColumn kg_ kt_ k4_NoColumn) kx_NoColumn_ColumnThere, xcI_mk X G ac_Unfit ac_ColumnThere (excQ_mk ga_Unfit gg_Unfit e3_Unfit hd_Unfit k1_Unfit kg_ kt_ k4_Unfit) kx_Unfit_ColumnThere, xcI_mk X G ac_NoRow ac_ColumnThere (excQ_mk ga_NoRow gg_NoRow e3_NoRow hd_NoRow k1_NoRow kg_ kt_ k4_NoRow) kx_NoRow_ColumnThere, xcI_mk X G ac_NotRising ac_ColumnThere (excQ_mk ga_NotRising gg_NotRising e3_NotRising hd_NotRising k1_NotRising kg_ kt_ k4_NotRising) kx_NotRising_ColumnThere, xcI_mk X G ac_Unsaved ac_ColumnThere (excQ_mk ga_Unsaved gg_Unsaved e3_Unsaved hd_Unsaved k1_Unsaved kg_ kt_ k4_Unsaved) kx_Unsaved_ColumnThere, xcI_mk X G ac_BadRow ac_ColumnThere (excQ_mk ga_BadRow gg_BadRow e3_BadRow hd_BadRow k1_BadRow kg_ kt_ k4_BadRow) kx_BadRow_ColumnThere, xcI_mk X G ac_BadText ac_ColumnThere (excQ_mk ga_BadText gg_BadText e3_BadText hd_BadText k1_BadText kg_ kt_ k4_BadText) kx_BadText_ColumnThere, xcI_mk X G ac_BadElders ac_ColumnThere (excQ_mk ga_BadElders gg_BadElders e3_BadElders hd_BadElders k1_BadElders kg_ kt_ k4_BadElders) kx_BadElders_ColumnThere, xcI_mk X G ac_BadWord ac_ColumnThere (excQ_mk ga_BadWord gg_BadWord e3_BadWord hd_BadWord k1_BadWord kg_ kt_ k4_BadWord) kx_BadWord_ColumnThere, xcI_mk X G ac_BadValue ac_ColumnThere (excQ_mk ga_BadValue gg_BadValue e3_BadValue hd_BadValue k1_BadValue kg_ kt_ k4_BadValue) kx_BadValue_ColumnThere, xcI_mk X G ac_BadKey ac_ColumnThere (excQ_mk ga_BadKey gg_BadKey e3_BadKey hd_BadKey k1_BadKey kg_ kt_ k4_BadKey) kx_BadKey_ColumnThere, xcI_mk X G ac_InUse ac_NoColumn (excQ_mk ga_InUse gg_InUse e3_InUse hd_InUse k1_InUse kg_ kt_ k4_InUse) kx_InUse_NoColumn, xcI_mk X G ac_NoName ac_NoColumn (excQ_mk ga_NoName gg_NoName e3_NoName hd_NoName k1_NoName kg_ kt_ k4_NoName) kx_NoName_NoColumn, xcI_mk X G ac_NotBroken ac_NoColumn (excQ_mk ga_NotBroken gg_NotBroken e3_NotBroken hd_NotBroken k1_NotBroken kg_ kt_ k4_NotBroken) kx_NotBroken_NoColumn, xcI_mk X G ac_NoMake ac_NoColumn (excQ_mk ga_NoMake gg_NoMake e3_NoMake hd_NoMake k1_NoMake kg_ kt_ k4_NoMake) kx_NoMake_NoColumn, xcI_mk X G ac_NoPage ac_NoColumn (excQ_mk ga_NoPage gg_NoPage e3_NoPage hd_NoPage k1_NoPage kg_ kt_ k4_NoPage) kx_NoPage_NoColumn, xcI_mk X G ac_NoClash ac_NoColumn (excQ_mk ga_NoClash gg_NoClash e3_NoClash hd_NoClash k1_NoClash kg_ kt_ k4_NoClash) kx_NoClash_NoColumn, xcI_mk X G ac_ColumnThere ac_NoColumn (excQ_mk ga_ColumnThere gg_ColumnThere e3_ColumnThere hd_ColumnThere k1_ColumnThere kg_ kt_ k4_ColumnThere) kx_ColumnThere_NoColumn, xcI_mk X G ac_NoColumn ac_NoColumn (excQ_mk ga_NoColumn gg_NoColumn e3_NoColumn hd_NoColumn k1_NoColumn kg_ kt_ k4_NoColumn) kx_NoColumn_NoColumn, xcI_mk X G ac_Unfit ac_NoColumn (excQ_mk ga_Unfit gg_Unfit e3_Unfit hd_Unfit k1_Unfit kg_ kt_ k4_Unfit) kx_Unfit_NoColumn, xcI_mk X G ac_NoRow ac_NoColumn (excQ_mk ga_NoRow gg_NoRow e3_NoRow hd_NoRow k1_NoRow kg_ kt_ k4_NoRow) kx_NoRow_NoColumn, xcI_mk X G ac_NotRising ac_NoColumn (excQ_mk ga_NotRising gg_NotRising e3_NotRising hd_NotRising k1_NotRising kg_ kt_ k4_NotRising) kx_NotRising_NoColumn, xcI_mk X G ac_Unsaved ac_NoColumn (excQ_mk ga_Unsaved gg_Unsaved e3_Unsaved hd_Unsaved k1_Unsaved kg_ kt_ k4_Unsaved) kx_Unsaved_NoColumn, xcI_mk X G ac_BadRow ac_NoColumn (excQ_mk ga_BadRow gg_BadRow e3_BadRow hd_BadRow k1_BadRow kg_ kt_ k4_BadRow) kx_BadRow_NoColumn, xcI_mk X G ac_BadText ac_NoColumn (excQ_mk ga_BadText gg_BadText e3_BadText hd_BadText k1_BadText kg_ kt_ k4_BadText) kx_BadText_NoColumn, xcI_mk X G ac_BadElders ac_NoColumn (excQ_mk ga_BadElders gg_BadElders e3_BadElders hd_BadElders k1_BadElders kg_ kt_ k4_BadElders) kx_BadElders_NoColumn, xcI_mk X G ac_BadWord ac_NoColumn (excQ_mk ga_BadWord gg_BadWord e3_BadWord hd_BadWord k1_BadWord kg_ kt_ k4_BadWord) kx_BadWord_NoColumn, xcI_mk X G ac_BadValue ac_NoColumn (excQ_mk ga_BadValue gg_BadValue e3_BadValue hd_BadValue k1_BadValue kg_ kt_ k4_BadValue) kx_BadValue_NoColumn, xcI_mk X G ac_BadKey ac_NoColumn (excQ_mk ga_BadKey gg_BadKey e3_BadKey hd_BadKey k1_BadKey kg_ kt_ k4_BadKey) kx_BadKey_NoColumn, xcI_mk X G ac_InUse ac_Unfit (excQ_mk ga_InUse gg_InUse e3_InUse hd_InUse k1_InUse kg_ kt_ k4_InUse) kx_InUse_Unfit, xcI_mk X G ac_NoName ac_Unfit (excQ_mk ga_NoName gg_NoName e3_NoName hd_NoName k1_NoName kg_ kt_ k4_NoName) kx_NoName_Unfit, xcI_mk X G ac_NotBroken ac_Unfit (excQ_mk ga_NotBroken gg_NotBroken e3_NotBroken hd_NotBroken k1_NotBroken kg_ kt_ k4_NotBroken) kx_NotBroken_Unfit, xcI_mk X G ac_NoMake ac_Unfit (excQ_mk ga_NoMake gg_NoMake e3_NoMake hd_NoMake k1_NoMake kg_ kt_ k4_NoMake) kx_NoMake_Unfit, xcI_mk X G ac_NoPage ac_Unfit (excQ_mk ga_NoPage gg_NoPage e3_NoPage hd_NoPage k1_NoPage kg_ kt_ k4_NoPage) kx_NoPage_Unfit, xcI_mk X G ac_NoClash ac_Unfit (excQ_mk ga_NoClash gg_NoClash e3_NoClash hd_NoClash k1_NoClash kg_ kt_ k4_NoClash) kx_NoClash_Unfit, xcI_mk X G ac_ColumnThere ac_Unfit (excQ_mk ga_ColumnThere gg_ColumnThere e3_ColumnThere hd_ColumnThere k1_ColumnThere kg_ kt_ k4_ColumnThere) kx_ColumnThere_Unfit, xcI_mk X G ac_NoColumn ac_Unfit (excQ_mk ga_NoColumn gg_NoColumn e3_NoColumn hd_NoColumn k1_NoColumn kg_ kt_ k4_NoColumn) kx_NoColumn_Unfit, xcI_mk X G ac_Unfit ac_Unfit (excQ_mk ga_Unfit gg_Unfit e3_Unfit hd_Unfit k1_Unfit kg_ kt_ k4_Unfit) kx_Unfit_Unfit, xcI_mk X G ac_NoRow ac_Unfit (excQ_mk ga_NoRow gg_NoRow e3_NoRow hd_NoRow k1_NoRow kg_ kt_ k4_NoRow) kx_NoRow_Unfit, xcI_mk X G ac_NotRising ac_Unfit (excQ_mk ga_NotRising gg_NotRising e3_NotRising hd_NotRising k1_NotRising kg_ kt_ k4_NotRising) kx_NotRising_Unfit, xcI_mk X G ac_Unsaved ac_Unfit (excQ_mk ga_Unsaved gg_Unsaved e3_Unsaved hd_Unsaved k1_Unsaved kg_ kt_ k4_Unsaved) kx_Unsaved_Unfit, xcI_mk X G ac_BadRow ac_Unfit (excQ_mk ga_BadRow gg_BadRow e3_BadRow hd_BadRow k1_BadRow kg_ kt_ k4_BadRow) kx_BadRow_Unfit, xcI_mk X G ac_BadText ac_Unfit (excQ_mk ga_BadText gg_BadText e3_BadText hd_BadText k1_BadText kg_ kt_ k4_BadText) kx_BadText_Unfit, xcI_mk X G ac_BadElders ac_Unfit (excQ_mk ga_BadElders gg_BadElders e3_BadElders hd_BadElders k1_BadElders kg_ kt_ k4_BadElders) kx_BadElders_Unfit, xcI_mk X G ac_BadWord ac_Unfit (excQ_mk ga_BadWord gg_BadWord e3_BadWord hd_BadWord k1_BadWord kg_ kt_ k4_BadWord) kx_BadWord_Unfit, xcI_mk X G ac_BadValue ac_Unfit (excQ_mk ga_BadValue gg_BadValue e3_BadValue hd_BadValue k1_BadValue kg_ kt_ k4_BadValue) kx_BadValue_Unfit, xcI_mk X G ac_BadKey ac_Unfit (excQ_mk ga_BadKey gg_BadKey e3_BadKey hd_BadKey k1_BadKey kg_ kt_ k4_BadKey) kx_BadKey_Unfit, xcI_mk X G ac_InUse ac_NoRow (excQ_mk ga_InUse gg_InUse e3_InUse hd_InUse k1_InUse kg_ kt_ k4_InUse) kx_InUse_NoRow, xcI_mk X G ac_NoName ac_NoRow (excQ_mk ga_NoName gg_NoName e3_NoName hd_NoName k1_NoName kg_ kt_ k4_NoName) kx_NoName_NoRow, xcI_mk X G ac_NotBroken ac_NoRow (excQ_mk ga_NotBroken gg_NotBroken e3_NotBroken hd_NotBroken k1_NotBroken kg_ kt_ k4_NotBroken) kx_NotBroken_NoRow, xcI_mk X G ac_NoMake ac_NoRow (excQ_mk ga_NoMake gg_NoMake e3_NoMake hd_NoMake k1_NoMake kg_ kt_ k4_NoMake) kx_NoMake_NoRow, xcI_mk X G ac_NoPage ac_NoRow (excQ_mk ga_NoPage gg_NoPage e3_NoPage hd_NoPage k1_NoPage kg_ kt_ k4_NoPage) kx_NoPage_NoRow, xcI_mk X G ac_NoClash ac_NoRow (excQ_mk ga_NoClash gg_NoClash e3_NoClash hd_NoClash k1_NoClash kg_ kt_ k4_NoClash) kx_NoClash_NoRow, xcI_mk X G ac_ColumnThere ac_NoRow (excQ_mk ga_ColumnThere gg_ColumnThere e3_ColumnThere hd_ColumnThere k1_ColumnThere kg_ kt_ k4_ColumnThere) kx_ColumnThere_NoRow, xcI_mk X G ac_NoColumn ac_NoRow (excQ_mk ga_NoColumn gg_NoColumn e3_NoColumn hd_NoColumn k1_NoColumn kg_ kt_ k4_NoColumn) kx_NoColumn_NoRow, xcI_mk X G ac_Unfit ac_NoRow (excQ_mk ga_Unfit gg_Unfit e3_Unfit hd_Unfit k1_Unfit kg_ kt_ k4_Unfit) kx_Unfit_NoRow, xcI_mk X G ac_NoRow ac_NoRow (excQ_mk ga_NoRow gg_NoRow e3_NoRow hd_NoRow k1_NoRow kg_ kt_ k4_NoRow) kx_NoRow_NoRow, xcI_mk X G ac_NotRising ac_NoRow (excQ_mk ga_NotRising gg_NotRising e3_NotRising hd_NotRising k1_NotRising kg_ kt_ k4_NotRising) kx_NotRising_NoRow, xcI_mk X G ac_Unsaved ac_NoRow (excQ_mk ga_Unsaved gg_Unsaved e3_Unsaved hd_Unsaved k1_Unsaved kg_ kt_ k4_Unsaved) kx_Unsaved_NoRow, xcI_mk X G ac_BadRow ac_NoRow (excQ_mk ga_BadRow gg_BadRow e3_BadRow hd_BadRow k1_BadRow kg_ kt_ k4_BadRow) kx_BadRow_NoRow, xcI_mk X G ac_BadText ac_NoRow (excQ_mk ga_BadText gg_BadText e3_BadText hd_BadText k1_BadText kg_ kt_ k4_BadText) kx_BadText_NoRow, xcI_mk X G ac_BadElders ac_NoRow (excQ_mk ga_BadElders gg_BadElders e3_BadElders hd_BadElders k1_BadElders kg_ kt_ k4_BadElders) kx_BadElders_NoRow, xcI_mk X G ac_BadWord ac_NoRow (excQ_mk ga_BadWord gg_BadWord e3_BadWord hd_BadWord k1_BadWord kg_ kt_ k4_BadWord) kx_BadWord_NoRow, xcI_mk X G ac_BadValue ac_NoRow (excQ_mk ga_BadValue gg_BadValue e3_BadValue hd_BadValue k1_BadValue kg_ kt_ k4_BadValue) kx_BadValue_NoRow, xcI_mk X G ac_BadKey ac_NoRow (excQ_mk ga_BadKey gg_BadKey e3_BadKey hd_BadKey k1_BadKey kg_ kt_ k4_BadKey) kx_BadKey_NoRow, xcI_mk X G ac_InUse ac_NotBroken (excQ_mk ga_InUse gg_InUse e3_InUse hd_InUse k1_InUse kg_ kt_ k4_InUse) kx_InUse_NotBroken, xcI_mk X G ac_NoName ac_NotBroken (excQ_mk ga_NoName gg_NoName e3_NoName hd_NoName k1_NoName kg_ kt_ k4_NoName) kx_NoName_NotBroken, xcI_mk X G ac_NotBroken ac_NotBroken (excQ_mk ga_NotBroken gg_NotBroken e3_NotBroken hd_NotBroken k1_NotBroken kg_ kt_ k4_NotBroken) kx_NotBroken_NotBroken, xcI_mk X G ac_NoMake ac_NotBroken (excQ_mk ga_NoMake gg_NoMake e3_NoMake hd_NoMake k1_NoMake kg_ kt_ k4_NoMake) kx_NoMake_NotBroken, xcI_mk X G ac_NoPage ac_NotBroken (excQ_mk ga_NoPage gg_NoPage e3_NoPage hd_NoPage k1_NoPage kg_ kt_ k4_NoPage) kx_NoPage_NotBroken, xcI_mk X G ac_NoClash ac_NotBroken (excQ_mk ga_NoClash gg_NoClash e3_NoClash hd_NoClash k1_NoClash kg_ kt_ k4_NoClash) kx_NoClash_NotBroken, xcI_mk X G ac_ColumnThere ac_NotBroken (excQ_mk ga_ColumnThere gg_ColumnThere e3_ColumnThere hd_ColumnThere k1_ColumnThere kg_ kt_ k4_ColumnThere) kx_ColumnThere_NotBroken, xcI_mk X G ac_NoColumn ac_NotBroken (excQ_mk ga_NoColumn gg_NoColumn e3_NoColumn hd_NoColumn k1_NoColumn kg_ kt_ k4_NoColumn) kx_NoColumn_NotBroken, xcI_mk X G ac_Unfit ac_NotBroken (excQ_mk ga_Unfit gg_Unfit e3_Unfit hd_Unfit k1_Unfit kg_ kt_ k4_Unfit) kx_Unfit_NotBroken, xcI_mk X G ac_NoRow ac_NotBroken (excQ_mk ga_NoRow gg_NoRow e3_NoRow hd_NoRow k1_NoRow kg_ kt_ k4_NoRow) kx_NoRow_NotBroken, xcI_mk X G ac_NotRising ac_NotBroken (excQ_mk ga_NotRising gg_NotRising e3_NotRising hd_NotRising k1_NotRising kg_ kt_ k4_NotRising) kx_NotRising_NotBroken, xcI_mk X G ac_Unsaved ac_NotBroken (excQ_mk ga_Unsaved gg_Unsaved e3_Unsaved hd_Unsaved k1_Unsaved kg_ kt_ k4_Unsaved) kx_Unsaved_NotBroken, xcI_mk X G ac_BadRow ac_NotBroken (excQ_mk ga_BadRow gg_BadRow e3_BadRow hd_BadRow k1_BadRow kg_ kt_ k4_BadRow) kx_BadRow_NotBroken, xcI_mk X G ac_BadText ac_NotBroken (excQ_mk ga_BadText gg_BadText e3_BadText hd_BadText k1_BadText kg_ kt_ k4_BadText) kx_BadText_NotBroken, xcI_mk X G ac_BadElders ac_NotBroken (excQ_mk ga_BadElders gg_BadElders e3_BadElders hd_BadElders k1_BadElders kg_ kt_ k4_BadElders) kx_BadElders_NotBroken, xcI_mk X G ac_BadWord ac_NotBroken (excQ_mk ga_BadWord gg_BadWord e3_BadWord hd_BadWord k1_BadWord kg_ kt_ k4_BadWord) kx_BadWord_NotBroken, xcI_mk X G ac_BadValue ac_NotBroken (excQ_mk ga_BadValue gg_BadValue e3_BadValue hd_BadValue k1_BadValue kg_ kt_ k4_BadValue) kx_BadValue_NotBroken, xcI_mk X G ac_BadKey ac_NotBroken (excQ_mk ga_BadKey gg_BadKey e3_BadKey hd_BadKey k1_BadKey kg_ kt_ k4_BadKey) kx_BadKey_NotBroken, xcI_mk X G ac_InUse ac_NoMake (excQ_mk ga_InUse gg_InUse e3_InUse hd_InUse k1_InUse kg_ kt_ k4_InUse) kx_InUse_NoMake, xcI_mk X G ac_NoName ac_NoMake (excQ_mk ga_NoName gg_NoName e3_NoName hd_NoName k1_NoName kg_ kt_ k4_NoName) kx_NoName_NoMake, xcI_mk X G ac_NotBroken ac_NoMake (excQ_mk ga_NotBroken gg_NotBroken e3_NotBroken hd_NotBroken k1_NotBroken kg_ kt_ k4_NotBroken) kx_NotBroken_NoMake, xcI_mk X G ac_NoMake ac_NoMake (excQ_mk ga_NoMake gg_NoMake e3_NoMake hd_NoMake k1_NoMake kg_ kt_ k4_NoMake) kx_NoMake_NoMake, xcI_mk X G ac_NoPage ac_NoMake (excQ_mk ga_NoPage gg_NoPage e3_NoPage hd_NoPage k1_NoPage kg_ kt_ k4_NoPage) kx_NoPage_NoMake, xcI_mk X G ac_NoClash ac_NoMake (excQ_mk ga_NoClash gg_NoClash e3_NoClash hd_NoClash k1_NoClash kg_ kt_ k4_NoClash) kx_NoClash_NoMake, xcI_mk X G ac_ColumnThere ac_NoMake (excQ_mk ga_ColumnThere gg_ColumnThere e3_ColumnThere hd_ColumnThere k1_ColumnThere kg_ kt_ k4_ColumnThere) kx_ColumnThere_NoMake, xcI_mk X G ac_NoColumn ac_NoMake (excQ_mk ga_NoColumn gg_NoColumn e3_NoColumn hd_NoColumn k1_NoColumn kg_ kt_ k4_NoColumn) kx_NoColumn_NoMake, xcI_mk X G ac_Unfit ac_NoMake (excQ_mk ga_Unfit gg_Unfit e3_Unfit hd_Unfit k1_Unfit kg_ kt_ k4_Unfit) kx_Unfit_NoMake, xcI_mk X G ac_NoRow ac_NoMake (excQ_mk ga_NoRow gg_NoRow e3_NoRow hd_NoRow k1_NoRow kg_ kt_ k4_NoRow) kx_NoRow_NoMake, xcI_mk X G ac_NotRising ac_NoMake (excQ_mk ga_NotRising gg_NotRising e3_NotRising hd_NotRising k1_NotRising kg_ kt_ k4_NotRising) kx_NotRising_NoMake, xcI_mk X G ac_Unsaved ac_NoMake (excQ_mk ga_Unsaved gg_Unsaved e3_Unsaved hd_Unsaved k1_Unsaved kg_ kt_ k4_Unsaved) kx_Unsaved_NoMake, xcI_mk X G ac_BadRow ac_NoMake (excQ_mk ga_BadRow gg_BadRow e3_BadRow hd_BadRow k1_BadRow kg_ kt_ k4_BadRow) kx_BadRow_NoMake, xcI_mk X G ac_BadText ac_NoMake (excQ_mk ga_BadText gg_BadText e3_BadText hd_BadText k1_BadText kg_ kt_ k4_BadText) kx_BadText_NoMake, xcI_mk X G ac_BadElders ac_NoMake (excQ_mk ga_BadElders gg_BadElders e3_BadElders hd_BadElders k1_BadElders kg_ kt_ k4_BadElders) kx_BadElders_NoMake, xcI_mk X G ac_BadWord ac_NoMake (excQ_mk ga_BadWord gg_BadWord e3_BadWord hd_BadWord k1_BadWord kg_ kt_ k4_BadWord) kx_BadWord_NoMake, xcI_mk X G ac_BadValue ac_NoMake (excQ_mk ga_BadValue gg_BadValue e3_BadValue hd_BadValue k1_BadValue kg_ kt_ k4_BadValue) kx_BadValue_NoMake, xcI_mk X G ac_BadKey ac_NoMake (excQ_mk ga_BadKey gg_BadKey e3_BadKey hd_BadKey k1_BadKey kg_ kt_ k4_BadKey) kx_BadKey_NoMake, xcI_mk X G ac_InUse ac_NoPage (excQ_mk ga_InUse gg_InUse e3_InUse hd_InUse k1_InUse kg_ kt_ k4_InUse) kx_InUse_NoPage, xcI_mk X G ac_NoName ac_NoPage (excQ_mk ga_NoName gg_NoName e3_NoName hd_NoName k1_NoName kg_ kt_ k4_NoName) kx_NoName_NoPage, xcI_mk X G ac_NotBroken ac_NoPage (excQ_mk ga_NotBroken gg_NotBroken e3_NotBroken hd_NotBroken k1_NotBroken kg_ kt_ k4_NotBroken) kx_NotBroken_NoPage, xcI_mk X G ac_NoMake ac_NoPage (excQ_mk ga_NoMake gg_NoMake e3_NoMake hd_NoMake k1_NoMake kg_ kt_ k4_NoMake) kx_NoMake_NoPage, xcI_mk X G ac_NoPage ac_NoPage (excQ_mk ga_NoPage gg_NoPage e3_NoPage hd_NoPage k1_NoPage kg_ kt_ k4_NoPage) kx_NoPage_NoPage, xcI_mk X G ac_NoClash ac_NoPage (excQ_mk ga_NoClash gg_NoClash e3_NoClash hd_NoClash k1_NoClash kg_ kt_ k4_NoClash) kx_NoClash_NoPage, xcI_mk X G ac_ColumnThere ac_NoPage (excQ_mk ga_ColumnThere gg_ColumnThere e3_ColumnThere hd_ColumnThere k1_ColumnThere kg_ kt_ k4_ColumnThere) kx_ColumnThere_NoPage, xcI_mk X G ac_NoColumn ac_NoPage (excQ_mk ga_NoColumn gg_NoColumn e3_NoColumn hd_NoColumn k1_NoColumn kg_ kt_ k4_NoColumn) kx_NoColumn_NoPage, xcI_mk X G ac_Unfit ac_NoPage (excQ_mk ga_Unfit gg_Unfit e3_Unfit hd_Unfit k1_Unfit kg_ kt_ k4_Unfit) kx_Unfit_NoPage, xcI_mk X G ac_NoRow ac_NoPage (excQ_mk ga_NoRow gg_NoRow e3_NoRow hd_NoRow k1_NoRow kg_ kt_ k4_NoRow) kx_NoRow_NoPage, xcI_mk X G ac_NotRising ac_NoPage (excQ_mk ga_NotRising gg_NotRising e3_NotRising hd_NotRising k1_NotRising kg_ kt_ k4_NotRising) kx_NotRising_NoPage, xcI_mk X G ac_Unsaved ac_NoPage (excQ_mk ga_Unsaved gg_Unsaved e3_Unsaved hd_Unsaved k1_Unsaved kg_ kt_ k4_Unsaved) kx_Unsaved_NoPage, xcI_mk X G ac_BadRow ac_NoPage (excQ_mk ga_BadRow gg_BadRow e3_BadRow hd_BadRow k1_BadRow kg_ kt_ k4_BadRow) kx_BadRow_NoPage, xcI_mk X G ac_BadText ac_NoPage (excQ_mk ga_BadText gg_BadText e3_BadText hd_BadText k1_BadText kg_ kt_ k4_BadText) kx_BadText_NoPage, xcI_mk X G ac_BadElders ac_NoPage (excQ_mk ga_BadElders gg_BadElders e3_BadElders hd_BadElders k1_BadElders kg_ kt_ k4_BadElders) kx_BadElders_NoPage, xcI_mk X G ac_BadWord ac_NoPage (excQ_mk ga_BadWord gg_BadWord e3_BadWord hd_BadWord k1_BadWord kg_ kt_ k4_BadWord) kx_BadWord_NoPage, xcI_mk X G ac_BadValue ac_NoPage (excQ_mk ga_BadValue gg_BadValue e3_BadValue hd_BadValue k1_BadValue kg_ kt_ k4_BadValue) kx_BadValue_NoPage, xcI_mk X G ac_BadKey ac_NoPage (excQ_mk ga_BadKey gg_BadKey e3_BadKey hd_BadKey k1_BadKey kg_ kt_ k4_BadKey) kx_BadKey_NoPage, xcI_mk X G ac_InUse ac_NoClash (excQ_mk ga_InUse gg_InUse e3_InUse hd_InUse k1_InUse kg_ kt_ k4_InUse) kx_InUse_NoClash, xcI_mk X G ac_NoName ac_NoClash (excQ_mk ga_NoName gg_NoName e3_NoName hd_NoName k1_NoName kg_ kt_ k4_NoName) kx_NoName_NoClash, xcI_mk X G ac_NotBroken ac_NoClash (excQ_mk ga_NotBroken gg_NotBroken e3_NotBroken hd_NotBroken k1_NotBroken kg_ kt_ k4_NotBroken) kx_NotBroken_NoClash, xcI_mk X G ac_NoMake ac_NoClash (excQ_mk ga_NoMake gg_NoMake e3_NoMake hd_NoMake k1_NoMake kg_ kt_ k4_NoMake) kx_NoMake_NoClash, xcI_mk X G ac_NoPage ac_NoClash (excQ_mk ga_NoPage gg_NoPage e3_NoPage hd_NoPage k1_NoPage kg_ kt_ k4_NoPage) kx_NoPage_NoClash, xcI_mk X G ac_NoClash ac_NoClash (excQ_mk ga_NoClash gg_NoClash e3_NoClash hd_NoClash k1_NoClash kg_ kt_ k4_NoClash) kx_NoClash_NoClash, xcI_mk X G ac_ColumnThere ac_NoClash (excQ_mk ga_ColumnThere gg_ColumnThere e3_ColumnThere hd_ColumnThere k1_ColumnThere kg_ kt_ k4_ColumnThere) kx_ColumnThere_NoClash, xcI_mk X G ac_NoColumn ac_NoClash (excQ_mk ga_NoColumn gg_NoColumn e3_NoColumn hd_NoColumn k1_NoColumn kg_ kt_ k4_NoColumn) kx_NoColumn_NoClash, xcI_mk X G ac_Unfit ac_NoClash (excQ_mk ga_Unfit gg_Unfit e3_Unfit hd_Unfit k1_Unfit kg_ kt_ k4_Unfit) kx_Unfit_NoClash, xcI_mk X G ac_NoRow ac_NoClash (excQ_mk ga_NoRow gg_NoRow e3_NoRow hd_NoRow k1_NoRow kg_ kt_ k4_NoRow) kx_NoRow_NoClash, xcI_mk X G ac_NotRising ac_NoClash (excQ_mk ga_NotRising gg_NotRising e3_NotRising hd_NotRising k1_NotRising kg_ kt_ k4_NotRising) kx_NotRising_NoClash, xcI_mk X G ac_Unsaved ac_NoClash (excQ_mk ga_Unsaved gg_Unsaved e3_Unsaved hd_Unsaved k1_Unsaved kg_ kt_ k4_Unsaved) kx_Unsaved_NoClash, xcI_mk X G ac_BadRow ac_NoClash (excQ_mk ga_BadRow gg_BadRow e3_BadRow hd_BadRow k1_BadRow kg_ kt_ k4_BadRow) kx_BadRow_NoClash, xcI_mk X G ac_BadText ac_NoClash (excQ_mk ga_BadText gg_BadText e3_BadText hd_BadText k1_BadText kg_ kt_ k4_BadText) kx_BadText_NoClash, xcI_mk X G ac_BadElders ac_NoClash (excQ_mk ga_BadElders gg_BadElders e3_BadElders hd_BadElders k1_BadElders kg_ kt_ k4_BadElders) kx_BadElders_NoClash, xcI_mk X G ac_BadWord ac_NoClash (excQ_mk ga_BadWord gg_BadWord e3_BadWord hd_BadWord k1_BadWord kg_ kt_ k4_BadWord) kx_BadWord_NoClash, xcI_mk X G ac_BadValue ac_NoClash (excQ_mk ga_BadValue gg_BadValue e3_BadValue hd_BadValue k1_BadValue kg_ kt_ k4_BadValue) kx_BadValue_NoClash, xcI_mk X G ac_BadKey ac_NoClash (excQ_mk ga_BadKey gg_BadKey e3_BadKey hd_BadKey k1_BadKey kg_ kt_ k4_BadKey) kx_BadKey_NoClash, xcI_mk X G ac_InUse ac_InUse (excQ_mk ga_InUse gg_InUse e3_InUse hd_InUse k1_InUse kg_ kt_ k4_InUse) kx_InUse_InUse, xcI_mk X G ac_NoName ac_InUse (excQ_mk ga_NoName gg_NoName e3_NoName hd_NoName k1_NoName kg_ kt_ k4_NoName) kx_NoName_InUse, xcI_mk X G ac_NotBroken ac_InUse (excQ_mk ga_NotBroken gg_NotBroken e3_NotBroken hd_NotBroken k1_NotBroken kg_ kt_ k4_NotBroken) kx_NotBroken_InUse, xcI_mk X G ac_NoMake ac_InUse (excQ_mk ga_NoMake gg_NoMake e3_NoMake hd_NoMake k1_NoMake kg_ kt_ k4_NoMake) kx_NoMake_InUse, xcI_mk X G ac_NoPage ac_InUse (excQ_mk ga_NoPage gg_NoPage e3_NoPage hd_NoPage k1_NoPage kg_ kt_ k4_NoPage) kx_NoPage_InUse, xcI_mk X G ac_NoClash ac_InUse (excQ_mk ga_NoClash gg_NoClash e3_NoClash hd_NoClash k1_NoClash kg_ kt_ k4_NoClash) kx_NoClash_InUse, xcI_mk X G ac_ColumnThere ac_InUse (excQ_mk ga_ColumnThere gg_ColumnThere e3_ColumnThere hd_ColumnThere k1_ColumnThere kg_ kt_ k4_ColumnThere) kx_ColumnThere_InUse, xcI_mk X G ac_NoColumn ac_InUse (excQ_mk ga_NoColumn gg_NoColumn e3_NoColumn hd_NoColumn k1_NoColumn kg_ kt_ k4_NoColumn) kx_NoColumn_InUse, xcI_mk X G ac_Unfit ac_InUse (excQ_mk ga_Unfit gg_Unfit e3_Unfit hd_Unfit k1_Unfit kg_ kt_ k4_Unfit) kx_Unfit_InUse, xcI_mk X G ac_NoRow ac_InUse (excQ_mk ga_NoRow gg_NoRow e3_NoRow hd_NoRow k1_NoRow kg_ kt_ k4_NoRow) kx_NoRow_InUse, xcI_mk X G ac_NotRising ac_InUse (excQ_mk ga_NotRising gg_NotRising e3_NotRising hd_NotRising k1_NotRising kg_ kt_ k4_NotRising) kx_NotRising_InUse, xcI_mk X G ac_Unsaved ac_InUse (excQ_mk ga_Unsaved gg_Unsaved e3_Unsaved hd_Unsaved k1_Unsaved kg_ kt_ k4_Unsaved) kx_Unsaved_InUse, xcI_mk X G ac_BadRow ac_InUse (excQ_mk ga_BadRow gg_BadRow e3_BadRow hd_BadRow k1_BadRow kg_ kt_ k4_BadRow) kx_BadRow_InUse, xcI_mk X G ac_BadText ac_InUse (excQ_mk ga_BadText gg_BadText e3_BadText hd_BadText k1_BadText kg_ kt_ k4_BadText) kx_BadText_InUse, xcI_mk X G ac_BadElders ac_InUse (excQ_mk ga_BadElders gg_BadElders e3_BadElders hd_BadElders k1_BadElders kg_ kt_ k4_BadElders) kx_BadElders_InUse, xcI_mk X G ac_BadWord ac_InUse (excQ_mk ga_BadWord gg_BadWord e3_BadWord hd_BadWord k1_BadWord kg_ kt_ k4_BadWord) kx_BadWord_InUse, xcI_mk X G ac_BadValue ac_InUse (excQ_mk ga_BadValue gg_BadValue e3_BadValue hd_BadValue k1_BadValue kg_ kt_ k4_BadValue) kx_BadValue_InUse, xcI_mk X G ac_BadKey ac_InUse (excQ_mk ga_BadKey gg_BadKey e3_BadKey hd_BadKey k1_BadKey kg_ kt_ k4_BadKey) kx_BadKey_InUse, xcI_mk X G ac_InUse ac_NoName (excQ_mk ga_InUse gg_InUse e3_InUse hd_InUse k1_InUse kg_ kt_ k4_InUse) kx_InUse_NoName, xcI_mk X G ac_NoName ac_NoName (excQ_mk ga_NoName gg_NoName e3_NoName hd_NoName k1_NoName kg_ kt_ k4_NoName) kx_NoName_NoName, xcI_mk X G ac_NotBroken ac_NoName (excQ_mk ga_NotBroken gg_NotBroken e3_NotBroken hd_NotBroken k1_NotBroken kg_ kt_ k4_NotBroken) kx_NotBroken_NoName, xcI_mk X G ac_NoMake ac_NoName (excQ_mk ga_NoMake gg_NoMake e3_NoMake hd_NoMake k1_NoMake kg_ kt_ k4_NoMake) kx_NoMake_NoName, xcI_mk X G ac_NoPage ac_NoName (excQ_mk ga_NoPage gg_NoPage e3_NoPage hd_NoPage k1_NoPage kg_ kt_ k4_NoPage) kx_NoPage_NoName, xcI_mk X G ac_NoClash ac_NoName (excQ_mk ga_NoClash gg_NoClash e3_NoClash hd_NoClash k1_NoClash kg_ kt_ k4_NoClash) kx_NoClash_NoName, xcI_mk X G ac_ColumnThere ac_NoName (excQ_mk ga_ColumnThere gg_ColumnThere e3_ColumnThere hd_ColumnThere k1_ColumnThere kg_ kt_ k4_ColumnThere) kx_ColumnThere_NoName, xcI_mk X G ac_NoColumn ac_NoName (excQ_mk ga_NoColumn gg_NoColumn e3_NoColumn hd_NoColumn k1_NoColumn kg_ kt_ k4_NoColumn) kx_NoColumn_NoName, xcI_mk X G ac_Unfit ac_NoName (excQ_mk ga_Unfit gg_Unfit e3_Unfit hd_Unfit k1_Unfit kg_ kt_ k4_Unfit) kx_Unfit_NoName, xcI_mk X G ac_NoRow ac_NoName (excQ_mk ga_NoRow gg_NoRow e3_NoRow hd_NoRow k1_NoRow kg_ kt_ k4_NoRow) kx_NoRow_NoName, xcI_mk X G ac_NotRising ac_NoName (excQ_mk ga_NotRising gg_NotRising e3_NotRising hd_NotRising k1_NotRising kg_ kt_ k4_NotRising) kx_NotRising_NoName, xcI_mk X G ac_Unsaved ac_NoName (excQ_mk ga_Unsaved gg_Unsaved e3_Unsaved hd_Unsaved k1_Unsaved kg_ kt_ k4_Unsaved) kx_Unsaved_NoName, xcI_mk X G ac_BadRow ac_NoName (excQ_mk ga_BadRow gg_BadRow e3_BadRow hd_BadRow k1_BadRow kg_ kt_ k4_BadRow) kx_BadRow_NoName, xcI_mk X G ac_BadText ac_NoName (excQ_mk ga_BadText gg_BadText e3_BadText hd_BadText k1_BadText kg_ kt_ k4_BadText) kx_BadText_NoName, xcI_mk X G ac_BadElders ac_NoName (excQ_mk ga_BadElders gg_BadElders e3_BadElders hd_BadElders k1_BadElders kg_ kt_ k4_BadElders) kx_BadElders_NoName, xcI_mk X G ac_BadWord ac_NoName (excQ_mk ga_BadWord gg_BadWord e3_BadWord hd_BadWord k1_BadWord kg_ kt_ k4_BadWord) kx_BadWord_NoName, xcI_mk X G ac_BadValue ac_NoName (excQ_mk ga_BadValue gg_BadValue e3_BadValue hd_BadValue k1_BadValue kg_ kt_ k4_BadValue) kx_BadValue_NoName, xcI_mk X G ac_BadKey ac_NoName (excQ_mk ga_BadKey gg_BadKey e3_BadKey hd_BadKey k1_BadKey kg_ kt_ k4_BadKey) kx_BadKey_NoName, xcB_mk X G ac_InUse (excQ_mk ga_InUse gg_InUse e3_InUse hd_InUse k1_InUse kg_ kt_ k4_InUse) ky_InUse_ValueError, xcB_mk X G ac_NoName (excQ_mk ga_NoName gg_NoName e3_NoName hd_NoName k1_NoName kg_ kt_ k4_NoName) ky_NoName_ValueError, xcB_mk X G ac_NotBroken (excQ_mk ga_NotBroken gg_NotBroken e3_NotBroken hd_NotBroken k1_NotBroken kg_ kt_ k4_NotBroken) ky_NotBroken_ValueError, xcB_mk X G ac_NoMake (excQ_mk ga_NoMake gg_NoMake e3_NoMake hd_NoMake k1_NoMake kg_ kt_ k4_NoMake) ky_NoMake_ValueError, xcB_mk X G ac_NoPage (excQ_mk ga_NoPage gg_NoPage e3_NoPage hd_NoPage k1_NoPage kg_ kt_ k4_NoPage) ky_NoPage_ValueError, xcB_mk X G ac_NoClash (excQ_mk ga_NoClash gg_NoClash e3_NoClash hd_NoClash k1_NoClash kg_ kt_ k4_NoClash) ky_NoClash_ValueError, xcB_mk X G ac_ColumnThere (excQ_mk ga_ColumnThere gg_ColumnThere e3_ColumnThere hd_ColumnThere k1_ColumnThere kg_ kt_ k4_ColumnThere) ky_ColumnThere_ValueError, xcB_mk X G ac_NoColumn (excQ_mk ga_NoColumn gg_NoColumn e3_NoColumn hd_NoColumn k1_NoColumn kg_ kt_ k4_NoColumn) ky_NoColumn_ValueError, xcB_mk X G ac_Unfit (excQ_mk ga_Unfit gg_Unfit e3_Unfit hd_Unfit k1_Unfit kg_ kt_ k4_Unfit) ky_Unfit_ValueError, xcB_mk X G ac_NoRow (excQ_mk ga_NoRow gg_NoRow e3_NoRow hd_NoRow k1_NoRow kg_ kt_ k4_NoRow) ky_NoRow_ValueError, xcB_mk X G ac_NotRising (excQ_mk ga_NotRising gg_NotRising e3_NotRising hd_NotRising k1_NotRising kg_ kt_ k4_NotRising) ky_NotRising_ValueError, xcB_mk X G ac_Unsaved (excQ_mk ga_Unsaved gg_Unsaved e3_Unsaved hd_Unsaved k1_Unsaved kg_ kt_ k4_Unsaved) ky_Unsaved_ValueError, xcB_mk X G ac_BadRow (excQ_mk ga_BadRow gg_BadRow e3_BadRow hd_BadRow k1_BadRow kg_ kt_ k4_BadRow) ky_BadRow_ValueError, xcB_mk X G ac_BadText (excQ_mk ga_BadText gg_BadText e3_BadText hd_BadText k1_BadText kg_ kt_ k4_BadText) ky_BadText_ValueError, xcB_mk X G ac_BadElders (excQ_mk ga_BadElders gg_BadElders e3_BadElders hd_BadElders k1_BadElders kg_ kt_ k4_BadElders) ky_BadElders_ValueError, xcB_mk X G ac_BadWord (excQ_mk ga_BadWord gg_BadWord e3_BadWord hd_BadWord k1_BadWord kg_ kt_ k4_BadWord) ky_BadWord_ValueError, xcB_mk X G ac_BadValue (excQ_mk ga_BadValue gg_BadValue e3_BadValue hd_BadValue k1_BadValue kg_ kt_ k4_BadValue) ky_BadValue_ValueError, xcB_mk X G ac_BadKey (excQ_mk ga_BadKey gg_BadKey e3_BadKey hd_BadKey k1_BadKey kg_ kt_ k4_BadKey) ky_BadKey_ValueError, xcF_mk X G ac_NoClash ga_NoClash gg_NoClash e3_NoClash hd_NoClash hn_NoClash_key, xcF_mk X G ac_Unfit ga_Unfit gg_Unfit e3_Unfit hd_Unfit hn_Unfit_key, xcF_mk X G ac_NoRow ga_NoRow gg_NoRow e3_NoRow hd_NoRow hn_NoRow_key, xcF_mk X G ac_NotRising ga_NotRising gg_NotRising e3_NotRising hd_NotRising hn_NotRising_key, xcF_mk X G ac_NoClash ga_NoClash gg_NoClash e3_NoClash hd_NoClash hn_NoClash_column, xcF_mk X G ac_ColumnThere ga_ColumnThere gg_ColumnThere e3_ColumnThere hd_ColumnThere hn_ColumnThere_column, xcF_mk X G ac_NoColumn ga_NoColumn gg_NoColumn e3_NoColumn hd_NoColumn hn_NoColumn_column, xcF_mk X G ac_NotBroken ga_NotBroken gg_NotBroken e3_NotBroken hd_NotBroken hn_NotBroken_number, xcF_mk X G ac_NoMake ga_NoMake gg_NoMake e3_NoMake hd_NoMake hn_NoMake_number, xcF_mk X G ac_NoPage ga_NoPage gg_NoPage e3_NoPage hd_NoPage hn_NoPage_number, xcF_mk X G ac_InUse ga_InUse gg_InUse e3_InUse hd_InUse hn_InUse_word, xcF_mk X G ac_NoName ga_NoName gg_NoName e3_NoName hd_NoName hn_NoName_word, PySem.W.mg_none_of X G z_ValueError, PySem.W.mg_none_of X G z_bool, PySem.W.mg_none_of X G z_int, PySem.W.mg_none_of X G z_isinstance, PySem.W.mg_none_of X G z_len, PySem.W.mg_none_of X G z_range, PySem.W.mg_none_of X G z_str⟩, ?_, ?_, ?_, ?_, ?_, ?_, ?_, ?_, ?_, ?_, ?_, ?_, ?_, ?_, ?_, ?_, ?_, ?_, ?_, ?_, ?_, ?_⟩
  · exact top_mk X G a0 l0 c0 k0 fun _ _ _ _ _ _ us hl => match us, hl with | [_, _], _ => rfl
  · exact top_mk X G a1 l1 c1 k1 fun _ _ _ _ _ _ us hl => match us, hl with | [_, _], _ => rfl
  · exact top_mk X G a2 l2 c2 k2 fun _ _ _ _ _ _ us hl => match us, hl with | [_], _ => rfl
  · exact top_mk X G a3 l3 c3 k3 fun _ _ _ _ _ _ us hl => match us, hl with | [_], _ => rfl
  · exact top_mk X G a4 l4 c4 k4 fun _ _ _ _ _ _ us hl => match us, hl with | [_], _ => rfl
  · exact top_mk X G a5 l5 c5 k5 fun _ _ _ _ _ _ us hl => match us, hl with | [_, _], _ => rfl
  · exact top_mk X G a6 l6 c6 k6 fun _ _ _ _ _ _ us hl => match us, hl with | [_, _, _, _, _], _ => rfl
  · exact top_mk X G a7 l7 c7 k7 fun _ _ _ _ _ _ us hl => match us, hl with | [_, _, _, _, _], _ => rfl
  · exact top_mk X G a8 l8 c8 k8 fun _ _ _ _ _ _ us hl => match us, hl with | [_], _ => rfl
  · exact top_mk X G a9 l9 c9 k9 fun _ _ _ _ _ _ us hl => match us, hl with | [_, _, _, _, _], _ => rfl
  · exact top_mk X G a10 l10 c10 k10 fun _ _ _ _ _ _ us hl => match us, hl with | [_], _ => rfl
  · exact topE_mk X G ac_NotRising xL_NotRising rv_NotRising sa_NotRising e3_NotRising e4_NotRising e2_NotRising (by simp only [List.mem_cons, List.not_mem_nil, or_false]; rintro n (rfl); exact hn_NotRising_key) fi_NotRising ft_NotRising xl_NotRising xc_NotRising xk_NotRising fun _ _ _ _ _ _ us hl => match us, hl with | [_, _], _ => rfl
  · exact topE_mk X G ac_NoRow xL_NoRow rv_NoRow sa_NoRow e3_NoRow e4_NoRow e2_NoRow (by simp only [List.mem_cons, List.not_mem_nil, or_false]; rintro n (rfl); exact hn_NoRow_key) fi_NoRow ft_NoRow xl_NoRow xc_NoRow xk_NoRow fun _ _ _ _ _ _ us hl => match us, hl with | [_, _], _ => rfl
  · exact topE_mk X G ac_Unfit xL_Unfit rv_Unfit sa_Unfit e3_Unfit e4_Unfit e2_Unfit (by simp only [List.mem_cons, List.not_mem_nil, or_false]; rintro n (rfl); exact hn_Unfit_key) fi_Unfit ft_Unfit xl_Unfit xc_Unfit xk_Unfit fun _ _ _ _ _ _ us hl => match us, hl with | [_, _], _ => rfl
  · exact topE_mk X G ac_NoColumn xL_NoColumn rv_NoColumn sa_NoColumn e3_NoColumn e4_NoColumn e2_NoColumn (by simp only [List.mem_cons, List.not_mem_nil, or_false]; rintro n (rfl); exact hn_NoColumn_column) fi_NoColumn ft_NoColumn xl_NoColumn xc_NoColumn xk_NoColumn fun _ _ _ _ _ _ us hl => match us, hl with | [_, _], _ => rfl
  · exact topE_mk X G ac_ColumnThere xL_ColumnThere rv_ColumnThere sa_ColumnThere e3_ColumnThere e4_ColumnThere e2_ColumnThere (by simp only [List.mem_cons, List.not_mem_nil, or_false]; rintro n (rfl); exact hn_ColumnThere_column) fi_ColumnThere ft_ColumnThere xl_ColumnThere xc_ColumnThere xk_ColumnThere fun _ _ _ _ _ _ us hl => match us, hl with | [_, _], _ => rfl
  · exact topE_mk X G ac_NoClash xL_NoClash rv_NoClash sa_NoClash e3_NoClash e4_NoClash e2_NoClash (by simp only [List.mem_cons, List.not_mem_nil, or_false]; rintro n (rfl | rfl) <;> assumption) fi_NoClash ft_NoClash xl_NoClash xc_NoClash xk_NoClash fun _ _ _ _ _ _ us hl => match us, hl with | [_, _, _], _ => rfl
  · exact topE_mk X G ac_NoPage xL_NoPage rv_NoPage sa_NoPage e3_NoPage e4_NoPage e2_NoPage (by simp only [List.mem_cons, List.not_mem_nil, or_false]; rintro n (rfl); exact hn_NoPage_number) fi_NoPage ft_NoPage xl_NoPage xc_NoPage xk_NoPage fun _ _ _ _ _ _ us hl => match us, hl with | [_, _], _ => rfl
  · exact topE_mk X G ac_NoMake xL_NoMake rv_NoMake sa_NoMake e3_NoMake e4_NoMake e2_NoMake (by simp only [List.mem_cons, List.not_mem_nil, or_false]; rintro n (rfl); exact hn_NoMake_number) fi_NoMake ft_NoMake xl_NoMake xc_NoMake xk_NoMake fun _ _ _ _ _ _ us hl => match us, hl with | [_, _], _ => rfl
  · exact topE_mk X G ac_NotBroken xL_NotBroken rv_NotBroken sa_NotBroken e3_NotBroken e4_NotBroken e2_NotBroken (by simp only [List.mem_cons, List.not_mem_nil, or_false]; rintro n (rfl); exact hn_NotBroken_number) fi_NotBroken ft_NotBroken xl_NotBroken xc_NotBroken xk_NotBroken fun _ _ _ _ _ _ us hl => match us, hl with | [_, _], _ => rfl
  · exact topE_mk X G ac_NoName xL_NoName rv_NoName sa_NoName e3_NoName e4_NoName e2_NoName (by simp only [List.mem_cons, List.not_mem_nil, or_false]; rintro n (rfl); exact hn_NoName_word) fi_NoName ft_NoName xl_NoName xc_NoName xk_NoName fun _ _ _ _ _ _ us hl => match us, hl with | [_, _], _ => rfl
  · exact topE_mk X G ac_InUse xL_InUse rv_InUse sa_InUse e3_InUse e4_InUse e2_InUse (by simp only [List.mem_cons, List.not_mem_nil, or_false]; rintro n (rfl); exact hn_InUse_word) fi_InUse ft_InUse xl_InUse xc_InUse xk_InUse fun _ _ _ _ _ _ us hl => match us, hl with | [_, _], _ => rfl
theorem walk {l : PySem.W.OpenLaw} {q : Program} {loose : List Str} {XP : (Str → Option Value) → Heap → Prop} {YP : World → Heap → Prop} {d : DefRec} {K : Params → PySem.W.Frag} (hn : l.most = some 63) (hdf : d.params.defaults = []) (hd : d.name = "law")
    (hY : ∀ (w : World) (h : Heap), YP w h → (K w.params).In h)
    (F : ∀ (w : World) (mg : Str → Option Value) (h : Heap), (K w.params).In h → h.Ns mainGlobals mg → Txt (K w.params) mg ∧ Top (K w.params) mg "_law_cell_at" s_l_cell_at ["_law_script", "_law_k"] ∧ Top (K w.params) mg "_law_mix" s_l_mix ["_law_cell", "_law_k"] ∧ Top (K w.params) mg "_law_letters" s_l_letters ["_law_cell"] ∧ Top (K w.params) mg "_law_key" s_l_key ["_law_cell"] ∧ Top (K w.params) mg "_law_classes" s_l_classes ["_law_e"] ∧ Top (K w.params) mg "_law_same" s_l_same ["_law_found", "_law_due"] ∧ Top (K w.params) mg "_law_tells" s_l_tells ["_law_e", "_law_key_here", "_law_column", "_law_number", "_law_word"] ∧ Top (K w.params) mg "_law_good" s_l_good ["_law_k", "_law_key_here", "_law_column", "_law_number", "_law_word"] ∧ Top (K w.params) mg "law" s_law ["_law_script"] ∧ Top (K w.params) mg "_law_raise" s_l_raise ["_law_k", "_law_key_here", "_law_column", "_law_number", "_law_word"] ∧ Top (K w.params) mg "_law_raise_plain" s_l_raise_plain ["_law_k"] ∧ TopE (K w.params) mg "NotRising" "NotRising.__init__" s_NotRising_init ["self", "key"] ["key"] ∧ TopE (K w.params) mg "NoRow" "NoRow.__init__" s_NoRow_init ["self", "key"] ["key"] ∧ TopE (K w.params) mg "Unfit" "Unfit.__init__" s_Unfit_init ["self", "key"] ["key"] ∧ TopE (K w.params) mg "NoColumn" "NoColumn.__init__" s_NoColumn_init ["self", "column"] ["column"] ∧ TopE (K w.params) mg "ColumnThere" "ColumnThere.__init__" s_ColumnThere_init ["self", "column"] ["column"] ∧ TopE (K w.params) mg "NoClash" "NoClash.__init__" s_NoClash_init ["self", "key", "column"] ["key", "column"] ∧ TopE (K w.params) mg "NoPage" "NoPage.__init__" s_NoPage_init ["self", "number"] ["number"] ∧ TopE (K w.params) mg "NoMake" "NoMake.__init__" s_NoMake_init ["self", "number"] ["number"] ∧ TopE (K w.params) mg "NotBroken" "NotBroken.__init__" s_NotBroken_init ["self", "number"] ["number"] ∧ TopE (K w.params) mg "NoName" "NoName.__init__" s_NoName_init ["self", "word"] ["word"] ∧ TopE (K w.params) mg "InUse" "InUse.__init__" s_InUse_init ["self", "word"] ["word"])
    (hF : ∀ ns : List Int, ns.length ≤ 63 → (∀ z ∈ ns, Builtin.Int.intBits z ≤ 1048576) → F_law [.lst (ns.map D.int)] [] = some (.bl true)) :
    PySem.W.WalkO q loose XP YP l.row.toRowW d [] (fun f vs => PySem.call f vs) := by
  refine law_end (k := 5) (x := "_law_script") hn hdf hd ⟨rfl, by decide, by decide⟩ hY (fun w mg h X G => ?_) hF
  obtain ⟨T, t_l_cell_at, t_l_mix, t_l_letters, t_l_key, t_l_classes, t_l_same, t_l_tells, t_l_good, t_law, t_l_raise, t_l_raise_plain, te_NotRising, te_NoRow, te_Unfit, te_NoColumn, te_ColumnThere, te_NoClash, te_NoPage, te_NoMake, te_NotBroken, te_NoName, te_InUse⟩ := F w mg h X G
  refine ok_law T t_law fun base X0 G0 => ?_
  have e1_NotRising : Xc1 l.prog w (K w.params) mg base "NotRising" ["key"] 1 := oke_NotRising te_NotRising
  have e1_NoRow : Xc1 l.prog w (K w.params) mg base "NoRow" ["key"] 1 := oke_NoRow te_NoRow
  have e1_Unfit : Xc1 l.prog w (K w.params) mg base "Unfit" ["key"] 1 := oke_Unfit te_Unfit
  have e1_NoColumn : Xc1 l.prog w (K w.params) mg base "NoColumn" ["column"] 1 := oke_NoColumn te_NoColumn
  have e1_ColumnThere : Xc1 l.prog w (K w.params) mg base "ColumnThere" ["column"] 1 := oke_ColumnThere te_ColumnThere
  have e1_NoClash : Xc1 l.prog w (K w.params) mg base "NoClash" ["key", "column"] 1 := oke_NoClash te_NoClash
  have e1_NoPage : Xc1 l.prog w (K w.params) mg base "NoPage" ["number"] 1 := oke_NoPage te_NoPage
  have e1_NoMake : Xc1 l.prog w (K w.params) mg base "NoMake" ["number"] 1 := oke_NoMake te_NoMake
  have e1_NotBroken : Xc1 l.prog w (K w.params) mg base "NotBroken" ["number"] 1 := oke_NotBroken te_NotBroken
  have e1_NoName : Xc1 l.prog w (K w.params) mg base "NoName" ["word"] 1 := oke_NoName te_NoName
  have e1_InUse : Xc1 l.prog w (K w.params) mg base "InUse" ["word"] 1 := oke_InUse te_InUse
  have c_l_cell_at : FnP l.prog w (K w.params) mg base "_law_cell_at" 2 1 F_l_cell_at := ok_l_cell_at T t_l_cell_at
  have c_l_mix : FnP l.prog w (K w.params) mg base "_law_mix" 2 1 F_l_mix := ok_l_mix T t_l_mix
  have c_l_letters : FnP l.prog w (K w.params) mg base "_law_letters" 1 2 F_l_letters := ok_l_letters T t_l_letters c_l_mix
  have c_l_key : FnP l.prog w (K w.params) mg base "_law_key" 1 3 F_l_key := ok_l_key T t_l_key c_l_letters
  have c_l_classes : FnP l.prog w (K w.params) mg base "_law_classes" 1 1 F_l_classes := ok_l_classes T t_l_classes
  have c_l_same : FnP l.prog w (K w.params) mg base "_law_same" 2 1 F_l_same := ok_l_same T t_l_same
  have c_l_tells : FnP l.prog w (K w.params) mg base "_law_tells" 5 2 F_l_tells := ok_l_tells T t_l_tells c_l_same
  have cx_l_raise_plain : FnX l.prog w (K w.params) mg base "_law_raise_plain" 1 1 X_l_raise_plain := okx_l_raise_plain T t_l_raise_plain
  have cx_l_raise : FnX l.prog w (K w.params) mg base "_law_raise" 5 3 X_l_raise := okx_l_raise T t_l_raise cx_l_raise_plain e1_NotRising e1_NoRow e1_Unfit e1_NoColumn e1_ColumnThere e1_NoClash e1_NoPage e1_NoMake e1_NotBroken e1_NoName e1_InUse
  have c_l_good : FnP l.prog w (K w.params) mg base "_law_good" 5 4 F_l_good := ok_l_good T t_l_good c_l_classes c_l_tells cx_l_raise
  exact ⟨c_l_key, c_l_cell_at, c_l_letters, c_l_good, trivial⟩
end Wktwigtable_k08_refusals
open PySem PySem.W PyProof.Rows
set_option maxRecDepth 100000 in
set_option maxHeartbeats 0 in
theorem PySem.Challenge.cw_twigtable_k08_refusals_holds : PySem.Challenge.rw_twigtable_k08_refusals.Holds := by
  w_on; o_law; k_head; (case hw => w_witness2)
  k_fill
  refine Wktwigtable_k08_refusals.walk (l := PySem.Challenge.rw_twigtable_k08_refusals) rfl rfl rfl (fun w h Y => PySem.W.kIn_of Y) ?F My.law_true
  case F =>
    intro w mg h KX G
    refine' Wktwigtable_k08_refusals.all_mk KX G ?a0 ?l0 ?c0 ?k0 ?a1 ?l1 ?c1 ?k1 ?a2 ?l2 ?c2 ?k2 ?a3 ?l3 ?c3 ?k3 ?a4 ?l4 ?c4 ?k4 ?a5 ?l5 ?c5 ?k5 ?a6 ?l6 ?c6 ?k6 ?a7 ?l7 ?c7 ?k7 ?a8 ?l8 ?c8 ?k8 ?a9 ?l9 ?c9 ?k9 ?a10 ?l10 ?c10 ?k10 ?kg_ ?kt_ ?ac_TableError ?e3_TableError ?e4_TableError ?hd_TableError ?ac_BadKey ?e3_BadKey ?e4_BadKey ?hd_BadKey ?e2_BadKey ?ga_BadKey ?gg_BadKey ?k1_BadKey ?k4_BadKey ?ex_BadKey ?ac_BadValue ?e3_BadValue ?e4_BadValue ?hd_BadValue ?e2_BadValue ?ga_BadValue ?gg_BadValue ?k1_BadValue ?k4_BadValue ?ex_BadValue ?ac_BadWord ?e3_BadWord ?e4_BadWord ?hd_BadWord ?e2_BadWord ?ga_BadWord ?gg_BadWord ?k1_BadWord ?k4_BadWord ?ex_BadWord ?ac_BadElders ?e3_BadElders ?e4_BadElders ?hd_BadElders ?e2_BadElders ?ga_BadElders ?gg_BadElders ?k1_BadElders ?k4_BadElders ?ex_BadElders ?ac_BadText ?e3_BadText ?e4_BadText ?hd_BadText ?e2_BadText ?ga_BadText ?gg_BadText ?k1_BadText ?k4_BadText ?ex_BadText ?ac_BadRow ?e3_BadRow ?e4_BadRow ?hd_BadRow ?e2_BadRow ?ga_BadRow ?gg_BadRow ?k1_BadRow ?k4_BadRow ?ex_BadRow ?ac_Unsaved ?e3_Unsaved ?e4_Unsaved ?hd_Unsaved ?e2_Unsaved ?ga_Unsaved ?gg_Unsaved ?k1_Unsaved ?k4_Unsaved ?ex_Unsaved ?ac_NotRising ?e3_NotRising ?e4_NotRising ?hd_NotRising ?e2_NotRising ?ga_NotRising ?gg_NotRising ?k1_NotRising ?k4_NotRising ?xL_NotRising ?rv_NotRising ?sa_NotRising ?hn_NotRising_key ?fi_NotRising ?ft_NotRising ?xl_NotRising ?xc_NotRising ?xk_NotRising ?ac_NoRow ?e3_NoRow ?e4_NoRow ?hd_NoRow ?e2_NoRow ?ga_NoRow ?gg_NoRow ?k1_NoRow ?k4_NoRow ?xL_NoRow ?rv_NoRow ?sa_NoRow ?hn_NoRow_key ?fi_NoRow ?ft_NoRow ?xl_NoRow ?xc_NoRow ?xk_NoRow ?ac_Unfit ?e3_Unfit ?e4_Unfit ?hd_Unfit ?e2_Unfit ?ga_Unfit ?gg_Unfit ?k1_Unfit ?k4_Unfit ?xL_Unfit ?rv_Unfit ?sa_Unfit ?hn_Unfit_key ?fi_Unfit ?ft_Unfit ?xl_Unfit ?xc_Unfit ?xk_Unfit ?ac_NoColumn ?e3_NoColumn ?e4_NoColumn ?hd_NoColumn ?e2_NoColumn ?ga_NoColumn ?gg_NoColumn ?k1_NoColumn ?k4_NoColumn ?xL_NoColumn ?rv_NoColumn ?sa_NoColumn ?hn_NoColumn_column ?fi_NoColumn ?ft_NoColumn ?xl_NoColumn ?xc_NoColumn ?xk_NoColumn ?ac_ColumnThere ?e3_ColumnThere ?e4_ColumnThere ?hd_ColumnThere ?e2_ColumnThere ?ga_ColumnThere ?gg_ColumnThere ?k1_ColumnThere ?k4_ColumnThere ?xL_ColumnThere ?rv_ColumnThere ?sa_ColumnThere ?hn_ColumnThere_column ?fi_ColumnThere ?ft_ColumnThere ?xl_ColumnThere ?xc_ColumnThere ?xk_ColumnThere ?ac_NoClash ?e3_NoClash ?e4_NoClash ?hd_NoClash ?e2_NoClash ?ga_NoClash ?gg_NoClash ?k1_NoClash ?k4_NoClash ?xL_NoClash ?rv_NoClash ?sa_NoClash ?hn_NoClash_key ?hn_NoClash_column ?fi_NoClash ?ft_NoClash ?xl_NoClash ?xc_NoClash ?xk_NoClash ?ac_NoPage ?e3_NoPage ?e4_NoPage ?hd_NoPage ?e2_NoPage ?ga_NoPage ?gg_NoPage ?k1_NoPage ?k4_NoPage ?xL_NoPage ?rv_NoPage ?sa_NoPage ?hn_NoPage_number ?fi_NoPage ?ft_NoPage ?xl_NoPage ?xc_NoPage ?xk_NoPage ?ac_NoMake ?e3_NoMake ?e4_NoMake ?hd_NoMake ?e2_NoMake ?ga_NoMake ?gg_NoMake ?k1_NoMake ?k4_NoMake ?xL_NoMake ?rv_NoMake ?sa_NoMake ?hn_NoMake_number ?fi_NoMake ?ft_NoMake ?xl_NoMake ?xc_NoMake ?xk_NoMake ?ac_NotBroken ?e3_NotBroken ?e4_NotBroken ?hd_NotBroken ?e2_NotBroken ?ga_NotBroken ?gg_NotBroken ?k1_NotBroken ?k4_NotBroken ?xL_NotBroken ?rv_NotBroken ?sa_NotBroken ?hn_NotBroken_number ?fi_NotBroken ?ft_NotBroken ?xl_NotBroken ?xc_NotBroken ?xk_NotBroken ?ac_NoName ?e3_NoName ?e4_NoName ?hd_NoName ?e2_NoName ?ga_NoName ?gg_NoName ?k1_NoName ?k4_NoName ?xL_NoName ?rv_NoName ?sa_NoName ?hn_NoName_word ?fi_NoName ?ft_NoName ?xl_NoName ?xc_NoName ?xk_NoName ?ac_InUse ?e3_InUse ?e4_InUse ?hd_InUse ?e2_InUse ?ga_InUse ?gg_InUse ?k1_InUse ?k4_InUse ?xL_InUse ?rv_InUse ?sa_InUse ?hn_InUse_word ?fi_InUse ?ft_InUse ?xl_InUse ?xc_InUse ?xk_InUse ?sx_BadKey_TableError ?sx_BadValue_TableError ?sx_BadWord_TableError ?sx_BadElders_TableError ?sx_BadText_TableError ?sx_BadRow_TableError ?sx_Unsaved_TableError ?sx_NotRising_TableError ?sx_NoRow_TableError ?sx_Unfit_TableError ?sx_NoColumn_TableError ?sx_ColumnThere_TableError ?sx_NoClash_TableError ?sx_NoPage_TableError ?sx_NoMake_TableError ?sx_NotBroken_TableError ?sx_NoName_TableError ?sx_InUse_TableError ?kx_InUse_BadElders ?kx_NoName_BadElders ?kx_NotBroken_BadElders ?kx_NoMake_BadElders ?kx_NoPage_BadElders ?kx_NoClash_BadElders ?kx_ColumnThere_BadElders ?kx_NoColumn_BadElders ?kx_Unfit_BadElders ?kx_NoRow_BadElders ?kx_NotRising_BadElders ?kx_Unsaved_BadElders ?kx_BadRow_BadElders ?kx_BadText_BadElders ?kx_BadElders_BadElders ?kx_BadWord_BadElders ?kx_BadValue_BadElders ?kx_BadKey_BadElders ?kx_InUse_BadWord ?kx_NoName_BadWord ?kx_NotBroken_BadWord ?kx_NoMake_BadWord ?kx_NoPage_BadWord ?kx_NoClash_BadWord ?kx_ColumnThere_BadWord ?kx_NoColumn_BadWord ?kx_Unfit_BadWord ?kx_NoRow_BadWord ?kx_NotRising_BadWord ?kx_Unsaved_BadWord ?kx_BadRow_BadWord ?kx_BadText_BadWord ?kx_BadElders_BadWord ?kx_BadWord_BadWord ?kx_BadValue_BadWord ?kx_BadKey_BadWord ?kx_InUse_BadValue ?kx_NoName_BadValue ?kx_NotBroken_BadValue ?kx_NoMake_BadValue ?kx_NoPage_BadValue ?kx_NoClash_BadValue ?kx_ColumnThere_BadValue ?kx_NoColumn_BadValue ?kx_Unfit_BadValue ?kx_NoRow_BadValue ?kx_NotRising_BadValue ?kx_Unsaved_BadValue ?kx_BadRow_BadValue ?kx_BadText_BadValue ?kx_BadElders_BadValue ?kx_BadWord_BadValue ?kx_BadValue_BadValue ?kx_BadKey_BadValue ?kx_InUse_BadKey ?kx_NoName_BadKey ?kx_NotBroken_BadKey ?kx_NoMake_BadKey ?kx_NoPage_BadKey ?kx_NoClash_BadKey ?kx_ColumnThere_BadKey ?kx_NoColumn_BadKey ?kx_Unfit_BadKey ?kx_NoRow_BadKey ?kx_NotRising_BadKey ?kx_Unsaved_BadKey ?kx_BadRow_BadKey ?kx_BadText_BadKey ?kx_BadElders_BadKey ?kx_BadWord_BadKey ?kx_BadValue_BadKey ?kx_BadKey_BadKey ?kx_InUse_NotRising ?kx_NoName_NotRising ?kx_NotBroken_NotRising ?kx_NoMake_NotRising ?kx_NoPage_NotRising ?kx_NoClash_NotRising ?kx_ColumnThere_NotRising ?kx_NoColumn_NotRising ?kx_Unfit_NotRising ?kx_NoRow_NotRising ?kx_NotRising_NotRising ?kx_Unsaved_NotRising ?kx_BadRow_NotRising ?kx_BadText_NotRising ?kx_BadElders_NotRising ?kx_BadWord_NotRising ?kx_BadValue_NotRising ?kx_BadKey_NotRising ?kx_InUse_Unsaved ?kx_NoName_Unsaved ?kx_NotBroken_Unsaved ?kx_NoMake_Unsaved ?kx_NoPage_Unsaved ?kx_NoClash_Unsaved ?kx_ColumnThere_Unsaved ?kx_NoColumn_Unsaved ?kx_Unfit_Unsaved ?kx_NoRow_Unsaved ?kx_NotRising_Unsaved ?kx_Unsaved_Unsaved ?kx_BadRow_Unsaved ?kx_BadText_Unsaved ?kx_BadElders_Unsaved ?kx_BadWord_Unsaved ?kx_BadValue_Unsaved ?kx_BadKey_Unsaved ?kx_InUse_BadRow ?kx_NoName_BadRow ?kx_NotBroken_BadRow ?kx_NoMake_BadRow ?kx_NoPage_BadRow ?kx_NoClash_BadRow ?kx_ColumnThere_BadRow ?kx_NoColumn_BadRow ?kx_Unfit_BadRow ?kx_NoRow_BadRow ?kx_NotRising_BadRow ?kx_Unsaved_BadRow ?kx_BadRow_BadRow ?kx_BadText_BadRow ?kx_BadElders_BadRow ?kx_BadWord_BadRow ?kx_BadValue_BadRow ?kx_BadKey_BadRow ?kx_InUse_BadText ?kx_NoName_BadText ?kx_NotBroken_BadText ?kx_NoMake_BadText ?kx_NoPage_BadText ?kx_NoClash_BadText ?kx_ColumnThere_BadText ?kx_NoColumn_BadText ?kx_Unfit_BadText ?kx_NoRow_BadText ?kx_NotRising_BadText ?kx_Unsaved_BadText ?kx_BadRow_BadText ?kx_BadText_BadText ?kx_BadElders_BadText ?kx_BadWord_BadText ?kx_BadValue_BadText ?kx_BadKey_BadText ?kx_InUse_ColumnThere ?kx_NoName_ColumnThere ?kx_NotBroken_ColumnThere ?kx_NoMake_ColumnThere ?kx_NoPage_ColumnThere ?kx_NoClash_ColumnThere ?kx_ColumnThere_ColumnThere ?kx_NoColumn_ColumnThere ?kx_Unfit_ColumnThere ?kx_NoRow_ColumnThere ?kx_NotRising_ColumnThere ?kx_Unsaved_ColumnThere ?kx_BadRow_ColumnThere ?kx_BadText_ColumnThere ?kx_BadElders_ColumnThere ?kx_BadWord_ColumnThere ?kx_BadValue_ColumnThere ?kx_BadKey_ColumnThere ?kx_InUse_NoColumn ?kx_NoName_NoColumn ?kx_NotBroken_NoColumn ?kx_NoMake_NoColumn ?kx_NoPage_NoColumn ?kx_NoClash_NoColumn ?kx_ColumnThere_NoColumn ?kx_NoColumn_NoColumn ?kx_Unfit_NoColumn ?kx_NoRow_NoColumn ?kx_NotRising_NoColumn ?kx_Unsaved_NoColumn ?kx_BadRow_NoColumn ?kx_BadText_NoColumn ?kx_BadElders_NoColumn ?kx_BadWord_NoColumn ?kx_BadValue_NoColumn ?kx_BadKey_NoColumn ?kx_InUse_Unfit ?kx_NoName_Unfit ?kx_NotBroken_Unfit ?kx_NoMake_Unfit ?kx_NoPage_Unfit ?kx_NoClash_Unfit ?kx_ColumnThere_Unfit ?kx_NoColumn_Unfit ?kx_Unfit_Unfit ?kx_NoRow_Unfit ?kx_NotRising_Unfit ?kx_Unsaved_Unfit ?kx_BadRow_Unfit ?kx_BadText_Unfit ?kx_BadElders_Unfit ?kx_BadWord_Unfit ?kx_BadValue_Unfit ?kx_BadKey_Unfit ?kx_InUse_NoRow ?kx_NoName_NoRow ?kx_NotBroken_NoRow ?kx_NoMake_NoRow ?kx_NoPage_NoRow ?kx_NoClash_NoRow ?kx_ColumnThere_NoRow ?kx_NoColumn_NoRow ?kx_Unfit_NoRow ?kx_NoRow_NoRow ?kx_NotRising_NoRow ?kx_Unsaved_NoRow ?kx_BadRow_NoRow ?kx_BadText_NoRow ?kx_BadElders_NoRow ?kx_BadWord_NoRow ?kx_BadValue_NoRow ?kx_BadKey_NoRow ?kx_InUse_NotBroken ?kx_NoName_NotBroken ?kx_NotBroken_NotBroken ?kx_NoMake_NotBroken ?kx_NoPage_NotBroken ?kx_NoClash_NotBroken ?kx_ColumnThere_NotBroken ?kx_NoColumn_NotBroken ?kx_Unfit_NotBroken ?kx_NoRow_NotBroken ?kx_NotRising_NotBroken ?kx_Unsaved_NotBroken ?kx_BadRow_NotBroken ?kx_BadText_NotBroken ?kx_BadElders_NotBroken ?kx_BadWord_NotBroken ?kx_BadValue_NotBroken ?kx_BadKey_NotBroken ?kx_InUse_NoMake ?kx_NoName_NoMake ?kx_NotBroken_NoMake ?kx_NoMake_NoMake ?kx_NoPage_NoMake ?kx_NoClash_NoMake ?kx_ColumnThere_NoMake ?kx_NoColumn_NoMake ?kx_Unfit_NoMake ?kx_NoRow_NoMake ?kx_NotRising_NoMake ?kx_Unsaved_NoMake ?kx_BadRow_NoMake ?kx_BadText_NoMake ?kx_BadElders_NoMake ?kx_BadWord_NoMake ?kx_BadValue_NoMake ?kx_BadKey_NoMake ?kx_InUse_NoPage ?kx_NoName_NoPage ?kx_NotBroken_NoPage ?kx_NoMake_NoPage ?kx_NoPage_NoPage ?kx_NoClash_NoPage ?kx_ColumnThere_NoPage ?kx_NoColumn_NoPage ?kx_Unfit_NoPage ?kx_NoRow_NoPage ?kx_NotRising_NoPage ?kx_Unsaved_NoPage ?kx_BadRow_NoPage ?kx_BadText_NoPage ?kx_BadElders_NoPage ?kx_BadWord_NoPage ?kx_BadValue_NoPage ?kx_BadKey_NoPage ?kx_InUse_NoClash ?kx_NoName_NoClash ?kx_NotBroken_NoClash ?kx_NoMake_NoClash ?kx_NoPage_NoClash ?kx_NoClash_NoClash ?kx_ColumnThere_NoClash ?kx_NoColumn_NoClash ?kx_Unfit_NoClash ?kx_NoRow_NoClash ?kx_NotRising_NoClash ?kx_Unsaved_NoClash ?kx_BadRow_NoClash ?kx_BadText_NoClash ?kx_BadElders_NoClash ?kx_BadWord_NoClash ?kx_BadValue_NoClash ?kx_BadKey_NoClash ?kx_InUse_InUse ?kx_NoName_InUse ?kx_NotBroken_InUse ?kx_NoMake_InUse ?kx_NoPage_InUse ?kx_NoClash_InUse ?kx_ColumnThere_InUse ?kx_NoColumn_InUse ?kx_Unfit_InUse ?kx_NoRow_InUse ?kx_NotRising_InUse ?kx_Unsaved_InUse ?kx_BadRow_InUse ?kx_BadText_InUse ?kx_BadElders_InUse ?kx_BadWord_InUse ?kx_BadValue_InUse ?kx_BadKey_InUse ?kx_InUse_NoName ?kx_NoName_NoName ?kx_NotBroken_NoName ?kx_NoMake_NoName ?kx_NoPage_NoName ?kx_NoClash_NoName ?kx_ColumnThere_NoName ?kx_NoColumn_NoName ?kx_Unfit_NoName ?kx_NoRow_NoName ?kx_NotRising_NoName ?kx_Unsaved_NoName ?kx_BadRow_NoName ?kx_BadText_NoName ?kx_BadElders_NoName ?kx_BadWord_NoName ?kx_BadValue_NoName ?kx_BadKey_NoName ?ky_InUse_ValueError ?ky_NoName_ValueError ?ky_NotBroken_ValueError ?ky_NoMake_ValueError ?ky_NoPage_ValueError ?ky_NoClash_ValueError ?ky_ColumnThere_ValueError ?ky_NoColumn_ValueError ?ky_Unfit_ValueError ?ky_NoRow_ValueError ?ky_NotRising_ValueError ?ky_Unsaved_ValueError ?ky_BadRow_ValueError ?ky_BadText_ValueError ?ky_BadElders_ValueError ?ky_BadWord_ValueError ?ky_BadValue_ValueError ?ky_BadKey_ValueError ?z_ValueError ?z_bool ?z_int ?z_isinstance ?z_len ?z_range ?z_str
    (case a0 => k_is)
    (case l0 => k_is)
    (case c0 => k_is)
    (case k0 => k_is)
    (case a1 => k_is)
    (case l1 => k_is)
    (case c1 => k_is)
    (case k1 => k_is)
    (case a2 => k_is)
    (case l2 => k_is)
    (case c2 => k_is)
    (case k2 => k_is)
    (case a3 => k_is)
    (case l3 => k_is)
    (case c3 => k_is)
    (case k3 => k_is)
    (case a4 => k_is)
    (case l4 => k_is)
    (case c4 => k_is)
    (case k4 => k_is)
    (case a5 => k_is)
    (case l5 => k_is)
    (case c5 => k_is)
    (case k5 => k_is)
    (case a6 => k_is)
    (case l6 => k_is)
    (case c6 => k_is)
    (case k6 => k_is)
    (case a7 => k_is)
    (case l7 => k_is)
    (case c7 => k_is)
    (case k7 => k_is)
    (case a8 => k_is)
    (case l8 => k_is)
    (case c8 => k_is)
    (case k8 => k_is)
    (case a9 => k_is)
    (case l9 => k_is)
    (case c9 => k_is)
    (case k9 => k_is)
    (case a10 => k_is)
    (case l10 => k_is)
    (case c10 => k_is)
    (case k10 => k_is)
    (case kg_ => k_is)
    (case kt_ => k_is)
    (case ac_TableError => k_is)
    (case e3_TableError => k_is)
    (case e4_TableError => k_is)
    (case hd_TableError => k_is)
    (case ac_BadKey => k_is)
    (case e3_BadKey => k_is)
    (case e4_BadKey => k_is)
    (case hd_BadKey => k_is)
    (case e2_BadKey => k_is)
    (case ga_BadKey => k_is)
    (case gg_BadKey => k_is)
    (case k1_BadKey => k_is)
    (case k4_BadKey => k_is)
    (case ex_BadKey => k_exc)
    (case ac_BadValue => k_is)
    (case e3_BadValue => k_is)
    (case e4_BadValue => k_is)
    (case hd_BadValue => k_is)
    (case e2_BadValue => k_is)
    (case ga_BadValue => k_is)
    (case gg_BadValue => k_is)
    (case k1_BadValue => k_is)
    (case k4_BadValue => k_is)
    (case ex_BadValue => k_exc)
    (case ac_BadWord => k_is)
    (case e3_BadWord => k_is)
    (case e4_BadWord => k_is)
    (case hd_BadWord => k_is)
    (case e2_BadWord => k_is)
    (case ga_BadWord => k_is)
    (case gg_BadWord => k_is)
    (case k1_BadWord => k_is)
    (case k4_BadWord => k_is)
    (case ex_BadWord => k_exc)
    (case ac_BadElders => k_is)
    (case e3_BadElders => k_is)
    (case e4_BadElders => k_is)
    (case hd_BadElders => k_is)
    (case e2_BadElders => k_is)
    (case ga_BadElders => k_is)
    (case gg_BadElders => k_is)
    (case k1_BadElders => k_is)
    (case k4_BadElders => k_is)
    (case ex_BadElders => k_exc)
    (case ac_BadText => k_is)
    (case e3_BadText => k_is)
    (case e4_BadText => k_is)
    (case hd_BadText => k_is)
    (case e2_BadText => k_is)
    (case ga_BadText => k_is)
    (case gg_BadText => k_is)
    (case k1_BadText => k_is)
    (case k4_BadText => k_is)
    (case ex_BadText => k_exc)
    (case ac_BadRow => k_is)
    (case e3_BadRow => k_is)
    (case e4_BadRow => k_is)
    (case hd_BadRow => k_is)
    (case e2_BadRow => k_is)
    (case ga_BadRow => k_is)
    (case gg_BadRow => k_is)
    (case k1_BadRow => k_is)
    (case k4_BadRow => k_is)
    (case ex_BadRow => k_exc)
    (case ac_Unsaved => k_is)
    (case e3_Unsaved => k_is)
    (case e4_Unsaved => k_is)
    (case hd_Unsaved => k_is)
    (case e2_Unsaved => k_is)
    (case ga_Unsaved => k_is)
    (case gg_Unsaved => k_is)
    (case k1_Unsaved => k_is)
    (case k4_Unsaved => k_is)
    (case ex_Unsaved => k_exc)
    (case ac_NotRising => k_is)
    (case e3_NotRising => k_is)
    (case e4_NotRising => k_is)
    (case hd_NotRising => k_is)
    (case e2_NotRising => k_is)
    (case ga_NotRising => k_is)
    (case gg_NotRising => k_is)
    (case k1_NotRising => k_is)
    (case k4_NotRising => k_is)
    (case xL_NotRising => k_is)
    (case rv_NotRising => first | rfl | decide +kernel)
    (case sa_NotRising => k_is)
    (case hn_NotRising_key => k_is)
    (case fi_NotRising => k_is)
    (case ft_NotRising => k_is)
    (case xl_NotRising => k_is)
    (case xc_NotRising => k_is)
    (case xk_NotRising => k_is)
    (case ac_NoRow => k_is)
    (case e3_NoRow => k_is)
    (case e4_NoRow => k_is)
    (case hd_NoRow => k_is)
    (case e2_NoRow => k_is)
    (case ga_NoRow => k_is)
    (case gg_NoRow => k_is)
    (case k1_NoRow => k_is)
    (case k4_NoRow => k_is)
    (case xL_NoRow => k_is)
    (case rv_NoRow => first | rfl | decide +kernel)
    (case sa_NoRow => k_is)
    (case hn_NoRow_key => k_is)
    (case fi_NoRow => k_is)
    (case ft_NoRow => k_is)
    (case xl_NoRow => k_is)
    (case xc_NoRow => k_is)
    (case xk_NoRow => k_is)
    (case ac_Unfit => k_is)
    (case e3_Unfit => k_is)
    (case e4_Unfit => k_is)
    (case hd_Unfit => k_is)
    (case e2_Unfit => k_is)
    (case ga_Unfit => k_is)
    (case gg_Unfit => k_is)
    (case k1_Unfit => k_is)
    (case k4_Unfit => k_is)
    (case xL_Unfit => k_is)
    (case rv_Unfit => first | rfl | decide +kernel)
    (case sa_Unfit => k_is)
    (case hn_Unfit_key => k_is)
    (case fi_Unfit => k_is)
    (case ft_Unfit => k_is)
    (case xl_Unfit => k_is)
    (case xc_Unfit => k_is)
    (case xk_Unfit => k_is)
    (case ac_NoColumn => k_is)
    (case e3_NoColumn => k_is)
    (case e4_NoColumn => k_is)
    (case hd_NoColumn => k_is)
    (case e2_NoColumn => k_is)
    (case ga_NoColumn => k_is)
    (case gg_NoColumn => k_is)
    (case k1_NoColumn => k_is)
    (case k4_NoColumn => k_is)
    (case xL_NoColumn => k_is)
    (case rv_NoColumn => first | rfl | decide +kernel)
    (case sa_NoColumn => k_is)
    (case hn_NoColumn_column => k_is)
    (case fi_NoColumn => k_is)
    (case ft_NoColumn => k_is)
    (case xl_NoColumn => k_is)
    (case xc_NoColumn => k_is)
    (case xk_NoColumn => k_is)
    (case ac_ColumnThere => k_is)
    (case e3_ColumnThere => k_is)
    (case e4_ColumnThere => k_is)
    (case hd_ColumnThere => k_is)
    (case e2_ColumnThere => k_is)
    (case ga_ColumnThere => k_is)
    (case gg_ColumnThere => k_is)
    (case k1_ColumnThere => k_is)
    (case k4_ColumnThere => k_is)
    (case xL_ColumnThere => k_is)
    (case rv_ColumnThere => first | rfl | decide +kernel)
    (case sa_ColumnThere => k_is)
    (case hn_ColumnThere_column => k_is)
    (case fi_ColumnThere => k_is)
    (case ft_ColumnThere => k_is)
    (case xl_ColumnThere => k_is)
    (case xc_ColumnThere => k_is)
    (case xk_ColumnThere => k_is)
    (case ac_NoClash => k_is)
    (case e3_NoClash => k_is)
    (case e4_NoClash => k_is)
    (case hd_NoClash => k_is)
    (case e2_NoClash => k_is)
    (case ga_NoClash => k_is)
    (case gg_NoClash => k_is)
    (case k1_NoClash => k_is)
    (case k4_NoClash => k_is)
    (case xL_NoClash => k_is)
    (case rv_NoClash => first | rfl | decide +kernel)
    (case sa_NoClash => k_is)
    (case hn_NoClash_key => k_is)
    (case hn_NoClash_column => k_is)
    (case fi_NoClash => k_is)
    (case ft_NoClash => k_is)
    (case xl_NoClash => k_is)
    (case xc_NoClash => k_is)
    (case xk_NoClash => k_is)
    (case ac_NoPage => k_is)
    (case e3_NoPage => k_is)
    (case e4_NoPage => k_is)
    (case hd_NoPage => k_is)
    (case e2_NoPage => k_is)
    (case ga_NoPage => k_is)
    (case gg_NoPage => k_is)
    (case k1_NoPage => k_is)
    (case k4_NoPage => k_is)
    (case xL_NoPage => k_is)
    (case rv_NoPage => first | rfl | decide +kernel)
    (case sa_NoPage => k_is)
    (case hn_NoPage_number => k_is)
    (case fi_NoPage => k_is)
    (case ft_NoPage => k_is)
    (case xl_NoPage => k_is)
    (case xc_NoPage => k_is)
    (case xk_NoPage => k_is)
    (case ac_NoMake => k_is)
    (case e3_NoMake => k_is)
    (case e4_NoMake => k_is)
    (case hd_NoMake => k_is)
    (case e2_NoMake => k_is)
    (case ga_NoMake => k_is)
    (case gg_NoMake => k_is)
    (case k1_NoMake => k_is)
    (case k4_NoMake => k_is)
    (case xL_NoMake => k_is)
    (case rv_NoMake => first | rfl | decide +kernel)
    (case sa_NoMake => k_is)
    (case hn_NoMake_number => k_is)
    (case fi_NoMake => k_is)
    (case ft_NoMake => k_is)
    (case xl_NoMake => k_is)
    (case xc_NoMake => k_is)
    (case xk_NoMake => k_is)
    (case ac_NotBroken => k_is)
    (case e3_NotBroken => k_is)
    (case e4_NotBroken => k_is)
    (case hd_NotBroken => k_is)
    (case e2_NotBroken => k_is)
    (case ga_NotBroken => k_is)
    (case gg_NotBroken => k_is)
    (case k1_NotBroken => k_is)
    (case k4_NotBroken => k_is)
    (case xL_NotBroken => k_is)
    (case rv_NotBroken => first | rfl | decide +kernel)
    (case sa_NotBroken => k_is)
    (case hn_NotBroken_number => k_is)
    (case fi_NotBroken => k_is)
    (case ft_NotBroken => k_is)
    (case xl_NotBroken => k_is)
    (case xc_NotBroken => k_is)
    (case xk_NotBroken => k_is)
    (case ac_NoName => k_is)
    (case e3_NoName => k_is)
    (case e4_NoName => k_is)
    (case hd_NoName => k_is)
    (case e2_NoName => k_is)
    (case ga_NoName => k_is)
    (case gg_NoName => k_is)
    (case k1_NoName => k_is)
    (case k4_NoName => k_is)
    (case xL_NoName => k_is)
    (case rv_NoName => first | rfl | decide +kernel)
    (case sa_NoName => k_is)
    (case hn_NoName_word => k_is)
    (case fi_NoName => k_is)
    (case ft_NoName => k_is)
    (case xl_NoName => k_is)
    (case xc_NoName => k_is)
    (case xk_NoName => k_is)
    (case ac_InUse => k_is)
    (case e3_InUse => k_is)
    (case e4_InUse => k_is)
    (case hd_InUse => k_is)
    (case e2_InUse => k_is)
    (case ga_InUse => k_is)
    (case gg_InUse => k_is)
    (case k1_InUse => k_is)
    (case k4_InUse => k_is)
    (case xL_InUse => k_is)
    (case rv_InUse => first | rfl | decide +kernel)
    (case sa_InUse => k_is)
    (case hn_InUse_word => k_is)
    (case fi_InUse => k_is)
    (case ft_InUse => k_is)
    (case xl_InUse => k_is)
    (case xc_InUse => k_is)
    (case xk_InUse => k_is)
    (case sx_BadKey_TableError => first | k_is | rfl)
    (case sx_BadValue_TableError => first | k_is | rfl)
    (case sx_BadWord_TableError => first | k_is | rfl)
    (case sx_BadElders_TableError => first | k_is | rfl)
    (case sx_BadText_TableError => first | k_is | rfl)
    (case sx_BadRow_TableError => first | k_is | rfl)
    (case sx_Unsaved_TableError => first | k_is | rfl)
    (case sx_NotRising_TableError => first | k_is | rfl)
    (case sx_NoRow_TableError => first | k_is | rfl)
    (case sx_Unfit_TableError => first | k_is | rfl)
    (case sx_NoColumn_TableError => first | k_is | rfl)
    (case sx_ColumnThere_TableError => first | k_is | rfl)
    (case sx_NoClash_TableError => first | k_is | rfl)
    (case sx_NoPage_TableError => first | k_is | rfl)
    (case sx_NoMake_TableError => first | k_is | rfl)
    (case sx_NotBroken_TableError => first | k_is | rfl)
    (case sx_NoName_TableError => first | k_is | rfl)
    (case sx_InUse_TableError => first | k_is | rfl)
    (case kx_InUse_BadElders => kit_is)
    (case kx_NoName_BadElders => kit_is)
    (case kx_NotBroken_BadElders => kit_is)
    (case kx_NoMake_BadElders => kit_is)
    (case kx_NoPage_BadElders => kit_is)
    (case kx_NoClash_BadElders => kit_is)
    (case kx_ColumnThere_BadElders => kit_is)
    (case kx_NoColumn_BadElders => kit_is)
    (case kx_Unfit_BadElders => kit_is)
    (case kx_NoRow_BadElders => kit_is)
    (case kx_NotRising_BadElders => kit_is)
    (case kx_Unsaved_BadElders => kit_is)
    (case kx_BadRow_BadElders => kit_is)
    (case kx_BadText_BadElders => kit_is)
    (case kx_BadElders_BadElders => kit_is)
    (case kx_BadWord_BadElders => kit_is)
    (case kx_BadValue_BadElders => kit_is)
    (case kx_BadKey_BadElders => kit_is)
    (case kx_InUse_BadWord => kit_is)
    (case kx_NoName_BadWord => kit_is)
    (case kx_NotBroken_BadWord => kit_is)
    (case kx_NoMake_BadWord => kit_is)
    (case kx_NoPage_BadWord => kit_is)
    (case kx_NoClash_BadWord => kit_is)
    (case kx_ColumnThere_BadWord => kit_is)
    (case kx_NoColumn_BadWord => kit_is)
    (case kx_Unfit_BadWord => kit_is)
    (case kx_NoRow_BadWord => kit_is)
    (case kx_NotRising_BadWord => kit_is)
    (case kx_Unsaved_BadWord => kit_is)
    (case kx_BadRow_BadWord => kit_is)
    (case kx_BadText_BadWord => kit_is)
    (case kx_BadElders_BadWord => kit_is)
    (case kx_BadWord_BadWord => kit_is)
    (case kx_BadValue_BadWord => kit_is)
    (case kx_BadKey_BadWord => kit_is)
    (case kx_InUse_BadValue => kit_is)
    (case kx_NoName_BadValue => kit_is)
    (case kx_NotBroken_BadValue => kit_is)
    (case kx_NoMake_BadValue => kit_is)
    (case kx_NoPage_BadValue => kit_is)
    (case kx_NoClash_BadValue => kit_is)
    (case kx_ColumnThere_BadValue => kit_is)
    (case kx_NoColumn_BadValue => kit_is)
    (case kx_Unfit_BadValue => kit_is)
    (case kx_NoRow_BadValue => kit_is)
    (case kx_NotRising_BadValue => kit_is)
    (case kx_Unsaved_BadValue => kit_is)
    (case kx_BadRow_BadValue => kit_is)
    (case kx_BadText_BadValue => kit_is)
    (case kx_BadElders_BadValue => kit_is)
    (case kx_BadWord_BadValue => kit_is)
    (case kx_BadValue_BadValue => kit_is)
    (case kx_BadKey_BadValue => kit_is)
    (case kx_InUse_BadKey => kit_is)
    (case kx_NoName_BadKey => kit_is)
    (case kx_NotBroken_BadKey => kit_is)
    (case kx_NoMake_BadKey => kit_is)
    (case kx_NoPage_BadKey => kit_is)
    (case kx_NoClash_BadKey => kit_is)
    (case kx_ColumnThere_BadKey => kit_is)
    (case kx_NoColumn_BadKey => kit_is)
    (case kx_Unfit_BadKey => kit_is)
    (case kx_NoRow_BadKey => kit_is)
    (case kx_NotRising_BadKey => kit_is)
    (case kx_Unsaved_BadKey => kit_is)
    (case kx_BadRow_BadKey => kit_is)
    (case kx_BadText_BadKey => kit_is)
    (case kx_BadElders_BadKey => kit_is)
    (case kx_BadWord_BadKey => kit_is)
    (case kx_BadValue_BadKey => kit_is)
    (case kx_BadKey_BadKey => kit_is)
    (case kx_InUse_NotRising => kit_is)
    (case kx_NoName_NotRising => kit_is)
    (case kx_NotBroken_NotRising => kit_is)
    (case kx_NoMake_NotRising => kit_is)
    (case kx_NoPage_NotRising => kit_is)
    (case kx_NoClash_NotRising => kit_is)
    (case kx_ColumnThere_NotRising => kit_is)
    (case kx_NoColumn_NotRising => kit_is)
    (case kx_Unfit_NotRising => kit_is)
    (case kx_NoRow_NotRising => kit_is)
    (case kx_NotRising_NotRising => kit_is)
    (case kx_Unsaved_NotRising => kit_is)
    (case kx_BadRow_NotRising => kit_is)
    (case kx_BadText_NotRising => kit_is)
    (case kx_BadElders_NotRising => kit_is)
    (case kx_BadWord_NotRising => kit_is)
    (case kx_BadValue_NotRising => kit_is)
    (case kx_BadKey_NotRising => kit_is)
    (case kx_InUse_Unsaved => kit_is)
    (case kx_NoName_Unsaved => kit_is)
    (case kx_NotBroken_Unsaved => kit_is)
    (case kx_NoMake_Unsaved => kit_is)
    (case kx_NoPage_Unsaved => kit_is)
    (case kx_NoClash_Unsaved => kit_is)
    (case kx_ColumnThere_Unsaved => kit_is)
    (case kx_NoColumn_Unsaved => kit_is)
    (case kx_Unfit_Unsaved => kit_is)
    (case kx_NoRow_Unsaved => kit_is)
    (case kx_NotRising_Unsaved => kit_is)
    (case kx_Unsaved_Unsaved => kit_is)
    (case kx_BadRow_Unsaved => kit_is)
    (case kx_BadText_Unsaved => kit_is)
    (case kx_BadElders_Unsaved => kit_is)
    (case kx_BadWord_Unsaved => kit_is)
    (case kx_BadValue_Unsaved => kit_is)
    (case kx_BadKey_Unsaved => kit_is)
    (case kx_InUse_BadRow => kit_is)
    (case kx_NoName_BadRow => kit_is)
    (case kx_NotBroken_BadRow => kit_is)
    (case kx_NoMake_BadRow => kit_is)
    (case kx_NoPage_BadRow => kit_is)
    (case kx_NoClash_BadRow => kit_is)
    (case kx_ColumnThere_BadRow => kit_is)
    (case kx_NoColumn_BadRow => kit_is)
    (case kx_Unfit_BadRow => kit_is)
    (case kx_NoRow_BadRow => kit_is)
    (case kx_NotRising_BadRow => kit_is)
    (case kx_Unsaved_BadRow => kit_is)
    (case kx_BadRow_BadRow => kit_is)
    (case kx_BadText_BadRow => kit_is)
    (case kx_BadElders_BadRow => kit_is)
    (case kx_BadWord_BadRow => kit_is)
    (case kx_BadValue_BadRow => kit_is)
    (case kx_BadKey_BadRow => kit_is)
    (case kx_InUse_BadText => kit_is)
    (case kx_NoName_BadText => kit_is)
    (case kx_NotBroken_BadText => kit_is)
    (case kx_NoMake_BadText => kit_is)
    (case kx_NoPage_BadText => kit_is)
    (case kx_NoClash_BadText => kit_is)
    (case kx_ColumnThere_BadText => kit_is)
    (case kx_NoColumn_BadText => kit_is)
    (case kx_Unfit_BadText => kit_is)
    (case kx_NoRow_BadText => kit_is)
    (case kx_NotRising_BadText => kit_is)
    (case kx_Unsaved_BadText => kit_is)
    (case kx_BadRow_BadText => kit_is)
    (case kx_BadText_BadText => kit_is)
    (case kx_BadElders_BadText => kit_is)
    (case kx_BadWord_BadText => kit_is)
    (case kx_BadValue_BadText => kit_is)
    (case kx_BadKey_BadText => kit_is)
    (case kx_InUse_ColumnThere => kit_is)
    (case kx_NoName_ColumnThere => kit_is)
    (case kx_NotBroken_ColumnThere => kit_is)
    (case kx_NoMake_ColumnThere => kit_is)
    (case kx_NoPage_ColumnThere => kit_is)
    (case kx_NoClash_ColumnThere => kit_is)
    (case kx_ColumnThere_ColumnThere => kit_is)
    (case kx_NoColumn_ColumnThere => kit_is)
    (case kx_Unfit_ColumnThere => kit_is)
    (case kx_NoRow_ColumnThere => kit_is)
    (case kx_NotRising_ColumnThere => kit_is)
    (case kx_Unsaved_ColumnThere => kit_is)
    (case kx_BadRow_ColumnThere => kit_is)
    (case kx_BadText_ColumnThere => kit_is)
    (case kx_BadElders_ColumnThere => kit_is)
    (case kx_BadWord_ColumnThere => kit_is)
    (case kx_BadValue_ColumnThere => kit_is)
    (case kx_BadKey_ColumnThere => kit_is)
    (case kx_InUse_NoColumn => kit_is)
    (case kx_NoName_NoColumn => kit_is)
    (case kx_NotBroken_NoColumn => kit_is)
    (case kx_NoMake_NoColumn => kit_is)
    (case kx_NoPage_NoColumn => kit_is)
    (case kx_NoClash_NoColumn => kit_is)
    (case kx_ColumnThere_NoColumn => kit_is)
    (case kx_NoColumn_NoColumn => kit_is)
    (case kx_Unfit_NoColumn => kit_is)
    (case kx_NoRow_NoColumn => kit_is)
    (case kx_NotRising_NoColumn => kit_is)
    (case kx_Unsaved_NoColumn => kit_is)
    (case kx_BadRow_NoColumn => kit_is)
    (case kx_BadText_NoColumn => kit_is)
    (case kx_BadElders_NoColumn => kit_is)
    (case kx_BadWord_NoColumn => kit_is)
    (case kx_BadValue_NoColumn => kit_is)
    (case kx_BadKey_NoColumn => kit_is)
    (case kx_InUse_Unfit => kit_is)
    (case kx_NoName_Unfit => kit_is)
    (case kx_NotBroken_Unfit => kit_is)
    (case kx_NoMake_Unfit => kit_is)
    (case kx_NoPage_Unfit => kit_is)
    (case kx_NoClash_Unfit => kit_is)
    (case kx_ColumnThere_Unfit => kit_is)
    (case kx_NoColumn_Unfit => kit_is)
    (case kx_Unfit_Unfit => kit_is)
    (case kx_NoRow_Unfit => kit_is)
    (case kx_NotRising_Unfit => kit_is)
    (case kx_Unsaved_Unfit => kit_is)
    (case kx_BadRow_Unfit => kit_is)
    (case kx_BadText_Unfit => kit_is)
    (case kx_BadElders_Unfit => kit_is)
    (case kx_BadWord_Unfit => kit_is)
    (case kx_BadValue_Unfit => kit_is)
    (case kx_BadKey_Unfit => kit_is)
    (case kx_InUse_NoRow => kit_is)
    (case kx_NoName_NoRow => kit_is)
    (case kx_NotBroken_NoRow => kit_is)
    (case kx_NoMake_NoRow => kit_is)
    (case kx_NoPage_NoRow => kit_is)
    (case kx_NoClash_NoRow => kit_is)
    (case kx_ColumnThere_NoRow => kit_is)
    (case kx_NoColumn_NoRow => kit_is)
    (case kx_Unfit_NoRow => kit_is)
    (case kx_NoRow_NoRow => kit_is)
    (case kx_NotRising_NoRow => kit_is)
    (case kx_Unsaved_NoRow => kit_is)
    (case kx_BadRow_NoRow => kit_is)
    (case kx_BadText_NoRow => kit_is)
    (case kx_BadElders_NoRow => kit_is)
    (case kx_BadWord_NoRow => kit_is)
    (case kx_BadValue_NoRow => kit_is)
    (case kx_BadKey_NoRow => kit_is)
    (case kx_InUse_NotBroken => kit_is)
    (case kx_NoName_NotBroken => kit_is)
    (case kx_NotBroken_NotBroken => kit_is)
    (case kx_NoMake_NotBroken => kit_is)
    (case kx_NoPage_NotBroken => kit_is)
    (case kx_NoClash_NotBroken => kit_is)
    (case kx_ColumnThere_NotBroken => kit_is)
    (case kx_NoColumn_NotBroken => kit_is)
    (case kx_Unfit_NotBroken => kit_is)
    (case kx_NoRow_NotBroken => kit_is)
    (case kx_NotRising_NotBroken => kit_is)
    (case kx_Unsaved_NotBroken => kit_is)
    (case kx_BadRow_NotBroken => kit_is)
    (case kx_BadText_NotBroken => kit_is)
    (case kx_BadElders_NotBroken => kit_is)
    (case kx_BadWord_NotBroken => kit_is)
    (case kx_BadValue_NotBroken => kit_is)
    (case kx_BadKey_NotBroken => kit_is)
    (case kx_InUse_NoMake => kit_is)
    (case kx_NoName_NoMake => kit_is)
    (case kx_NotBroken_NoMake => kit_is)
    (case kx_NoMake_NoMake => kit_is)
    (case kx_NoPage_NoMake => kit_is)
    (case kx_NoClash_NoMake => kit_is)
    (case kx_ColumnThere_NoMake => kit_is)
    (case kx_NoColumn_NoMake => kit_is)
    (case kx_Unfit_NoMake => kit_is)
    (case kx_NoRow_NoMake => kit_is)
    (case kx_NotRising_NoMake => kit_is)
    (case kx_Unsaved_NoMake => kit_is)
    (case kx_BadRow_NoMake => kit_is)
    (case kx_BadText_NoMake => kit_is)
    (case kx_BadElders_NoMake => kit_is)
    (case kx_BadWord_NoMake => kit_is)
    (case kx_BadValue_NoMake => kit_is)
    (case kx_BadKey_NoMake => kit_is)
    (case kx_InUse_NoPage => kit_is)
    (case kx_NoName_NoPage => kit_is)
    (case kx_NotBroken_NoPage => kit_is)
    (case kx_NoMake_NoPage => kit_is)
    (case kx_NoPage_NoPage => kit_is)
    (case kx_NoClash_NoPage => kit_is)
    (case kx_ColumnThere_NoPage => kit_is)
    (case kx_NoColumn_NoPage => kit_is)
    (case kx_Unfit_NoPage => kit_is)
    (case kx_NoRow_NoPage => kit_is)
    (case kx_NotRising_NoPage => kit_is)
    (case kx_Unsaved_NoPage => kit_is)
    (case kx_BadRow_NoPage => kit_is)
    (case kx_BadText_NoPage => kit_is)
    (case kx_BadElders_NoPage => kit_is)
    (case kx_BadWord_NoPage => kit_is)
    (case kx_BadValue_NoPage => kit_is)
    (case kx_BadKey_NoPage => kit_is)
    (case kx_InUse_NoClash => kit_is)
    (case kx_NoName_NoClash => kit_is)
    (case kx_NotBroken_NoClash => kit_is)
    (case kx_NoMake_NoClash => kit_is)
    (case kx_NoPage_NoClash => kit_is)
    (case kx_NoClash_NoClash => kit_is)
    (case kx_ColumnThere_NoClash => kit_is)
    (case kx_NoColumn_NoClash => kit_is)
    (case kx_Unfit_NoClash => kit_is)
    (case kx_NoRow_NoClash => kit_is)
    (case kx_NotRising_NoClash => kit_is)
    (case kx_Unsaved_NoClash => kit_is)
    (case kx_BadRow_NoClash => kit_is)
    (case kx_BadText_NoClash => kit_is)
    (case kx_BadElders_NoClash => kit_is)
    (case kx_BadWord_NoClash => kit_is)
    (case kx_BadValue_NoClash => kit_is)
    (case kx_BadKey_NoClash => kit_is)
    (case kx_InUse_InUse => kit_is)
    (case kx_NoName_InUse => kit_is)
    (case kx_NotBroken_InUse => kit_is)
    (case kx_NoMake_InUse => kit_is)
    (case kx_NoPage_InUse => kit_is)
    (case kx_NoClash_InUse => kit_is)
    (case kx_ColumnThere_InUse => kit_is)
    (case kx_NoColumn_InUse => kit_is)
    (case kx_Unfit_InUse => kit_is)
    (case kx_NoRow_InUse => kit_is)
    (case kx_NotRising_InUse => kit_is)
    (case kx_Unsaved_InUse => kit_is)
    (case kx_BadRow_InUse => kit_is)
    (case kx_BadText_InUse => kit_is)
    (case kx_BadElders_InUse => kit_is)
    (case kx_BadWord_InUse => kit_is)
    (case kx_BadValue_InUse => kit_is)
    (case kx_BadKey_InUse => kit_is)
    (case kx_InUse_NoName => kit_is)
    (case kx_NoName_NoName => kit_is)
    (case kx_NotBroken_NoName => kit_is)
    (case kx_NoMake_NoName => kit_is)
    (case kx_NoPage_NoName => kit_is)
    (case kx_NoClash_NoName => kit_is)
    (case kx_ColumnThere_NoName => kit_is)
    (case kx_NoColumn_NoName => kit_is)
    (case kx_Unfit_NoName => kit_is)
    (case kx_NoRow_NoName => kit_is)
    (case kx_NotRising_NoName => kit_is)
    (case kx_Unsaved_NoName => kit_is)
    (case kx_BadRow_NoName => kit_is)
    (case kx_BadText_NoName => kit_is)
    (case kx_BadElders_NoName => kit_is)
    (case kx_BadWord_NoName => kit_is)
    (case kx_BadValue_NoName => kit_is)
    (case kx_BadKey_NoName => kit_is)
    (case ky_InUse_ValueError => kit_is)
    (case ky_NoName_ValueError => kit_is)
    (case ky_NotBroken_ValueError => kit_is)
    (case ky_NoMake_ValueError => kit_is)
    (case ky_NoPage_ValueError => kit_is)
    (case ky_NoClash_ValueError => kit_is)
    (case ky_ColumnThere_ValueError => kit_is)
    (case ky_NoColumn_ValueError => kit_is)
    (case ky_Unfit_ValueError => kit_is)
    (case ky_NoRow_ValueError => kit_is)
    (case ky_NotRising_ValueError => kit_is)
    (case ky_Unsaved_ValueError => kit_is)
    (case ky_BadRow_ValueError => kit_is)
    (case ky_BadText_ValueError => kit_is)
    (case ky_BadElders_ValueError => kit_is)
    (case ky_BadWord_ValueError => kit_is)
    (case ky_BadValue_ValueError => kit_is)
    (case ky_BadKey_ValueError => kit_is)
    (case z_ValueError => k_is)
    (case z_bool => k_is)
    (case z_int => k_is)
    (case z_isinstance => k_is)
    (case z_len => k_is)
    (case z_range => k_is)
    (case z_str => k_is)

