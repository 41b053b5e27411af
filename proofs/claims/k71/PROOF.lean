import PyProof.Rows.All
import Wide.All
import OpenK.AllK
import Wide.FinOn
import HandS.ForMost
import KE.KDictKeyed
import HandS.IsInst
import HandS.Wide
import HandS.EndBits
import HandS.Codes
import HandS.Zip
import HandS.TupAny
import KE.DataCmp
import KE.SortKeyHeap
import HandS.SortKw
import HandS.More
import HandS.SortInts
import HandS.Strs
import HandS.SetFor
import KE.SortData
import HandS.Conv
import HandS.Rev
import HandS.ClsMeth
import PyProof.StrBlock2
import HandS.Iter
import PyProof.ListIndex
import KE.KDictPairs
import PyProof.DictUpdate
import HandS.WordsExc
import HandS.TryOnly
import HandS.ExcInit
import HandS.ExcField
import HandS.ExcIs
import KE.KExcIs
import PyProof.ListMulAny
import PyProof.Rows.ListMulArg
import KE.GoesMore
import KE.GoesZip
import PyProof.TupleOfSeq
import HandS.Text
import HandS.ListItems
import HandS.NoneIn
import HandS.SetKeys
import KE.KEqDict
import HandS.TryMany
import HandS.ExcValue
import PySem.Challenge.RW_twigtable_k71_names
set_option Elab.async false
set_option linter.all false
set_option maxRecDepth 100000
set_option maxHeartbeats 2000000
/-! dicts whose keys are trees of tuples -/
namespace L2
open PySem PySem.Spec PyProof.Rows
abbrev NX := List (NestedKey × Addr × Value)
/-- at a stands the dict of the entries xs, in their order -/
def dNO (w : World) (a : Addr) (xs : NX) : HO := .ext fun h => (a == sysModules) = false ∧ xs.length ≤ sizeLine ∧ ∃ o es ep, h.get? a = some o ∧ o.ExactDict ∧ o.data = .dict es ep ∧ es.toList = xs.map (fun x => (⟨x.1.hash w, .ref x.2.1, x.2.2⟩ : DictEntry)) ∧ (xs.map (·.1)).Nodup
/-- at b stands the tree of tuples that is the key q -/
def KeyAt (X : Cx) (H : Hp) (q : NestedKey) (b : Addr) : Prop := q.depth ≤ 8 ∧ ∀ pins σ s, Inv X pins σ H s → NestedIs s.heap q (.ref b)
section
variable {X : Cx} {pins : List (Addr × Obj)} {σ : St} {H : Hp} {s : Shared} {a b : Addr} {q : NestedKey} {xs : NX}
theorem dN_at (I : Inv X pins σ H s) (e : H a = some (dNO X.w a xs)) (ks : ∀ x ∈ xs, KeyAt X H x.1 x.2.1) : (a == sysModules) = false ∧ xs.length ≤ sizeLine ∧ s.heap.DictOfH (nestedKind X.prog X.w) a xs := by
  obtain ⟨h1, h2, o, es, ep, h3, h4, h5, h6, h7⟩ := (I.hok a _ e).1
  exact ⟨h1, h2, o, es, ep, h3, h4, h5, h6, fun x hx => ⟨(ks x hx).2 _ _ _ I, (ks x hx).1⟩, h7⟩
theorem roomN {A : Around} (hu : A.units + 20 < cLine) : (nestedKind X.prog X.w).room A.in1 := by
  show A.units + 1 + 8 < cLine
  omega
/-! `{}` -/
/-- a dict of this kind and a key for it -/
def AtN (X : Cx) (H : Hp) (x y : V) (a b : Addr) (q : NestedKey) (xs : NX) : Prop := x = .ref a ∧ y = .ref b ∧ H a = some (dNO X.w a xs) ∧ KeyAt X H q b ∧ ∀ x ∈ xs, KeyAt X H x.1 x.2.1
variable {o i e value : Expr} {pos pos' apos cpos : Pos} {td ty tv : TE}
def tNIn (X : Cx) (t : Bool) (ty td : TE) : TE := fun σ H Q => ty σ H fun y H1 => td σ H1 fun x H2 => ∃ a b q xs, AtN X H2 x y a b q xs ∧ Q (.bl ((atKey xs q).isSome == t)) H2
theorem pc_nin (hu : X.A.units + 20 < cLine) (hi : PE X i ty) (ho : PE X o td) : PC X .In i o (tNIn X true ty td) := by
  refine ⟨fun pins s σ H Q I h => ?_⟩
  refine thn (hi.run pins s σ H _ I h) fun iv s1 ⟨y, H1, I1, ry, q1⟩ => thn (ho.run pins s1 σ H1 _ I1 q1) fun u s2 ⟨x, H2, I2, rx, a, b, q, xs, ⟨ex, ey, ea, kb, ks⟩, q2⟩ => ?_
  subst ex ey
  obtain rfl : u = Value.ref a := rx
  obtain rfl : iv = Value.ref b := ry
  obtain ⟨z1, z2, dd⟩ := dN_at I2 ea ks
  exact wpAny_in_heap (knd := nestedKind X.prog X.w) (roomN hu) ⟨kb.2 _ _ _ I2, kb.1⟩ z1 dd ⟨.bl (atKey xs q).isSome, H2, I2.tok _, rfl, by rw [beq_true] at q2; exact q2⟩
end
end L2

/-! Fx: a def's body as a function on data: trees for what is never changed, numbered cells for lists that are. -/
namespace Fx
open PySem PySem.Spec PyProof.Rows L2

/-! ### data -/
inductive D where
  | non | bl (b : Bool) | int (i : Int) | str (x : Str) | tup (xs : List D) | lst (xs : List D) | cell (n : Nat) | ref (a : Addr) | pr (a b : D) | emp | err (x : Str) (ks : List Str) (ds : List D)
inductive Cell where
  | lst (xs : List D) | dct (kvs : List (Key × D)) | obj (x : Str) (fs : List (Str × D)) | dctL (o : Obj) (us : List (Key × V)) (kvs : List (Key × D)) | dctN (wd : World) (kvs : List (NestedKey × D))
structure S where
  loc : List (Option D)
  vh : List Cell
structure Ex where
  cls : Str
  fs : List (Str × D)
inductive Res (α : Type) where
  | ok (a : α) (s : S) | exc (e : Ex) (s : S) | bad
abbrev M (α : Type) := S → Res α
def ret {α : Type} (a : α) : M α := fun s => .ok a s
def fail {α : Type} : M α := fun _ => .bad
def bnd {α β : Type} (m : M α) (k : α → M β) : M β := fun s => match m s with
  | .ok a s' => k a s'
  | .exc e s' => .exc e s'
  | .bad => .bad
mutual
def nkD : D → Option NestedKey
  | .non => some .none
  | .bl b => some (.num (if b = true then 1 else 0))
  | .int i => some (.num i)
  | .str x => some (.text x)
  | .tup ds => (nkL ds).map .tup
  | _ => none
def nkL : List D → Option (List NestedKey)
  | [] => some []
  | d :: r => match nkD d, nkL r with
    | some k, some ks => some (k :: ks)
    | _, _ => none
end
/-- data that stand in the abstract heap -/
structure Wd where
  ρ : List Addr
  F : Hp
def Wd.le (w w' : Wd) : Prop := (∀ (n : Nat) a, w.ρ[n]? = some a → w'.ρ[n]? = some a) ∧ ∀ a o, w.F a = some o → w'.F a = some o
theorem Wd.le.refl (w : Wd) : w.le w := ⟨fun _ _ h => h, fun _ _ h => h⟩
theorem Wd.le.trans {a b c : Wd} (x : a.le b) (y : b.le c) : a.le c := ⟨fun n q h => y.1 n q (x.1 n q h), fun q o h => y.2 q o (x.2 q o h)⟩
/-- an error that is kept: its class, its dict -/
def ExK (cls : Value) (d : Option Addr) (a : Addr) : HO := .ext fun h => ∃ (oe : Obj) (vs : Array Value), h.get? a = some oe ∧ oe.cls = cls ∧ oe.dict = d ∧ oe.data = .fields vs
def ErrAt (K : PySem.W.Frag) (F : Hp) (a : Addr) (x : Str) (ks : List Str) (vs : List V) : Prop := ∃ C d, PySem.W.nsIn K mainGlobals x = some (some (.ref C)) ∧ F a = some (ExK (.ref C) d a) ∧ ((ks = [] ∧ vs = [] ∧ d = none) ∨ ∃ dd, d = some dd ∧ F dd = some (.xd (ks.zip vs)) ∧ ks.length = vs.length)
theorem ErrAt.up {K : PySem.W.Frag} {F F' : Hp} (h : ∀ a o, F a = some o → F' a = some o) {a : Addr} {x : Str} {ks : List Str} {vs : List V} (e : ErrAt K F a x ks vs) : ErrAt K F' a x ks vs := by
  obtain ⟨C, d, h1, h2, h3⟩ := e
  exact ⟨C, d, h1, h _ _ h2, h3.imp id fun ⟨dd, q1, q2, q3⟩ => ⟨dd, q1, h _ _ q2, q3⟩⟩
/-- a tuple that has no dict of its own -/
def TupC (F : Hp) (a : Addr) (vs : List V) : Prop := ∃ o : Obj, F a = some (.frz o (.tup vs)) ∧ o.dict = none
section
variable (K : PySem.W.Frag)
mutual
inductive Rep : Wd → V → D → Prop
  | non {w : Wd} : Rep w .non .non
  | bl {w : Wd} (b : Bool) : Rep w (.bl b) (.bl b)
  | int {w : Wd} (i : Int) : Rep w (.int i) (.int i)
  | str {w : Wd} (x : Str) : Rep w (.str x) (.str x)
  | ref {w : Wd} (a : Addr) : Rep w (.ref a) (.ref a)
  | tup {w : Wd} {a : Addr} {vs : List V} {ds : List D} (h : TupC w.F a vs) (t : RepL w vs ds) : Rep w (.ref a) (.tup ds)
  | pr {w : Wd} {a : Addr} {v u : V} {d e : D} (h : SqT K w.F a [v, u]) (r : Rep w v d) (q : Rep w u e) : Rep w (.ref a) (.pr d e)
  | emp {w : Wd} {a : Addr} (h : w.F a = some (.dK [])) : Rep w (.ref a) .emp
  | err {w : Wd} {a : Addr} {x : Str} {ks : List Str} {vs : List V} {ds : List D} (h : ErrAt K w.F a x ks vs) (t : RepL w vs ds) : Rep w (.ref a) (.err x ks ds)
  | lst {w : Wd} {a : Addr} {vs : List V} {ds : List D} (h : SqL K w.F a vs) (t : RepL w vs ds) : Rep w (.ref a) (.lst ds)
  | cell {w : Wd} {a : Addr} {n : Nat} (h : w.ρ[n]? = some a) : Rep w (.ref a) (.cell n)
inductive RepL : Wd → List V → List D → Prop
  | nil {w : Wd} : RepL w [] []
  | cons {w : Wd} {v : V} {d : D} {vs : List V} {ds : List D} (h : Rep w v d) (t : RepL w vs ds) : RepL w (v :: vs) (d :: ds)
end
inductive RepK : Wd → List (Key × V) → List (Key × D) → Prop
  | nil {w : Wd} : RepK w [] []
  | cons {w : Wd} {k : Key} {v : V} {d : D} {vs : List (Key × V)} {ds : List (Key × D)} (h : Rep K w v d) (t : RepK w vs ds) : RepK w ((k, v) :: vs) ((k, d) :: ds)
inductive RepF : Wd → List (Str × V) → List (Str × D) → Prop
  | nil {w : Wd} : RepF w [] []
  | cons {w : Wd} {k : Str} {v : V} {d : D} {vs : List (Str × V)} {ds : List (Str × D)} (h : Rep K w v d) (t : RepF w vs ds) : RepF w ((k, v) :: vs) ((k, d) :: ds)
inductive RepN : Wd → NX → List (NestedKey × D) → Prop
  | nil {w : Wd} : RepN w [] []
  | cons {w : Wd} {q : NestedKey} {b : Addr} {u : Value} {kd : D} {v : V} {d : D} {xs : NX} {ds : List (NestedKey × D)} (hk : nkD kd = some q) (hq : q.depth ≤ 8) (r : Rep K w (.ref b) kd) (ru : RelV v u) (h : Rep K w v d) (t : RepN w xs ds) : RepN w ((q, b, u) :: xs) ((q, d) :: ds)
def CellIs (w : Wd) (H : Hp) (a : Addr) : Cell → Prop
  | .dctN wd kvs => ∃ xs, H a = some (dNO wd a xs) ∧ RepN K w xs kvs
  | .lst ds => ∃ vs, H a = some (.lst vs) ∧ RepL K w vs ds
  | .dct kvs => ∃ vs, H a = some (.dK vs) ∧ RepK K w vs kvs
  | .obj x fs => ∃ C dx vs, PySem.W.nsIn K mainGlobals x = some (some (.ref C)) ∧ H a = some (.ins C dx vs) ∧ RepF K w vs fs
  | .dctL o us kvs => H a = some (.frz o (.dK us)) ∧ RepK K w us kvs
structure RS (w : Wd) (H : Hp) (σ : L2.St) (s : S) : Prop where
  sub : ∀ a o, w.F a = some o → H a = some o
  len : σ.length = s.loc.length
  loc : ∀ (i : Nat) d, s.loc[i]? = some (some d) → ∃ v, σ[i]? = some (some v) ∧ Rep K w v d
  cl : w.ρ.length = s.vh.length
  nd : w.ρ.Nodup
  out : ∀ a ∈ w.ρ, w.F a = none
  cells : ∀ (n : Nat) a c, w.ρ[n]? = some a → s.vh[n]? = some c → CellIs K w H a c
end
section
variable {K : PySem.W.Frag} {w w' : Wd} {H H' : Hp} {σ : L2.St} {s s' : S}
theorem TupC.up {F F' : Hp} (h : ∀ a o, F a = some o → F' a = some o) {a : Addr} {vs : List V} (x : TupC F a vs) : TupC F' a vs := let ⟨o, e, d⟩ := x; ⟨o, h _ _ e, d⟩
theorem TupC.sq {F : Hp} {a : Addr} {vs : List V} (x : TupC F a vs) : SqT K F a vs := let ⟨o, e, _⟩ := x; .inl (.inr ⟨o, e⟩)
theorem sqT_up {F F' : Hp} (h : ∀ a o, F a = some o → F' a = some o) {a : Addr} {vs : List V} (x : SqT K F a vs) : SqT K F' a vs := by
  rcases x with (x | ⟨o, x⟩) | x
  · exact .inl (.inl (h _ _ x))
  · exact .inl (.inr ⟨o, h _ _ x⟩)
  · exact .inr x
theorem sqL_up {F F' : Hp} (h : ∀ a o, F a = some o → F' a = some o) {a : Addr} {vs : List V} (x : SqL K F a vs) : SqL K F' a vs := by
  rcases x with (x | ⟨o, x⟩) | x
  · exact .inl (.inl (h _ _ x))
  · exact .inl (.inr ⟨o, h _ _ x⟩)
  · exact .inr x
mutual
theorem Rep.upW (l : w.le w') : ∀ {v : V} {d : D}, Rep K w v d → Rep K w' v d
  | _, _, .non => .non
  | _, _, .bl b => .bl b
  | _, _, .int i => .int i
  | _, _, .str x => .str x
  | _, _, .ref a => .ref a
  | _, _, .tup h t => .tup (h.up l.2) (RepL.upW l t)
  | _, _, .pr h r q => .pr (sqT_up l.2 h) (Rep.upW l r) (Rep.upW l q)
  | _, _, .emp h => .emp (l.2 _ _ h)
  | _, _, .err h t => .err (h.up l.2) (RepL.upW l t)
  | _, _, .lst h t => .lst (sqL_up l.2 h) (RepL.upW l t)
  | _, _, .cell h => .cell (l.1 _ _ h)
theorem RepL.upW (l : w.le w') : ∀ {vs : List V} {ds : List D}, RepL K w vs ds → RepL K w' vs ds
  | _, _, .nil => .nil
  | _, _, .cons h t => .cons (Rep.upW l h) (RepL.upW l t)
end
theorem RepK.upW (l : w.le w') : ∀ {vs : List (Key × V)} {ds : List (Key × D)}, RepK K w vs ds → RepK K w' vs ds
  | _, _, .nil => .nil
  | _, _, .cons h t => .cons (h.upW l) (RepK.upW l t)
theorem RepF.upW (l : w.le w') : ∀ {vs : List (Str × V)} {ds : List (Str × D)}, RepF K w vs ds → RepF K w' vs ds
  | _, _, .nil => .nil
  | _, _, .cons h t => .cons (h.upW l) (RepF.upW l t)
theorem RepN.upW (l : w.le w') : ∀ {xs : NX} {ds : List (NestedKey × D)}, RepN K w xs ds → RepN K w' xs ds
  | _, _, .nil => .nil
  | _, _, .cons hk hq r ru h t => .cons hk hq (r.upW l) ru (h.upW l) (RepN.upW l t)
theorem RepL.length : ∀ {vs : List V} {ds : List D}, RepL K w vs ds → vs.length = ds.length
  | _, _, .nil => rfl
  | _, _, .cons _ t => by simp only [List.length_cons]; rw [RepL.length t]
theorem RepL.get : ∀ {vs : List V} {ds : List D} {i : Nat} {d : D}, RepL K w vs ds → ds[i]? = some d → ∃ v, vs[i]? = some v ∧ Rep K w v d
  | _, _, i, d, .nil, e => by simp at e
  | _, _, 0, d, .cons h t, e => by simp at e; subst e; exact ⟨_, rfl, h⟩
  | _, _, i + 1, d, .cons h t, e => by
    obtain ⟨v, h1, h2⟩ := RepL.get (i := i) (d := d) t (by simpa using e)
    exact ⟨v, by simpa using h1, h2⟩
theorem RepL.append : ∀ {vs us : List V} {ds es : List D}, RepL K w vs ds → RepL K w us es → RepL K w (vs ++ us) (ds ++ es)
  | _, _, _, _, .nil, s => s
  | _, _, _, _, .cons r t, s => .cons r (RepL.append t s)
theorem RepL.take : ∀ {vs : List V} {ds : List D} (n : Nat), RepL K w vs ds → RepL K w (vs.take n) (ds.take n)
  | _, _, 0, _ => .nil
  | _, _, _ + 1, .nil => .nil
  | _, _, n + 1, .cons r t => .cons r (RepL.take n t)
theorem RepL.drop : ∀ {vs : List V} {ds : List D} (n : Nat), RepL K w vs ds → RepL K w (vs.drop n) (ds.drop n)
  | _, _, 0, r => r
  | _, _, _ + 1, .nil => .nil
  | _, _, n + 1, .cons _ t => RepL.drop n t
theorem RepL.set {v : V} {d : D} (r : Rep K w v d) : ∀ {vs : List V} {ds : List D} (i : Nat), RepL K w vs ds → RepL K w (vs.set i v) (ds.set i d)
  | _, _, _, .nil => .nil
  | _, _, 0, .cons _ t => .cons r t
  | _, _, i + 1, .cons q t => .cons q (RepL.set r i t)
theorem CellIs.upW (l : w.le w') {a : Addr} {c : Cell} (e : H' a = H a) (h : CellIs K w H a c) : CellIs K w' H' a c := by
  cases c with
  | lst ds => obtain ⟨vs, h1, h2⟩ := h; exact ⟨vs, by rw [e]; exact h1, h2.upW l⟩
  | dct kvs => obtain ⟨vs, h1, h2⟩ := h; exact ⟨vs, by rw [e]; exact h1, h2.upW l⟩
  | obj x fs => obtain ⟨C, dx, vs, h0, h1, h2⟩ := h; exact ⟨C, dx, vs, h0, by rw [e]; exact h1, h2.upW l⟩
  | dctL o us kvs => obtain ⟨h1, h2⟩ := h; exact ⟨by rw [e]; exact h1, h2.upW l⟩
  | dctN wd kvs => obtain ⟨xs, h1, h2⟩ := h; exact ⟨xs, by rw [e]; exact h1, h2.upW l⟩
theorem CellIs.there {a : Addr} {c : Cell} (h : CellIs K w H a c) : ∃ o, H a = some o := by
  cases c with
  | lst ds => obtain ⟨vs, h1, _⟩ := h; exact ⟨_, h1⟩
  | dct kvs => obtain ⟨vs, h1, _⟩ := h; exact ⟨_, h1⟩
  | obj x fs => obtain ⟨C, dx, vs, _, h1, _⟩ := h; exact ⟨_, h1⟩
  | dctL o us kvs => exact ⟨_, h.1⟩
  | dctN wd kvs => obtain ⟨xs, h1, _⟩ := h; exact ⟨_, h1⟩
theorem RS.cellOf (R : RS K w H σ s) {n : Nat} {a : Addr} (h : w.ρ[n]? = some a) : ∃ c, s.vh[n]? = some c ∧ CellIs K w H a c := by
  have hn : n < w.ρ.length := (List.getElem?_eq_some_iff.mp h).1
  have hm : n < s.vh.length := by rw [← R.cl]; exact hn
  exact ⟨s.vh[n], List.getElem?_eq_getElem hm, R.cells n a _ h (List.getElem?_eq_getElem hm)⟩
theorem RS.addrOf (R : RS K w H σ s) {n : Nat} {c : Cell} (h : s.vh[n]? = some c) : ∃ a, w.ρ[n]? = some a ∧ CellIs K w H a c := by
  have hn : n < s.vh.length := (List.getElem?_eq_some_iff.mp h).1
  have hm : n < w.ρ.length := by rw [R.cl]; exact hn
  exact ⟨w.ρ[n], List.getElem?_eq_getElem hm, R.cells n _ _ (List.getElem?_eq_getElem hm) h⟩
theorem RS.fresh (R : RS K w H σ s) {p : Addr} (hp : H p = none) : w.F p = none ∧ p ∉ w.ρ := by
  refine ⟨?_, fun hm => ?_⟩
  · cases q : w.F p with
    | none => rfl
    | some o => rw [R.sub p o q] at hp; cases hp
  · obtain ⟨n, hn, e⟩ := List.mem_iff_getElem.mp hm
    obtain ⟨c, _, hc⟩ := R.cellOf (n := n) (a := p) (by rw [List.getElem?_eq_getElem hn, e])
    obtain ⟨o, ho⟩ := hc.there
    rw [ho] at hp; cases hp
theorem RS.ne (R : RS K w H σ s) {p a : Addr} {n : Nat} (hp : H p = none) (h : w.ρ[n]? = some a) : a ≠ p := by
  intro e; subst e
  exact (R.fresh hp).2 (List.mem_of_getElem? h)
/-- something new is laid, that will not change -/
def Wd.frz (w : Wd) (p : Addr) (o : HO) : Wd := ⟨w.ρ, upd w.F p o⟩
theorem Wd.frz_le {p : Addr} {o : HO} (h : w.F p = none) : w.le (w.frz p o) := ⟨fun _ _ e => e, fun a q e => by
  show upd w.F p o a = some q
  rw [upd_ne (ne_of_none e h)]; exact e⟩
theorem RS.lay (R : RS K w H σ s) {p : Addr} {o : HO} (hp : H p = none) : RS K (w.frz p o) (upd H p o) σ s := by
  have f := R.fresh hp
  have le := Wd.frz_le (o := o) f.1
  refine ⟨fun a q e => ?_, R.len, fun i d e => ?_, R.cl, R.nd, fun a ha => ?_, fun n a c e1 e2 => ?_⟩
  · have e : upd w.F p o a = some q := e
    by_cases h : a = p
    · subst h; rw [upd_same] at e ⊢; exact e
    · rw [upd_ne h] at e ⊢; exact R.sub a q e
  · obtain ⟨v, h1, h2⟩ := R.loc i d e
    exact ⟨v, h1, h2.upW le⟩
  · show upd w.F p o a = none
    rw [upd_ne (fun (e : a = p) => f.2 (e ▸ ha))]; exact R.out a ha
  · exact (R.cells n a c e1 e2).upW le (upd_ne (R.ne hp e1))
/-- something new is laid that stands by itself (a cell) -/
def Wd.own (w : Wd) (p : Addr) : Wd := ⟨w.ρ ++ [p], w.F⟩
theorem Wd.own_le {p : Addr} : w.le (w.own p) := ⟨fun n a e => by
  show (w.ρ ++ [p])[n]? = some a
  rw [List.getElem?_append_left (List.getElem?_eq_some_iff.mp e).1]; exact e, fun _ _ e => e⟩
theorem RS.addCell (R : RS K w H σ s) {p : Addr} {c : Cell} (hf : w.F p = none) (hr : p ∉ w.ρ) (hc : CellIs K w H p c) : RS K (w.own p) H σ { s with vh := s.vh ++ [c] } := by
  refine ⟨R.sub, R.len, fun i d e => ?_, ?_, ?_, fun a ha => ?_, fun n a c' e1 e2 => ?_⟩
  · obtain ⟨v, h1, h2⟩ := R.loc i d e
    exact ⟨v, h1, h2.upW Wd.own_le⟩
  · show (w.ρ ++ [p]).length = (s.vh ++ [c]).length
    rw [List.length_append, List.length_append, R.cl]; rfl
  · show (w.ρ ++ [p]).Nodup
    rw [List.nodup_append]
    refine ⟨R.nd, by simp, fun a ha b hb => ?_⟩
    rw [List.mem_singleton] at hb; subst hb
    intro e; subst e; exact hr ha
  · rcases List.mem_append.mp ha with h | h
    · exact R.out a h
    · rw [List.mem_singleton] at h; subst h; exact hf
  · have e1 : (w.ρ ++ [p])[n]? = some a := e1
    have e2 : (s.vh ++ [c])[n]? = some c' := e2
    by_cases hn : n < w.ρ.length
    · rw [List.getElem?_append_left hn] at e1
      rw [List.getElem?_append_left (by rw [← R.cl]; exact hn)] at e2
      exact (R.cells n a c' e1 e2).upW Wd.own_le rfl
    · have hn' : n < w.ρ.length + 1 := by
        have := (List.getElem?_eq_some_iff.mp e1).1
        rw [List.length_append] at this; exact this
      have en : n = w.ρ.length := by omega
      subst en
      rw [List.getElem?_append_right (Nat.le_refl _), Nat.sub_self] at e1
      rw [R.cl, List.getElem?_append_right (Nat.le_refl _), Nat.sub_self] at e2
      cases e1; cases e2
      exact hc.upW Wd.own_le rfl
/-- a cell changes -/
theorem RS.setCell (R : RS K w H σ s) {n : Nat} {a : Addr} {c : Cell} {o : HO} (h : w.ρ[n]? = some a) (hc : CellIs K w (upd H a o) a c) : RS K w (upd H a o) σ { s with vh := s.vh.set n c } := by
  have fa : w.F a = none := R.out a (List.mem_of_getElem? h)
  refine ⟨fun b q e => ?_, R.len, R.loc, by rw [List.length_set]; exact R.cl, R.nd, R.out, fun m b c' e1 e2 => ?_⟩
  · rw [upd_ne (ne_of_none e fa)]; exact R.sub b q e
  · by_cases hm : m = n
    · subst hm
      rw [h] at e1; cases e1
      have hl : m < s.vh.length := by rw [← R.cl]; exact (List.getElem?_eq_some_iff.mp h).1
      rw [List.getElem?_set_self hl] at e2; cases e2
      exact hc
    · rw [List.getElem?_set_ne (Ne.symm hm)] at e2
      have hb : b ≠ a := fun e => by
        subst e
        have h1 := List.getElem?_eq_some_iff.mp e1
        have h2 := List.getElem?_eq_some_iff.mp h
        exact hm ((List.getElem_inj R.nd).mp (h1.2.trans h2.2.symm))
      exact (R.cells m b c' e1 e2).upW (Wd.le.refl w) (upd_ne hb)
theorem RS.set (R : RS K w H σ s) {i : Nat} {v : V} {d : D} (r : Rep K w v d) : RS K w H (σ.set i (some v)) { s with loc := s.loc.set i (some d) } := by
  refine ⟨R.sub, by rw [List.length_set, List.length_set]; exact R.len, fun j e h => ?_, R.cl, R.nd, R.out, R.cells⟩
  by_cases hj : j = i
  · subst hj
    have hl : j < s.loc.length := by
      have := (List.getElem?_eq_some_iff.mp h).1
      rw [List.length_set] at this; exact this
    rw [List.getElem?_set_self hl] at h; cases h
    exact ⟨v, List.getElem?_set_self (by rw [R.len]; exact hl), r⟩
  · rw [List.getElem?_set_ne (Ne.symm hj)] at h ⊢
    exact R.loc j e h
/-- other slots, the same heap -/
theorem RS.other {σ' : L2.St} {l : List (Option D)} (R : RS K w H σ s) (hl : σ'.length = l.length) (h : ∀ (i : Nat) d, l[i]? = some (some d) → ∃ v, σ'[i]? = some (some v) ∧ Rep K w v d) : RS K w H σ' { s with loc := l } :=
  ⟨R.sub, hl, h, R.cl, R.nd, R.out, R.cells⟩
end

/-! ### from one state to a later one -/
structure Le (w : Wd) (H : Hp) (w' : Wd) (H' : Hp) : Prop where
  le : w.le w'
  keep : ∀ a o, H a = some o → a ∉ w.ρ → H' a = some o
  newρ : ∀ a, a ∈ w'.ρ → a ∈ w.ρ ∨ H a = none
  newF : ∀ a o, w'.F a = some o → w.F a = some o ∨ H a = none ∨ a ∈ w.ρ
section
variable {K : PySem.W.Frag} {w w' w1 w2 : Wd} {H H' H1 H2 : Hp} {σ : L2.St} {s : S}
theorem Le.refl (w : Wd) (H : Hp) : Le w H w H := ⟨Wd.le.refl w, fun _ _ h _ => h, fun _ h => .inl h, fun _ _ h => .inl h⟩
theorem mem_up (l : w.le w') {a : Addr} (h : a ∈ w.ρ) : a ∈ w'.ρ := by
  obtain ⟨n, hn, e⟩ := List.mem_iff_getElem.mp h
  exact List.mem_of_getElem? (l.1 n a (by rw [List.getElem?_eq_getElem hn, e]))
theorem Le.back (l : Le w H w1 H1) {a : Addr} (h : H1 a = none) : H a = none ∨ a ∈ w.ρ := by
  cases e : H a with
  | none => exact .inl rfl
  | some o =>
    by_cases ha : a ∈ w.ρ
    · exact .inr ha
    · rw [l.keep a o e ha] at h; cases h
theorem Le.trans (x : Le w H w1 H1) (y : Le w1 H1 w2 H2) : Le w H w2 H2 := by
  refine ⟨x.le.trans y.le, fun a o e h => ?_, fun a h => ?_, fun a o h => ?_⟩
  · refine y.keep a o (x.keep a o e h) fun h1 => ?_
    rcases x.newρ a h1 with h2 | h2
    · exact h h2
    · rw [e] at h2; cases h2
  · rcases y.newρ a h with h1 | h1
    · exact x.newρ a h1
    · rcases x.back h1 with h2 | h2
      · exact .inr h2
      · exact .inl h2
  · rcases y.newF a o h with h1 | h1 | h1
    · exact x.newF a o h1
    · rcases x.back h1 with h2 | h2
      · exact .inr (.inl h2)
      · exact .inr (.inr h2)
    · rcases x.newρ a h1 with h2 | h2
      · exact .inr (.inr h2)
      · exact .inr (.inl h2)
theorem Rep.up (l : Le w H w' H') {v : V} {d : D} (h : Rep K w v d) : Rep K w' v d := h.upW l.le
theorem RepL.up (l : Le w H w' H') {v : List V} {d : List D} (h : RepL K w v d) : RepL K w' v d := h.upW l.le
theorem RepK.up (l : Le w H w' H') {v : List (Key × V)} {d : List (Key × D)} (h : RepK K w v d) : RepK K w' v d := h.upW l.le
theorem Le.laid {p : Addr} {o : HO} (hp : H p = none) : Le w H w (upd H p o) := ⟨Wd.le.refl w, fun a q e _ => by rw [upd_ne (ne_of_none e hp)]; exact e, fun _ h => .inl h, fun _ _ h => .inl h⟩
theorem Le.lay {p : Addr} {o : HO} (hp : H p = none) (hf : w.F p = none) : Le w H (w.frz p o) (upd H p o) := ⟨Wd.frz_le hf, fun a q e _ => by rw [upd_ne (ne_of_none e hp)]; exact e, fun _ h => .inl h, fun a q h => by
  by_cases e : a = p
  · subst e; exact .inr (.inl hp)
  · have h : upd w.F p o a = some q := h
    rw [upd_ne e] at h; exact .inl h⟩
/-- a tracked thing that was new is frozen | becomes a cell -/
theorem Le.frz {p : Addr} {o : HO} (l : Le w H w1 H1) (hp : H p = none) (hf : w1.F p = none) : Le w H (w1.frz p o) H1 := ⟨l.le.trans (Wd.frz_le hf), l.keep, l.newρ, fun a q h => by
  by_cases e : a = p
  · subst e; exact .inr (.inl hp)
  · have h : upd w1.F p o a = some q := h
    rw [upd_ne e] at h; exact l.newF a q h⟩
theorem Le.own {p : Addr} (l : Le w H w1 H1) (hp : H p = none) : Le w H (w1.own p) H1 := ⟨l.le.trans Wd.own_le, l.keep, fun a h => by
  rcases List.mem_append.mp h with h | h
  · exact l.newρ a h
  · rw [List.mem_singleton] at h; subst h; exact .inr hp, l.newF⟩
theorem Le.write {a : Addr} {o : HO} (h : a ∈ w.ρ) : Le w H w (upd H a o) := ⟨Wd.le.refl w, fun b q e hb => by
  have hne : b ≠ a := fun (z : b = a) => hb (z ▸ h)
  rw [upd_ne hne]; exact e, fun _ h => .inl h, fun _ _ h => .inl h⟩
end
/-! ### what is wanted behind a step -/
abbrev WX := Ex → Wd → Hp → L2.St → Prop
def W0 : WX := fun _ _ _ _ => False
/-- how a result is told: by the heap ahead, the state behind -/
structure Pr (ν α : Type) where
  p : Hp → Wd → Hp → ν → α → Prop
  mono : ∀ (w : Wd) H w1 H1 w' H' v a, Le w H w1 H1 → w1.le w' → p H1 w' H' v a → p H w' H' v a
section
variable (K : PySem.W.Frag) (W : WX)
def Post {α ν : Type} (P : Pr ν α) (w : Wd) (H : Hp) (σ : L2.St) (r : Res α) (Q : ν → Hp → Prop) : Prop := match r with
  | .ok a s => ∀ w' H' v, Le w H w' H' → RS K w' H' σ s → P.p H w' H' v a → Q v H'
  | .exc e s => ∀ w' H', Le w H w' H' → RS K w' H' σ s → W e w' H' σ
  | .bad => False
/-- the reading t does what f says -/
def Fol {α ν : Type} (P : Pr ν α) (t : L2.St → Hp → (ν → Hp → Prop) → Prop) (f : M α) : Prop :=
  ∀ w H σ s Q, RS K w H σ s → Post K W P w H σ (f s) Q → t σ H Q
@[reducible] def pD : Pr V D := ⟨fun _ w _ v d => Rep K w v d, fun _ _ _ _ _ _ _ _ _ _ h => h⟩
@[reducible] def pL : Pr (List V) (List D) := ⟨fun _ w _ v d => RepL K w v d, fun _ _ _ _ _ _ _ _ _ _ h => h⟩
@[reducible] def pB : Pr Bool Bool := ⟨fun _ _ _ a b => a = b, fun _ _ _ _ _ _ _ _ _ _ h => h⟩
/-- a new object that nothing else knows -/
structure New (H : Hp) (w : Wd) (H' : Hp) (p : Addr) (c : Cell) : Prop where
  f : w.F p = none
  r : p ∉ w.ρ
  c : CellIs K w H' p c
  n : H p = none
@[reducible] def pN : Pr V Cell := ⟨fun H w H' v c => ∃ p, v = .ref p ∧ New K H w H' p c, fun w H w1 H1 w' H' v a l l' ⟨p, e, h⟩ => ⟨p, e, h.f, h.r, h.c, by
  rcases l.back h.n with z | z
  · exact z
  · exact (h.r (mem_up (l.le.trans l') z)).elim⟩⟩
end
section
variable {K : PySem.W.Frag} {W : WX} {α β ν μ : Type} {P : Pr ν α} {P2 : Pr μ β} {w w1 : Wd} {H H1 : Hp} {σ : L2.St} {s : S}
theorem Post.up {r : Res α} {Q : ν → Hp → Prop} (l : Le w H w1 H1) (h : Post K W P w H σ r Q) : Post K W P w1 H1 σ r Q := by
  cases r with
  | ok a s => exact fun w' H' v l' R p => h w' H' v (l.trans l') R (P.mono w H w1 H1 w' H' v a l l'.le p)
  | exc e s => exact fun w' H' l' R => h w' H' (l.trans l') R
  | bad => exact h
theorem Post.bnd {m : M α} {k : α → M β} {Q : ν → Hp → Prop} {Q2 : μ → Hp → Prop} (h : Post K W P2 w H σ (bnd m k s) Q2)
    (f : ∀ a s' w' H' v, Le w H w' H' → RS K w' H' σ s' → P.p H w' H' v a → Post K W P2 w' H' σ (k a s') Q2 → Q v H') : Post K W P w H σ (m s) Q := by
  unfold Fx.bnd at h
  cases e : m s with
  | ok a s' => rw [e] at h; exact fun w' H' v l R p => f a s' w' H' v l R p (h.up l)
  | exc x s' => rw [e] at h; exact h
  | bad => rw [e] at h; exact h
theorem Fol.bnd {t : L2.St → Hp → (ν → Hp → Prop) → Prop} {f : M α} {k : α → M β} {Q2 : μ → Hp → Prop} {Q : ν → Hp → Prop} (h : Fol K W P t f) (R : RS K w H σ s) (p : Post K W P2 w H σ (Fx.bnd f k s) Q2)
    (g : ∀ a s' w' H' v, Le w H w' H' → RS K w' H' σ s' → P.p H w' H' v a → Post K W P2 w' H' σ (k a s') Q2 → Q v H') : t σ H Q := h w H σ s Q R (p.bnd g)
end
end Fx

namespace Fx
open PySem PySem.Spec PyProof.Rows L2
/-! ### reading data -/
def lstOf (s : S) : D → Option (List D)
  | .lst ds => some ds
  | .cell n => match s.vh[n]? with
    | some (.lst ds) => some ds
    | _ => none
  | _ => none
def tupOf : D → Option (List D)
  | .tup ds => some ds
  | _ => none
def dctOf (s : S) : D → Option (List (Key × D))
  | .cell n => match s.vh[n]? with
    | some (.dct ds) => some ds
    | _ => none
  | _ => none
section
variable {K : PySem.W.Frag} {W : WX} {w : Wd} {H : Hp} {σ : L2.St} {s : S} {v : V} {d : D}
theorem RS.list (R : RS K w H σ s) (r : Rep K w v d) {ds : List D} (h : lstOf s d = some ds) : ∃ a vs, v = .ref a ∧ SqL K H a vs ∧ RepL K w vs ds := by
  cases r with
  | lst h1 t =>
    cases h
    exact ⟨_, _, rfl, sqL_up R.sub h1, t⟩
  | cell h1 =>
    obtain ⟨c, e, hc⟩ := R.cellOf h1
    unfold lstOf at h
    simp only [e] at h
    cases c with
    | lst xs => simp at h; subst h; obtain ⟨vs, h2, h3⟩ := hc; exact ⟨_, _, rfl, SqL.of h2, h3⟩
    | dct _ => simp at h
    | obj _ _ => simp at h
    | dctL _ _ _ => simp at h
    | dctN _ _ => simp at h
  | _ => simp [lstOf] at h
theorem RS.tuple (R : RS K w H σ s) (r : Rep K w v d) {ds : List D} (h : tupOf d = some ds) : ∃ a vs, v = .ref a ∧ SqT K H a vs ∧ RepL K w vs ds := by
  cases r with
  | tup h1 t =>
    cases h
    exact ⟨_, _, rfl, sqT_up R.sub h1.sq, t⟩
  | _ => simp [tupOf] at h
theorem RS.dict (R : RS K w H σ s) (r : Rep K w v d) {ds : List (Key × D)} (h : dctOf s d = some ds) : ∃ a vs, v = .ref a ∧ H a = some (.dK vs) ∧ RepK K w vs ds := by
  cases r with
  | cell h1 =>
    obtain ⟨c, e, hc⟩ := R.cellOf h1
    unfold dctOf at h
    simp only [e] at h
    cases c with
    | lst xs => simp at h
    | dct _ => simp at h; subst h; obtain ⟨vs, h2, h3⟩ := hc; exact ⟨_, _, rfl, h2, h3⟩
    | obj _ _ => simp at h
    | dctL _ _ _ => simp at h
    | dctN _ _ => simp at h
  | _ => simp [dctOf] at h
/-- a new list that will not change -/
theorem RS.newL (R : RS K w H σ s) {p : Addr} {vs : List V} {ds : List D} (hp : H p = none) (r : RepL K w vs ds) :
    Le w H (w.frz p (.lst vs)) (upd H p (.lst vs)) ∧ RS K (w.frz p (.lst vs)) (upd H p (.lst vs)) σ s ∧ Rep K (w.frz p (.lst vs)) (.ref p) (.lst ds) := by
  have l := Le.lay (o := .lst vs) hp (R.fresh hp).1
  exact ⟨l, R.lay hp, .lst (SqL.of upd_same) (r.up l)⟩
theorem RS.newT (R : RS K w H σ s) {p : Addr} {vs : List V} {ds : List D} {o : Obj} (hp : H p = none) (r : RepL K w vs ds) (ho : o.dict = none) :
    Le w H (w.frz p (.frz o (.tup vs))) (upd H p (.frz o (.tup vs))) ∧ RS K (w.frz p (.frz o (.tup vs))) (upd H p (.frz o (.tup vs))) σ s ∧ Rep K (w.frz p (.frz o (.tup vs))) (.ref p) (.tup ds) := by
  have l := Le.lay (o := .frz o (.tup vs)) hp (R.fresh hp).1
  exact ⟨l, R.lay hp, .tup ⟨o, upd_same, ho⟩ (r.up l)⟩
theorem RS.newP (R : RS K w H σ s) {p : Addr} {v u : V} {d e : D} (hp : H p = none) (r : Rep K w v d) (q : Rep K w u e) :
    Le w H (w.frz p (.tup [v, u])) (upd H p (.tup [v, u])) ∧ RS K (w.frz p (.tup [v, u])) (upd H p (.tup [v, u])) σ s ∧ Rep K (w.frz p (.tup [v, u])) (.ref p) (.pr d e) := by
  have l := Le.lay (o := .tup [v, u]) hp (R.fresh hp).1
  exact ⟨l, R.lay hp, .pr (.inl (.inl upd_same)) (r.up l) (q.up l)⟩
/-- a new object, its use still open -/
theorem RS.laid (R : RS K w H σ s) {p : Addr} {o : HO} (hp : H p = none) : RS K w (upd H p o) σ s := by
  have f := R.fresh hp
  refine ⟨fun a q e => ?_, R.len, R.loc, R.cl, R.nd, R.out, fun n a c e1 e2 => (R.cells n a c e1 e2).upW (Wd.le.refl w) (upd_ne (R.ne hp e1))⟩
  rw [upd_ne (ne_of_none e f.1)]; exact R.sub a q e
end
/-! ### the judgements -/
variable {X : Cx} {W : WX}
def DE (X : Cx) (W : WX) (e : Expr) (f : M D) : Prop := ∃ t, PE X e t ∧ Fol X.K W (pD X.K) t f
def DN (X : Cx) (W : WX) (e : Expr) (f : M Cell) : Prop := ∃ t, PE X e t ∧ Fol X.K W (pN X.K) t f
def DT (X : Cx) (W : WX) (e : Expr) (f : M Bool) : Prop := ∃ t, PT X e t ∧ Fol X.K W pB t f
def DA (X : Cx) (W : WX) (es : List Expr) (f : M (List D)) : Prop := ∃ t, PA X es t ∧ Fol X.K W (pL X.K) t f
section
variable {K : PySem.W.Frag} {α ν : Type} {P : Pr ν α} {w : Wd} {σ : L2.St} {s : S} {H : Hp}
theorem Post.here {a : α} {v : ν} {Q : ν → Hp → Prop} (h : Post K W P w H σ (ret a s) Q) (R : RS K w H σ s) (p : P.p H w H v a) : Q v H := h w H v (Le.refl w H) R p
end
/-! ### names, constants -/
def getL (i : Nat) : M D := fun s => match s.loc[i]? with
  | some (some d) => .ok d s
  | _ => .bad
theorem de_var {i : Nat} {e : Expr} (h : PE X e (tVar i)) : DE X W e (getL i) := by
  refine ⟨_, h, fun w H σ s Q R p => ?_⟩
  unfold getL at p
  split at p
  · next d hd =>
    obtain ⟨v, h1, h2⟩ := R.loc i d hd
    exact ⟨v, h1, Post.here p R h2⟩
  · exact p.elim
theorem de_v (i : Nat) {x : Str} {pos : Pos} (hN : X.N[i]? = some x := by rfl) (hv : Vis X.env.scope x := by first | exact Or.inl rfl | exact Or.inr (Or.inl rfl) | exact Or.inr (Or.inr rfl)) (hd : (x == ("__debug__" : Str)) = false := by decide)
    (hcd : (x == ("__classdict__" : Str)) = false := by decide) : DE X W (.Name x pos) (getL i) := de_var (pe_var hN hv hd hcd)
theorem de_c {e : Expr} {v : V} {d : D} (h : PE X e (tC v)) (r : ∀ w, Rep X.K w v d) : DE X W e (ret d) :=
  ⟨_, h, fun w H σ s Q R p => Post.here p R (r w)⟩
theorem de_int {i j pos} : DE X W (.Constant (.int i) j pos) (ret (.int i)) := de_c pe_int fun _ => .int i
theorem de_bl {b j pos} : DE X W (.Constant (.bool b) j pos) (ret (.bl b)) := de_c pe_bl fun _ => .bl b
theorem de_non {j pos} : DE X W (.Constant .none j pos) (ret .non) := de_c pe_non fun _ => .non
theorem de_str {x j pos} : DE X W (.Constant (.str x) j pos) (ret (.str x)) := de_c pe_str fun _ => .str x
theorem de_gS {x z : Str} {t : Tok} {pos : Pos} (hg : Gl X x) (hm : X.mg x = some (.str z t)) (hd : (x == ("__debug__" : Str)) = false := by decide) : DE X W (.Name x pos) (ret (.str z)) :=
  de_c (pe_glob (v := .str z) hg hm ⟨t, rfl⟩ hd) fun _ => .str z
/-! ### operators -/
def ROp (X : Cx) (r : R2) (g : D → D → M D) : Prop := ∀ (W : WX) w H σ s x y d e Q, RS X.K w H σ s → Rep X.K w x d → Rep X.K w y e → Post X.K W (pD X.K) w H σ (g d e s) Q → r x y H Q
theorem de_op {op : Operator} {r : R2} {g : D → D → M D} {a b : Expr} {fa fb : M D} {pos : Pos} (ho : OpR X (binaryOp op) r) (hr : ROp X r g) (ha : DE X W a fa) (hb : DE X W b fb) :
    DE X W (.BinOp a op b pos) (bnd fa fun d => bnd fb fun e => g d e) := by
  obtain ⟨ta, pa, ra⟩ := ha
  obtain ⟨tb, pb, rb⟩ := hb
  refine ⟨tOp r ta tb, pe_op ho pa pb, fun w H σ s Q R p => ?_⟩
  refine ra.bnd R p fun d s1 w1 H1 v1 l1 R1 r1 p1 => ?_
  refine rb.bnd R1 p1 fun e s2 w2 H2 v2 l2 R2 r2 p2 => ?_
  exact hr W w2 H2 σ s2 v1 v2 d e Q R2 (Rep.up l2 r1) r2 p2
theorem de_cmp {op : CmpOp} {r : R2} {g : D → D → M D} {a b : Expr} {fa fb : M D} {pos : Pos} (ho : OpR X (compareOp op) r) (hr : ROp X r g) (ha : DE X W a fa) (hb : DE X W b fb) (hm : behindInMarks op b = false := by first | exact nobehind _ (by decide) (by decide) | rfl) :
    DE X W (.Compare a [op] [b] pos) (bnd fa fun d => bnd fb fun e => g d e) := by
  obtain ⟨ta, pa, ra⟩ := ha
  obtain ⟨tb, pb, rb⟩ := hb
  refine ⟨tOp r ta tb, pe_cmpR ho pa pb hm, fun w H σ s Q R p => ?_⟩
  refine ra.bnd R p fun d s1 w1 H1 v1 l1 R1 r1 p1 => ?_
  refine rb.bnd R1 p1 fun e s2 w2 H2 v2 l2 R2 r2 p2 => ?_
  exact hr W w2 H2 σ s2 v1 v2 d e Q R2 (Rep.up l2 r1) r2 p2
def asB : D → M Bool
  | .bl b => ret b
  | _ => fail
theorem asB_fol {K : PySem.W.Frag} {w : Wd} {H : Hp} {σ : L2.St} {s : S} {v : V} {d : D} {Q : Bool → Hp → Prop} (R : RS K w H σ s) (r : Rep K w v d) (p : Post K W pB w H σ (asB d s) Q) : ∃ k, v = .bl k ∧ Q k H := by
  cases r with
  | bl b => exact ⟨b, rfl, Post.here p R rfl⟩
  | _ => exact p.elim
theorem dt_cmp {op : CmpOp} {r : R2} {g : D → D → M D} {a b : Expr} {fa fb : M D} {pos : Pos} (ho : OpR X (compareOp op) r) (hr : ROp X r g) (ha : DE X W a fa) (hb : DE X W b fb) (hm : behindInMarks op b = false := by first | exact nobehind _ (by decide) (by decide) | rfl) :
    DT X W (.Compare a [op] [b] pos) (bnd (bnd fa fun d => bnd fb fun e => g d e) asB) := by
  obtain ⟨ta, pa, ra⟩ := ha
  obtain ⟨tb, pb, rb⟩ := hb
  have h := de_cmp (pos := pos) ho hr ⟨ta, pa, ra⟩ ⟨tb, pb, rb⟩ hm
  refine ⟨tTest (tOp r ta tb), pt_cmpR ho pa pb hm, fun w H σ s Q R p => ?_⟩
  have key : Fol X.K W (pD X.K) (tOp r ta tb) (bnd fa fun d => bnd fb fun e => g d e) := fun w H σ s Q R p => by
    refine ra.bnd R p fun d s1 w1 H1 v1 l1 R1 r1 p1 => ?_
    refine rb.bnd R1 p1 fun e s2 w2 H2 v2 l2 R2 r2 p2 => ?_
    exact hr W w2 H2 σ s2 v1 v2 d e Q R2 (Rep.up l2 r1) r2 p2
  exact key.bnd R p fun d s1 w1 H1 v1 l1 R1 r1 p1 => asB_fol R1 r1 p1
/-- an expression that gives True or False, as a test -/
theorem dt_val {e : Expr} {f : M D} (h : DE X W e f) (he : ∀ whole, isTrue e X.env whole = (do let v ← whole; standAt e.pos; holding [v] (truthy v)) := by intro _; rfl) : DT X W e (bnd f asB) := by
  obtain ⟨t, p, r⟩ := h
  exact ⟨tB t, pt_val p he, fun w H σ s Q R p => r.bnd R p fun d s1 w1 H1 v1 l1 R1 r1 p1 => asB_fol R1 r1 p1⟩
/-! ints -/
def i2 (g : Int → Int → D) : D → D → M D
  | .int i, .int j => ret (g i j)
  | _, _ => fail
def i2c (c : Int → Int → Bool) (g : Int → Int → D) : D → D → M D
  | .int i, .int j => if c i j = true then ret (g i j) else fail
  | _, _ => fail
theorem rop_i2 {g : Int → Int → D} {g' : Int → Int → V} (h : ∀ w i j, Rep X.K w (g' i j) (g i j)) : ROp X (rI0 g') (i2 g) := fun W w H σ s x y d e Q R rx ry p => by
  cases rx with
  | int i =>
    cases ry with
    | int j => exact ⟨i, j, rfl, rfl, Post.here p R (h w i j)⟩
    | _ => exact p.elim
  | _ => exact p.elim
theorem rop_i2c {C : Int → Int → Prop} {c : Int → Int → Bool} {g : Int → Int → D} {g' : Int → Int → V} (hc : ∀ i j, c i j = true → C i j) (h : ∀ w i j, Rep X.K w (g' i j) (g i j)) : ROp X (rI C g') (i2c c g) := fun W w H σ s x y d e Q R rx ry p => by
  cases rx with
  | int i =>
    cases ry with
    | int j =>
      unfold i2c at p
      dsimp only at p
      split at p
      · next k => exact ⟨i, j, rfl, rfl, hc i j k, Post.here p R (h w i j)⟩
      · exact p.elim
    | _ => exact p.elim
  | _ => exact p.elim
theorem ROp.or {r1 r2 : R2} {g : D → D → M D} {g1 g2 : D → D → M D} (h1 : ROp X r1 g1) (h2 : ROp X r2 g2) (h : ∀ d e, g d e = g1 d e ∨ g d e = g2 d e) : ROp X (fun x y H Q => r1 x y H Q ∨ r2 x y H Q) g := fun W w H σ s x y d e Q R rx ry p => by
  rcases h d e with q | q
  · rw [q] at p; exact .inl (h1 W w H σ s x y d e Q R rx ry p)
  · rw [q] at p; exact .inr (h2 W w H σ s x y d e Q R rx ry p)
theorem opr_or {f : Value → Value → Sem Value} {r1 r2 : R2} (h1 : OpR X f r1) (h2 : OpR X f r2) : OpR X f (fun x y H Q => r1 x y H Q ∨ r2 x y H Q) := by
  intro pins s σ H x y v u Q I rx ry h
  rcases h with h | h
  · exact h1 pins s σ H x y v u Q I rx ry h
  · exact h2 pins s σ H x y v u Q I rx ry h
/-- * of two factors of together less than a hundred million bits -/
def CMulX (i j : Int) : Prop := i.natAbs.log2 + j.natAbs.log2 < 100000000
theorem CMulX.fits {i j : Int} (h : CMulX i j) : IntMulOk i j := by
  have b : ∀ x : Int, Builtin.Int.intBits x ≤ x.natAbs.log2 + 1 := fun x => by
    unfold Builtin.Int.intBits
    split <;> omega
  have b1 := b i
  have b2 := b j
  have h3 : i.natAbs.log2 + j.natAbs.log2 < 100000000 := h
  have line : bitsLine = 134217728 := by decide
  unfold IntMulOk
  intro z
  rw [Bool.and_eq_true] at z
  have y := z.2
  unfold Builtin.Int.intTooBig at y
  have x := of_decide_eq_true y
  rw [line] at x
  omega
theorem op_mulX : OpR X (binaryOp .Mult) (rI CMulX fun i j => .int (i * j)) := opI fun _ _ _ _ _ _ _ hc q => mul_int q hc.fits
def subM : D → D → M D := i2 fun i j => .int (i - j)
def mulM : D → D → M D := i2c (fun i j => decide (i.natAbs.log2 + j.natAbs.log2 < 100000000)) fun i j => .int (i * j)
def divM : D → D → M D := i2c (fun _ j => decide (0 < j) && decide (j.natAbs.log2 < 9000)) fun i j => .int (i / j)
def modM : D → D → M D := i2c (fun _ j => decide (0 < j)) fun i j => .int (i % j)
def powM : D → D → M D := i2c (fun i j => decide (0 ≤ j) && (decide (j ≤ 1000000) && decide (i.natAbs < 2 ^ 64))) fun i j => .int (i ^ j.toNat)
theorem rop_mul : ROp X (rI CMulX fun i j => .int (i * j)) mulM := rop_i2c (fun i j h => (of_decide_eq_true h : i.natAbs.log2 + j.natAbs.log2 < 100000000)) fun _ _ _ => .int _
theorem rop_div : ROp X (rI CDivW fun i j => .int (i / j)) divM := rop_i2c (fun i j h => by
  rw [Bool.and_eq_true, decide_eq_true_eq, decide_eq_true_eq] at h; exact h) fun _ _ _ => .int _
theorem rop_mod : ROp X (rI (fun _ j => 0 < j) fun i j => .int (i % j)) modM := rop_i2c (fun i j h => of_decide_eq_true h) fun _ _ _ => .int _
section
variable {a b : Expr} {fa fb : M D} {pos : Pos}
theorem de_mul (ha : DE X W a fa) (hb : DE X W b fb) : DE X W (.BinOp a .Mult b pos) (bnd fa fun d => bnd fb fun e => mulM d e) := de_op op_mulX rop_mul ha hb
theorem de_div (ha : DE X W a fa) (hb : DE X W b fb) : DE X W (.BinOp a .FloorDiv b pos) (bnd fa fun d => bnd fb fun e => divM d e) := de_op op_fdivW rop_div ha hb
theorem de_mod (ha : DE X W a fa) (hb : DE X W b fb) : DE X W (.BinOp a .Mod b pos) (bnd fa fun d => bnd fb fun e => modM d e) := de_op op_mod rop_mod ha hb
end
/-! ### and, or, not, if else -/
section
variable {a b : Expr} {rest : List Expr} {fa fb : M D} {ta tb : M Bool} {pos : Pos}
def andT (p q : M Bool) : M Bool := bnd p fun c => if c = true then q else ret false
def orT (p q : M Bool) : M Bool := bnd p fun c => if c = true then ret true else q
def notT (p : M Bool) : M Bool := bnd p fun c => ret (!c)
def andV (p q : M D) : M D := bnd p fun d => bnd (asB d) fun c => if c = true then q else ret (.bl false)
def orV (p q : M D) : M D := bnd p fun d => bnd (asB d) fun c => if c = true then ret (.bl true) else q
def notV (p : M D) : M D := bnd p fun d => bnd (asB d) fun c => ret (.bl (!c))
def iteM (c : M Bool) (p q : M D) : M D := bnd c fun b => if b = true then p else q
/-- and, or within a test -/
def DW (X : Cx) (W : WX) (e : Expr) (f : M Bool) : Prop := ∃ t, PW X e t ∧ Fol X.K W pB t f
theorem dw_and1 (h : DT X W a ta) : DW X W (.BoolOp .And [a] pos) ta := let ⟨t, p, r⟩ := h; ⟨t, pw_and1 p, r⟩
theorem dw_or1 (h : DT X W a ta) : DW X W (.BoolOp .Or [a] pos) ta := let ⟨t, p, r⟩ := h; ⟨t, pw_or1 p, r⟩
theorem dw_and (h : DT X W a ta) (k : DW X W (.BoolOp .And (b :: rest) pos) tb) : DW X W (.BoolOp .And (a :: b :: rest) pos) (andT ta tb) := by
  obtain ⟨t, p, r⟩ := h
  obtain ⟨u, q, k⟩ := k
  refine ⟨_, pw_and p q, fun w H σ s Q R z => ?_⟩
  refine r.bnd R z fun c s1 w1 H1 v1 l1 R1 r1 p1 => ?_
  cases r1
  cases c with
  | true => exact k w1 H1 σ s1 Q R1 p1
  | false => exact Post.here p1 R1 rfl
theorem dw_or (h : DT X W a ta) (k : DW X W (.BoolOp .Or (b :: rest) pos) tb) : DW X W (.BoolOp .Or (a :: b :: rest) pos) (orT ta tb) := by
  obtain ⟨t, p, r⟩ := h
  obtain ⟨u, q, k⟩ := k
  refine ⟨_, pw_or p q, fun w H σ s Q R z => ?_⟩
  refine r.bnd R z fun c s1 w1 H1 v1 l1 R1 r1 p1 => ?_
  cases r1
  cases c with
  | false => exact k w1 H1 σ s1 Q R1 p1
  | true => exact Post.here p1 R1 rfl
theorem dt_w {e : Expr} {f : M Bool} (h : DW X W e f) : DT X W e f := let ⟨t, p, r⟩ := h; ⟨t, p.pt, r⟩
theorem dt_not (h : DT X W a ta) : DT X W (.UnaryOp .Not a pos) (notT ta) := by
  obtain ⟨t, p, r⟩ := h
  refine ⟨_, pt_not p, fun w H σ s Q R z => ?_⟩
  refine r.bnd R z fun c s1 w1 H1 v1 l1 R1 r1 p1 => ?_
  cases r1
  exact Post.here p1 R1 rfl
theorem asB_bnd {K : PySem.W.Frag} {α ν : Type} {P : Pr ν α} {w : Wd} {H : Hp} {σ : L2.St} {s : S} {v : V} {d : D} {k : Bool → M α} {Q : ν → Hp → Prop} (r : Rep K w v d) (p : Post K W P w H σ (bnd (asB d) k s) Q) : ∃ c, v = .bl c ∧ Post K W P w H σ (k c s) Q := by
  cases r with
  | bl b => exact ⟨b, rfl, p⟩
  | _ => exact p.elim
theorem de_one {op} (h : DE X W a fa) : DE X W (.BoolOp op [a] pos) fa := let ⟨t, p, r⟩ := h; ⟨t, pe_one p, r⟩
theorem de_and (h : DE X W a fa) (k : DE X W (.BoolOp .And (b :: rest) pos) fb) : DE X W (.BoolOp .And (a :: b :: rest) pos) (andV fa fb) := by
  obtain ⟨t, p, r⟩ := h
  obtain ⟨u, q, k⟩ := k
  refine ⟨_, pe_and p q, fun w H σ s Q R z => ?_⟩
  refine r.bnd R z fun d s1 w1 H1 v1 l1 R1 r1 p1 => ?_
  obtain ⟨c, e, p2⟩ := asB_bnd r1 p1
  refine ⟨c, e, ?_⟩
  cases c with
  | true => exact k w1 H1 σ s1 Q R1 p2
  | false => exact Post.here p2 R1 (Rep.bl false)
end
/-! ### lists of arguments, displays -/
section
variable {a : Expr} {es : List Expr} {fa : M D} {fs : M (List D)} {pos : Pos}
def consM (p : M D) (q : M (List D)) : M (List D) := bnd p fun d => bnd q fun ds => ret (d :: ds)
theorem da_nil : DA X W [] (ret []) := ⟨_, pa_nil, fun w H σ s Q R p => Post.here p R (RepL.nil (K := X.K) (w := w))⟩
theorem da_cons (h : DE X W a fa) (k : DA X W es fs) (hst : starEach (a :: es) X.env = (false, eval a X.env) :: starEach es X.env := by rfl) : DA X W (a :: es) (consM fa fs) := by
  obtain ⟨t, p, r⟩ := h
  obtain ⟨u, q, k⟩ := k
  refine ⟨_, pa_cons p q hst, fun w H σ s Q R z => ?_⟩
  refine r.bnd R z fun d s1 w1 H1 v1 l1 R1 r1 p1 => ?_
  refine k.bnd R1 p1 fun ds s2 w2 H2 v2 l2 R2 r2 p2 => ?_
  exact Post.here p2 R2 (RepL.cons (Rep.up l2 r1) r2)
def lenOk (n : Nat) : Bool := decide (n ≤ sizeLine)
def tupM (q : M (List D)) : M D := bnd q fun ds => if lenOk ds.length = true then ret (.tup ds) else fail
def lstN (q : M (List D)) : M Cell := bnd q fun ds => if lenOk ds.length = true then ret (.lst ds) else fail
/-- a display, its object known -/
def tTupC (t : TA) : TE := fun σ H Q => t σ H fun vs H1 => vs.length ≤ sizeLine ∧ ∀ (p : Addr) (o : Obj), o.dict = none → H1 p = none → Q (.ref p) (upd H1 p (.frz o (.tup vs)))
theorem pe_tupC {t : TA} {x1} (h : PA X es t) : PE X (.Tuple es x1 pos) (tTupC t) :=
  ⟨fun pins s σ H Q I q => wpAny_Tuple_spliced (thn (h.run pos pins s σ H _ I q) fun us s1 ⟨vs, H1, I1, r, hz, k⟩ => by
    have hn : H1 s1.heap.objs.size = none := I1.hok.fresh (Nat.le_refl _)
    have hg : (s1.heap.push { cls := .type "tuple", data := .seq us.toArray }).get? s1.heap.objs.size = some { cls := .type "tuple", data := .seq us.toArray } := Heap.get?_push_size _ rfl
    refine ⟨by rw [← r.length]; exact hz, .ref s1.heap.objs.size, _, ?_, rfl, k _ { cls := .type "tuple", data := .seq us.toArray } rfl hn⟩
    exact I1.laid (t' := s1.toks) (fun b u e => Heap.get?_push_of_some _ e) (Nat.le_refl _) ⟨hg, hz, us, r, ⟨_, hg, rfl, _, rfl⟩⟩)⟩
theorem de_tup {x1} (h : DA X W es fs) : DE X W (.Tuple es x1 pos) (tupM fs) := by
  obtain ⟨t, p, r⟩ := h
  refine ⟨_, pe_tupC p, fun w H σ s Q R z => ?_⟩
  refine r.bnd R z fun ds s1 w1 H1 v1 l1 R1 r1 p1 => ?_
  split at p1
  · next k =>
    refine ⟨by rw [RepL.length r1]; exact of_decide_eq_true k, fun q o ho hq => ?_⟩
    obtain ⟨l2, R2, r2⟩ := R1.newT hq r1 ho
    exact p1 _ _ _ l2 R2 r2
  · exact p1.elim
theorem dn_lst (h : DA X W es fs) : DN X W (.List es pos) (lstN fs) := by
  obtain ⟨t, p, r⟩ := h
  refine ⟨_, pe_lst p, fun w H σ s Q R z => ?_⟩
  refine r.bnd R z fun ds s1 w1 H1 v1 l1 R1 r1 p1 => ?_
  split at p1
  · next k =>
    refine ⟨by rw [RepL.length r1]; exact of_decide_eq_true k, fun q hq => ?_⟩
    exact p1 w1 _ _ (Le.laid hq) (R1.laid hq) ⟨q, rfl, (R1.fresh hq).1, (R1.fresh hq).2, ⟨_, upd_same, r1⟩, hq⟩
  · exact p1.elim
/-- a new list, never changed from here on -/
def frzM (m : M Cell) : M D := bnd m fun c => match c with
  | .lst ds => ret (.lst ds)
  | _ => fail
/-- a new list or dict that stands by itself -/
def ownM (m : M Cell) : M D := bnd m fun c s => .ok (.cell s.vh.length) { s with vh := s.vh ++ [c] }
theorem RS.frz {K : PySem.W.Frag} {w : Wd} {H : Hp} {σ : L2.St} {s : S} {p : Addr} {o : HO} (R : RS K w H σ s) (h : H p = some o) (hf : w.F p = none) (hr : p ∉ w.ρ) : RS K (w.frz p o) H σ s := by
  have le := Wd.frz_le (o := o) hf
  refine ⟨fun a q e => ?_, R.len, fun i d e => ?_, R.cl, R.nd, fun a ha => ?_, fun n a c e1 e2 => ?_⟩
  · have e : upd w.F p o a = some q := e
    by_cases hh : a = p
    · subst hh; rw [upd_same] at e; cases e; exact h
    · rw [upd_ne hh] at e; exact R.sub a q e
  · obtain ⟨v, h1, h2⟩ := R.loc i d e
    exact ⟨v, h1, h2.upW le⟩
  · show upd w.F p o a = none
    rw [upd_ne (fun (e : a = p) => hr (e ▸ ha))]; exact R.out a ha
  · exact (R.cells n a c e1 e2).upW le rfl
theorem frz_fol {t : TE} {f : M Cell} (r : Fol X.K W (pN X.K) t f) : Fol X.K W (pD X.K) t (frzM f) := fun w H σ s Q R z => by
  refine r w H σ s Q R ?_
  unfold frzM bnd at z
  cases hf : f s with
  | bad => rw [hf] at z; exact z.elim
  | exc x s1 => rw [hf] at z; exact z
  | ok c s1 =>
    rw [hf] at z
    rintro w1 H1 _ l1 R1 ⟨q, rfl, N⟩
    cases c with
    | dct _ => exact z.elim
    | obj _ _ => exact z.elim
    | dctL _ _ _ => exact z.elim
    | dctN _ _ => exact z.elim
    | lst ds =>
      obtain ⟨vs, h1, h2⟩ := N.c
      exact z _ _ _ (l1.frz N.n N.f) (R1.frz h1 N.f N.r) (.lst (SqL.of upd_same) (h2.upW (Wd.frz_le N.f)))
theorem own_fol {t : TE} {f : M Cell} (r : Fol X.K W (pN X.K) t f) : Fol X.K W (pD X.K) t (ownM f) := fun w H σ s Q R z => by
  refine r w H σ s Q R ?_
  unfold ownM bnd at z
  cases hf : f s with
  | bad => rw [hf] at z; exact z.elim
  | exc x s1 => rw [hf] at z; exact z
  | ok c s1 =>
    rw [hf] at z
    rintro w1 H1 _ l1 R1 ⟨q, rfl, N⟩
    refine z _ _ _ (l1.own N.n) (R1.addCell N.f N.r N.c) (.cell ?_)
    show (w1.ρ ++ [q])[s1.vh.length]? = some q
    rw [← R1.cl, List.getElem?_append_right (Nat.le_refl _), Nat.sub_self]
    rfl
theorem de_frz {f : M Cell} (h : DN X W a f) : DE X W a (frzM f) := let ⟨t, p, r⟩ := h; ⟨t, p, frz_fol r⟩
theorem de_own {f : M Cell} (h : DN X W a f) : DE X W a (ownM f) := let ⟨t, p, r⟩ := h; ⟨t, p, own_fol r⟩
end
end Fx

namespace Fx
open PySem PySem.Spec PyProof.Rows L2
open Classical
/-! ### a reading made of f itself -/
def tM {α ν : Type} (K : PySem.W.Frag) (W : WX) (P : Pr ν α) (f : M α) : L2.St → Hp → (ν → Hp → Prop) → Prop := fun σ H Q => ∃ w s, RS K w H σ s ∧ Post K W P w H σ (f s) Q
variable {X : Cx} {W : WX}
theorem DE.pe {e : Expr} {f : M D} (h : DE X W e f) : PE X e (tM X.K W (pD X.K) f) := by
  obtain ⟨t, p, r⟩ := h
  exact ⟨fun pins s σ H Q I ⟨w, z, R, q⟩ => p.run pins s σ H Q I (r w H σ z Q R q)⟩
theorem DT.pt {e : Expr} {f : M Bool} (h : DT X W e f) : PT X e (tM X.K W pB f) := by
  obtain ⟨t, p, r⟩ := h
  exact ⟨fun pins s σ H Q I ⟨w, z, R, q⟩ => p.run pins s σ H Q I (r w H σ z Q R q)⟩
/-! ### statements -/
inductive Out where
  | nx | brk | cnt | rt (d : D)
section
variable (K : PySem.W.Frag) (W : WX)
def PostS (w : Wd) (H : Hp) (r : Res Out) (D : Ends) : Prop := match r with
  | .ok .nx s => ∀ w' H' σ', Le w H w' H' → RS K w' H' σ' s → D.nx σ' H'
  | .ok .brk s => ∀ w' H' σ', Le w H w' H' → RS K w' H' σ' s → D.bk σ' H'
  | .ok .cnt s => ∀ w' H' σ', Le w H w' H' → RS K w' H' σ' s → D.ct σ' H'
  | .ok (.rt d) s => ∀ w' H' σ' v, Le w H w' H' → RS K w' H' σ' s → Rep K w' v d → D.rt v H'
  | .exc e s => ∀ w' H' σ', Le w H w' H' → RS K w' H' σ' s → W e w' H' σ'
  | .bad => False
def FolS (t : TS) (f : M Out) : Prop := ∀ w H σ s D, RS K w H σ s → PostS K W w H (f s) D → t D σ H
end
section
variable {K : PySem.W.Frag} {α ν : Type} {P : Pr ν α} {w w1 : Wd} {σ : L2.St} {s : S} {H : Hp} {D : Ends}
theorem PostS.up {H1 : Hp} {r : Res Out} (l : Le w H w1 H1) (h : PostS K W w H r D) : PostS K W w1 H1 r D := by
  cases r with
  | ok a s =>
    cases a with
    | rt d => exact fun w' H' σ' v l' R r => h w' H' σ' v (l.trans l') R r
    | _ => exact fun w' H' σ' l' R => h w' H' σ' (l.trans l') R
  | exc e s => exact fun w' H' σ' l' R => h w' H' σ' (l.trans l') R
  | bad => exact h
theorem PostS.bnd {m : M α} {k : α → M Out} {Q : ν → Hp → Prop} (h : PostS K W w H (Fx.bnd m k s) D) (f : ∀ a s' w' H' v, Le w H w' H' → RS K w' H' σ s' → P.p H w' H' v a → PostS K W w' H' (k a s') D → Q v H') : Post K W P w H σ (m s) Q := by
  unfold Fx.bnd at h
  cases e : m s with
  | ok a s' => rw [e] at h; exact fun w' H' v l R p => f a s' w' H' v l R p (h.up l)
  | exc x s' => rw [e] at h; exact fun w' H' l R => h w' H' σ l R
  | bad => rw [e] at h; exact h
theorem Fol.bndS {t : L2.St → Hp → (ν → Hp → Prop) → Prop} {f : M α} {k : α → M Out} {Q : ν → Hp → Prop} (h : Fol K W P t f) (R : RS K w H σ s) (p : PostS K W w H (Fx.bnd f k s) D)
    (g : ∀ a s' w' H' v, Le w H w' H' → RS K w' H' σ s' → P.p H w' H' v a → PostS K W w' H' (k a s') D → Q v H') : t σ H Q := h w H σ s Q R (p.bnd g)
theorem PostS.nx (h : PostS K W w H (ret .nx s) D) (R : RS K w H σ s) : D.nx σ H := h w H σ (Le.refl w H) R
end
def DS (X : Cx) (W : WX) (st : Stmt) (f : M Out) : Prop := ∃ t, PS X st t ∧ FolS X.K W t f
def DSs (X : Cx) (W : WX) (sts : List Stmt) (f : M Out) : Prop := ∃ t, PSs X sts t ∧ FolS X.K W t f
def seqM (p q : M Out) : M Out := fun s => match p s with
  | .ok .nx s' => q s'
  | r => r
section
variable {st : Stmt} {rest : List Stmt} {e c : Expr} {f g : M Out} {fe : M D} {fc : M Bool} {pos : Pos}
theorem dss_nil : DSs X W [] (ret .nx) := ⟨_, pss_nil, fun w H σ s D R p => p.nx R⟩
theorem dss_cons (h : DS X W st f) (k : DSs X W rest g) : DSs X W (st :: rest) (seqM f g) := by
  obtain ⟨t, p, r⟩ := h
  obtain ⟨u, q, k⟩ := k
  refine ⟨_, pss_cons p q, fun w H σ s D R z => ?_⟩
  refine r w H σ s { D with nx := u D } R ?_
  unfold seqM at z
  cases hf : f s with
  | ok a s' =>
    rw [hf] at z
    cases a with
    | nx => exact fun w' H' σ' l R' => k w' H' σ' s' D R' (z.up l)
    | brk => exact z
    | cnt => exact z
    | rt d => exact z
  | exc x s' => rw [hf] at z; exact z
  | bad => rw [hf] at z; exact z
theorem dss_one (h : DS X W st f) : DSs X W [st] f := let ⟨t, p, r⟩ := h; ⟨t, pss_one p, r⟩
def retM (p : M D) : M Out := bnd p fun d => ret (.rt d)
def dropM (p : M D) : M Out := bnd p fun _ => ret .nx
def ifM (c : M Bool) (p q : M Out) : M Out := bnd c fun b => if b = true then p else q
theorem ds_ret (h : DE X W e fe) : DS X W (.Return (some e) pos) (retM fe) := by
  obtain ⟨t, p, r⟩ := h
  refine ⟨_, ps_ret p, fun w H σ s D R z => ?_⟩
  exact r.bndS R z fun d s1 w1 H1 v1 l1 R1 r1 p1 => p1 w1 H1 σ v1 (Le.refl w1 H1) R1 r1
theorem ds_expr (h : DE X W e fe) (hs : swapsWith e none pos.line X.env = pure false := by rfl) : DS X W (.Expr e pos) (dropM fe) := by
  obtain ⟨t, p, r⟩ := h
  refine ⟨_, ps_expr p hs, fun w H σ s D R z => ?_⟩
  exact r.bndS R z fun d s1 w1 H1 v1 l1 R1 r1 p1 => p1.nx R1
theorem ds_if {a b : List Stmt} (h : DT X W c fc) (ha : DSs X W a f) (hb : DSs X W b g) : DS X W (.If c a b pos) (ifM fc f g) := by
  obtain ⟨t, p, r⟩ := h
  obtain ⟨u, q, k⟩ := ha
  obtain ⟨u', q', k'⟩ := hb
  refine ⟨_, ps_if p q q', fun w H σ s D R z => ?_⟩
  refine r.bndS R z fun d s1 w1 H1 v1 l1 R1 r1 p1 => ?_
  cases r1
  cases d with
  | true => exact k w1 H1 σ s1 D R1 p1
  | false => exact k' w1 H1 σ s1 D R1 p1
/-! targets -/
def setL (i : Nat) (d : D) : M Out := fun s => .ok .nx { s with loc := s.loc.set i (some d) }
def PostG (K : PySem.W.Frag) (w : Wd) (H : Hp) (r : Res Out) (Q : L2.St → Hp → Prop) : Prop := match r with
  | .ok .nx s => ∀ w' H' σ', Le w H w' H' → RS K w' H' σ' s → Q σ' H'
  | _ => False
def DG (X : Cx) (target : Expr) (t : D → M Out) : Prop := ∃ g, PG X target g ∧ ∀ w H σ s v d Q, RS X.K w H σ s → Rep X.K w v d → PostG X.K w H (t d s) Q → g v σ H Q
theorem dg_name {i : Nat} {x : Str} (hN : X.N.Nodup) (hi : X.N[i]? = some x := by rfl) (hx : Loc X.env.scope x := by first | exact Or.inl rfl | exact Or.inr rfl) (hf : X.fn x = true ∨ X.env.scope.names.lookup x = some .local := by first | exact .inl rfl | exact .inr rfl) : DG X (.Name x pos) (setL i) :=
  ⟨_, pg_name hN hi hx hf, fun w H σ s v d Q R r p => p w H _ (Le.refl w H) (R.set r)⟩
def asgM (p : M D) (t : D → M Out) : M Out := bnd p t
theorem ds_asg {tg : Expr} {t : D → M Out} (h : DE X W e fe) (hg : DG X tg t) (ht : ∀ d s, (∃ s', t d s = .ok .nx s') ∨ t d s = .bad) (hs : swapsWithSole [tg] e pos.line X.env = pure false := by rfl) (hw : swappedStores [tg] e X.env = pure none := by rfl)
    (h1 : (assignEach [tg] X.env).map (·.2) = [assign tg X.env] := by rfl) : DS X W (.Assign [tg] e pos) (asgM fe t) := by
  obtain ⟨u, p, r⟩ := h
  obtain ⟨g, pg, k⟩ := hg
  refine ⟨_, ps_asg p pg hs hw h1, fun w H σ s D R z => ?_⟩
  refine r.bndS R z fun d s1 w1 H1 v1 l1 R1 r1 p1 => ?_
  refine k w1 H1 σ s1 v1 d D.nx R1 r1 ?_
  rcases ht d s1 with ⟨s', e⟩ | e
  · rw [e] at p1 ⊢; exact p1
  · rw [e] at p1; exact p1.elim
theorem setL_ok {i : Nat} (d : D) (s : S) : (∃ s', setL i d s = .ok .nx s') ∨ setL i d s = .bad := .inl ⟨_, rfl⟩
/-- x = e -/
theorem ds_set (i : Nat) {x : Str} {p' : Pos} (h : DE X W e fe) (hN : X.N.Nodup) (hi : X.N[i]? = some x := by rfl) (hx : Loc X.env.scope x := by first | exact Or.inl rfl | exact Or.inr rfl) (hf : X.fn x = true ∨ X.env.scope.names.lookup x = some .local := by first | exact .inl rfl | exact .inr rfl)
    (hs : swapsWithSole [.Name x p'] e pos.line X.env = pure false := by rfl) (hw : swappedStores [.Name x p'] e X.env = pure none := by rfl) (h1 : (assignEach [.Name x p'] X.env).map (·.2) = [assign (.Name x p') X.env] := by rfl) : DS X W (.Assign [.Name x p'] e pos) (asgM fe (setL i)) :=
  ds_asg h (dg_name hN hi hx hf) setL_ok hs hw h1
theorem bnd_ok {α β : Type} {m : M α} {k : α → M β} {s s' : S} {a : α} (h : m s = .ok a s') : bnd m k s = k a s' := by
  unfold bnd
  rw [h]
/-- x += e, of ints -/
def augF (f : Int → Int → Int) (i : Nat) : D → D → M Out
  | .int x, .int y => setL i (.int (f x y))
  | _, _ => fail
def augI (f : Int → Int → Int) (i : Nat) (p : M D) : M Out := bnd (getL i) fun a => bnd p fun b => augF f i a b
/-! ### while -/
end
/-! ### what is walked -/
structure Wk where
  items : List D
  ok : S → Prop
def wkI (K : PySem.W.Frag) : Wd → It → Wk → Prop := fun w0 J it => ∀ w H σ s, w0.le w → RS K w H σ s → it.ok s → ∀ i : Nat, (i < it.items.length → J.go i H) ∧ (it.items.length ≤ i → J.stop i H) ∧
  ∀ x H', J.yld i H x H' → ∀ d, it.items[i]? = some d → ∃ w', Le w H w' H' ∧ RS K w' H' σ s ∧ Rep K w' x d
@[reducible] def pI (K : PySem.W.Frag) : Pr It Wk := ⟨fun _ w H J it => wkI K w J it, fun _ _ _ _ _ _ _ _ _ _ h => h⟩
def DI (X : Cx) (W : WX) (tg e : Expr) (f : M Wk) : Prop := ∃ wi, PI X tg e wi ∧ Fol X.K W (pI X.K) wi f
noncomputable def loopM (ok : S → Prop) (t : D → M Out) (b : M Out) : List D → M Out
  | [] => fun s => if ok s then .ok .nx s else .bad
  | d :: ds => fun s => if ok s then (match t d s with
    | .ok .nx s1 => match b s1 with
      | .ok .nx s2 => loopM ok t b ds s2
      | .ok .cnt s2 => loopM ok t b ds s2
      | .ok .brk s2 => .ok .nx s2
      | r => r
    | _ => .bad) else .bad
noncomputable def forM (f : M Wk) (t : D → M Out) (b : M Out) : M Out := bnd f fun it => loopM it.ok t b it.items
section
variable {tg e : Expr} {fi : M Wk} {t : D → M Out} {b : M Out} {body : List Stmt} {pos : Pos}
theorem ds_for (hp : PassesOwn (model X.prog X.w) X.A X.env X.xe) (hc : X.calm = true) (hi : DI X W tg e fi) (hg : DG X tg t) (hb : DSs X W body b) (hs : ∀ x, foldedSetIterable e X.env x = pure x := by intro _; rfl) : DS X W (.For tg e body [] pos) (forM fi t b) := by
  obtain ⟨wi, p, r⟩ := hi
  obtain ⟨g, pg, kg⟩ := hg
  obtain ⟨u, q, k⟩ := hb
  refine ⟨_, ps_for hp hc p pg q hs, fun w H σ s D R z => ?_⟩
  refine r.bndS R z fun it s1 w1 H1 J l1 R1 r1 p1 => ?_
  refine ⟨fun i m σ' H' => m = it.items.length - i ∧ i ≤ it.items.length ∧ ∃ w' s', w1.le w' ∧ RS X.K w' H' σ' s' ∧ PostS X.K W w' H' (loopM it.ok t b (it.items.drop i) s') D, ⟨_, rfl, Nat.zero_le _, w1, s1, Wd.le.refl w1, R1, p1⟩, ?_⟩
  rintro i m σ' H' ⟨rfl, hi, w', s', l', R', z'⟩
  by_cases hlt : i < it.items.length
  · obtain ⟨d, hd⟩ : ∃ d, it.items[i]? = some d := ⟨_, List.getElem?_eq_getElem hlt⟩
    have ed : it.items.drop i = d :: it.items.drop (i + 1) := by
      rw [List.drop_eq_getElem_cons hlt]
      rw [List.getElem?_eq_getElem hlt] at hd
      rw [Option.some.inj hd]
    rw [ed] at z'
    unfold loopM at z'
    by_cases hok : it.ok s'
    · rw [if_pos hok] at z'
      obtain ⟨h1, h2, h3⟩ := r1 w' H' σ' s' l' R' hok i
      refine .inr ⟨h1 hlt, fun σ2 H2 => ∃ w2 s2, w1.le w2 ∧ RS X.K w2 H2 σ2 s2 ∧ PostS X.K W w2 H2 (loopM it.ok t b (it.items.drop (i + 1)) s2) D, fun σ2 H2 ⟨w2, s2, l2, R2, z2⟩ => ⟨it.items.length - (i + 1), by omega, rfl, hlt, w2, s2, l2, R2, z2⟩, fun x H2 hy => ?_⟩
      obtain ⟨w2, l2, R2, r2⟩ := h3 x H2 hy d hd
      refine kg w2 H2 σ' s' x d _ R2 r2 ?_
      cases ht : t d s' with
      | ok o s3 =>
        rw [ht] at z'
        cases o with
        | nx =>
          refine fun w3 H3 σ3 l3 R3 => ?_
          refine k w3 H3 σ3 s3 _ R3 ?_
          have z' : PostS X.K W w' H' (match b s3 with
            | .ok .nx s2 => loopM it.ok t b (it.items.drop (i + 1)) s2
            | .ok .cnt s2 => loopM it.ok t b (it.items.drop (i + 1)) s2
            | .ok .brk s2 => .ok .nx s2
            | r => r) D := z'
          have z3 := z'.up (l2.trans l3)
          cases hb : b s3 with
          | ok a s4 =>
            rw [hb] at z3
            cases a with
            | nx => exact fun w4 H4 σ4 l R4 => ⟨w4, s4, l'.trans (l2.le.trans (l3.le.trans l.le)), R4, z3.up l⟩
            | cnt => exact fun w4 H4 σ4 l R4 => ⟨w4, s4, l'.trans (l2.le.trans (l3.le.trans l.le)), R4, z3.up l⟩
            | brk => exact z3
            | rt d => exact z3
          | exc x s4 => rw [hb] at z3; exact z3
          | bad => rw [hb] at z3; exact z3.elim
        | _ => exact z'.elim
      | exc _ _ => rw [ht] at z'; exact z'.elim
      | bad => rw [ht] at z'; exact z'.elim
    · rw [if_neg hok] at z'; exact z'.elim
  · have hi' : it.items.length ≤ i := by omega
    rw [List.drop_eq_nil_of_le hi'] at z'
    unfold loopM at z'
    by_cases hok : it.ok s'
    · rw [if_pos hok] at z'
      obtain ⟨h1, h2, h3⟩ := r1 w' H' σ' s' l' R' hok i
      exact .inl ⟨h2 hi', z' w' H' σ' (Le.refl w' H') R'⟩
    · rw [if_neg hok] at z'; exact z'.elim
end
end Fx

namespace Fx
open PySem PySem.Spec PyProof.Rows L2
open Classical
variable {X : Cx} {W : WX}
section
variable {K : PySem.W.Frag} {α β ν μ : Type} {P : Pr ν α} {P2 : Pr μ β} {w w1 : Wd} {σ : L2.St} {s : S}
theorem Fol.bndE {t : L2.St → Hp → (ν → Hp → Prop) → Prop} {f : M α} {k : α → M β} {Q2 : μ → Hp → Prop} {Q : ν → Hp → Prop} {H : Hp} (h : Fol K W P t f) (R : RS K w H σ s) (p : Post K W P2 w H σ (Fx.bnd f k s) Q2)
    (g : ∀ a s' w' H' v, f s = .ok a s' → Le w H w' H' → RS K w' H' σ s' → P.p H w' H' v a → Post K W P2 w' H' σ (k a s') Q2 → Q v H') : t σ H Q := by
  refine h w H σ s Q R ?_
  unfold Fx.bnd at p
  cases e : f s with
  | ok a s' => rw [e] at p; exact fun w' H' v l R x => g a s' w' H' v e l R x (p.up l)
  | exc x s' => rw [e] at p; exact p
  | bad => rw [e] at p; exact p
end
/-! ### what is walked: a list, a tuple, a text -/
def signs (x : Str) : List D := x.cps.toList.map fun c => .str ⟨#[c]⟩
def itemsOf (s : S) : D → Option (List D)
  | .tup ds => some ds
  | .str x => some (signs x)
  | d => lstOf s d
noncomputable def seqI (d : D) : M Wk := fun s => match itemsOf s d with
  | some ds => .ok ⟨ds, fun s' => itemsOf s' d = some ds⟩ s
  | none => .bad
theorem PI.or {tg e : Expr} {w1 w2 : TI} (h1 : PI X tg e w1) (h2 : PI X tg e w2) : PI X tg e (fun σ H R => w1 σ H R ∨ w2 σ H R) :=
  ⟨fun pins s σ H R I h => h.elim (h1.run pins s σ H R I) (h2.run pins s σ H R I)⟩
theorem pI_list {K : PySem.W.Frag} {w0 : Wd} {a : Addr} {d : D} {ds : List D} (r : Rep K w0 (.ref a) d) (hl : ∀ s, itemsOf s d = lstOf s d) : wkI K w0 (Itl K a) ⟨ds, fun s' => itemsOf s' d = some ds⟩ := by
  intro w H σ s l R hok i
  have hok : itemsOf s d = some ds := hok
  rw [hl] at hok
  obtain ⟨a', vs, e, h1, h2⟩ := R.list (r.upW l) hok
  cases e
  have hS : SqL K H a vs := h1
  refine ⟨fun hi => ?_, fun hi => ⟨vs, hS, by rw [RepL.length h2]; exact hi⟩, fun x H' hy d' hd => ?_⟩
  · obtain ⟨v, hv, _⟩ := RepL.get h2 (List.getElem?_eq_getElem hi)
    exact ⟨vs, v, hS, hv⟩
  · obtain ⟨rfl, hx⟩ := hy
    obtain ⟨v, hv, rv⟩ := RepL.get h2 hd
    have := hx vs hS
    rw [hv] at this; cases this
    exact ⟨w, Le.refl _ _, R, rv⟩
theorem pI_tup {K : PySem.W.Frag} {w0 : Wd} {a : Addr} {ds : List D} (r : Rep K w0 (.ref a) (.tup ds)) : wkI K w0 (Itt K a) ⟨ds, fun s' => itemsOf s' (.tup ds) = some ds⟩ := by
  intro w H σ s l R hok i
  obtain ⟨a', vs, e, h1, h2⟩ := R.tuple (r.upW l) (ds := ds) rfl
  cases e
  refine ⟨fun hi => ?_, fun hi => ⟨vs, h1, by rw [RepL.length h2]; exact hi⟩, fun x H' hy d' hd => ?_⟩
  · obtain ⟨v, hv, _⟩ := RepL.get h2 (List.getElem?_eq_getElem hi)
    exact ⟨vs, v, h1, hv⟩
  · obtain ⟨rfl, hx⟩ := hy
    obtain ⟨v, hv, rv⟩ := RepL.get h2 hd
    have := hx vs h1
    rw [hv] at this; cases this
    exact ⟨w, Le.refl _ _, R, rv⟩
theorem pI_str {K : PySem.W.Frag} {w0 : Wd} {x : Str} : wkI K w0 (Its x) ⟨signs x, fun s' => itemsOf s' (.str x) = some (signs x)⟩ := by
  intro w H σ s l R hok i
  have hlen : (signs x).length = x.cps.size := by unfold signs; rw [List.length_map, Array.length_toList]
  refine ⟨fun hi => by rw [hlen] at hi; exact hi, fun hi => by rw [hlen] at hi; exact hi, fun v H' hy d' hd => ?_⟩
  obtain ⟨rfl, c, hc, rfl⟩ := hy
  have e : (signs x)[i]? = some (.str ⟨#[c]⟩) := by
    unfold signs
    rw [List.getElem?_map, Array.getElem?_toList, hc]; rfl
  have hd : (signs x)[i]? = some d' := hd
  rw [e] at hd; cases hd
  exact ⟨w, Le.refl _ _, R, .str _⟩
theorem di_seq {tg e : Expr} {f : M D} (h : DE X W e f) : DI X W tg e (bnd f seqI) := by
  obtain ⟨t, p, r⟩ := h
  refine ⟨_, PI.or (pi_list p) (PI.or (pi_tup p) (pi_str p)), fun w H σ s R0 R z => ?_⟩
  have base : ∀ (Q : V → Hp → Prop), (∀ a s' w' H' v, f s = .ok a s' → Le w H w' H' → RS X.K w' H' σ s' → Rep X.K w' v a → Post X.K W (pI X.K) w' H' σ (seqI a s') R0 → Q v H') → t σ H Q := fun Q g => r.bndE R z g
  cases hf : f s with
  | bad => exact .inl (base _ fun a s' w' H' v e => by rw [hf] at e; cases e)
  | exc x s1 => exact .inl (base _ fun a s' w' H' v e => by rw [hf] at e; cases e)
  | ok d s1 =>
    cases d with
    | tup ds =>
      refine .inr (.inl (base _ fun a s' w' H' v e l R' ra q => ?_))
      rw [hf] at e; cases e
      obtain ⟨a', vs, e, h1, h2⟩ := R'.tuple ra (ds := ds) rfl
      subst e
      exact ⟨a', rfl, ⟨vs, h1⟩, q w' H' _ (Le.refl _ _) R' (pI_tup ra)⟩
    | str x =>
      refine .inr (.inr (base _ fun a s' w' H' v e l R' ra q => ?_))
      rw [hf] at e; cases e
      cases ra
      exact ⟨x, rfl, q w' H' _ (Le.refl _ _) R' pI_str⟩
    | _ =>
      refine .inl (base _ fun a s' w' H' v e l R' ra q => ?_)
      rw [hf] at e; cases e
      unfold seqI at q
      split at q
      · next ds hds =>
        have hds' := hds
        simp only [itemsOf] at hds'
        obtain ⟨a', vs, e, h1, h2⟩ := R'.list ra hds'
        subst e
        refine ⟨a', rfl, ⟨vs, h1⟩, q w' H' _ (Le.refl _ _) R' (pI_list ra fun _ => rfl)⟩
      · exact q.elim
/-! ### range -/
def ranD (lo : Int) (n : Nat) : List D := (List.range n).map fun (k : Nat) => D.int (lo + (k : Int))
theorem ranD_len {lo : Int} {n : Nat} : (ranD lo n).length = n := by unfold ranD; rw [List.length_map, List.length_range]
theorem ranD_get {lo : Int} {n i : Nat} (h : i < n) : (ranD lo n)[i]? = some (.int (lo + (i : Int))) := by
  unfold ranD
  rw [List.getElem?_map, List.getElem?_range h]; rfl
def okB (i : Int) : Bool := decide (-(2 ^ 62) ≤ i) && decide (i < 2 ^ 62)
def ran1I : List D → M Wk
  | [.int n] => fun s => if okB n = true then .ok ⟨ranD 0 n.toNat, fun _ => True⟩ s else .bad
  | _ => fun _ => .bad
def ran2I : List D → M Wk
  | [.int lo, .int n] => fun s => if (okB lo && okB n) = true then .ok ⟨ranD lo (n - lo).toNat, fun _ => True⟩ s else .bad
  | _ => fun _ => .bad
theorem pI_ran {K : PySem.W.Frag} {w0 : Wd} {lo : Int} {n : Nat} : wkI K w0 (Itr lo n) ⟨ranD lo n, fun _ => True⟩ := by
  intro w H σ s l R _ i
  refine ⟨fun hi => by rw [ranD_len] at hi; exact hi, fun hi => by rw [ranD_len] at hi; exact hi, fun v H' hy d' hd => ?_⟩
  obtain ⟨rfl, rfl⟩ := hy
  have hi : i < n := by
    have := (List.getElem?_eq_some_iff.mp hd).1
    rw [ranD_len] at this; exact this
  have hd : (ranD lo n)[i]? = some d' := hd
  rw [ranD_get hi] at hd; cases hd
  exact ⟨w, Le.refl _ _, R, .int _⟩
theorem okB_ok {i : Int} (h : okB i = true) : -(2 ^ 62) ≤ i ∧ i < 2 ^ 62 := by
  unfold okB at h
  rw [Bool.and_eq_true, decide_eq_true_eq, decide_eq_true_eq] at h; exact h
theorem di_range1 {tg a : Expr} {f : M (List D)} {p pos : Pos} (hm : X.mg "range" = none) (h : DA X W [a] f) (hg : Gl X "range" := by rfl) (hs : starEach [a] X.env = [(false, eval a X.env)] := by rfl) : DI X W tg (.Call (.Name "range" p) [a] [] pos) (bnd f ran1I) := by
  obtain ⟨t, q, r⟩ := h
  refine ⟨_, pi_range1 hg hm q hs, fun w H σ s R0 R z => ?_⟩
  refine r.bnd R z fun ds s1 w1 H1 vs l1 R1 r1 p1 => ?_
  cases r1 with
  | nil => exact p1.elim
  | cons h t =>
    cases t with
    | nil =>
      cases h with
      | int n =>
        have p1 : Post X.K W (pI X.K) w1 H1 σ (if okB n = true then Res.ok (Wk.mk (ranD 0 n.toNat) fun _ => True) s1 else .bad) R0 := p1
        split at p1
        · next k => exact ⟨n, rfl, (okB_ok k).1, (okB_ok k).2, p1 w1 H1 _ (Le.refl _ _) R1 pI_ran⟩
        · exact p1.elim
      | _ => exact p1.elim
    | cons h2 t2 => exact (by cases h <;> exact p1.elim)
/-! ### zip of two lists, reversed -/
theorem pI_zip {K : PySem.W.Frag} {w0 : Wd} {a b : Addr} {d e : D} {xs ys : List D} (ra : Rep K w0 (.ref a) d) (rb : Rep K w0 (.ref b) e) : wkI K w0 (Itz K a b) ⟨List.zipWith D.pr xs ys, fun s' => lstOf s' d = some xs ∧ lstOf s' e = some ys⟩ := by
  intro w H σ s l R hok i
  obtain ⟨k1, k2⟩ : lstOf s d = some xs ∧ lstOf s e = some ys := hok
  obtain ⟨a', vs, e1, h1, h2⟩ := R.list (ra.upW l) k1
  cases e1
  obtain ⟨b', us, e2, h3, h4⟩ := R.list (rb.upW l) k2
  cases e2
  have hlen : (List.zipWith D.pr xs ys).length = min xs.length ys.length := List.length_zipWith
  refine ⟨fun hi => ?_, fun hi => ⟨vs, us, h1, h3, ?_⟩, fun x H' hy d' hd => ?_⟩
  · have hi : i < (List.zipWith D.pr xs ys).length := hi
    rw [hlen] at hi
    obtain ⟨v, hv, _⟩ := RepL.get h2 (List.getElem?_eq_getElem (show i < xs.length by omega))
    obtain ⟨u, hu, _⟩ := RepL.get h4 (List.getElem?_eq_getElem (show i < ys.length by omega))
    exact ⟨vs, us, v, u, h1, h3, hv, hu⟩
  · have hi : (List.zipWith D.pr xs ys).length ≤ i := hi
    rw [hlen] at hi
    rw [RepL.length h2, RepL.length h4]
    omega
  · obtain ⟨T, x1, y1, rfl, nT, rfl, f1, f2⟩ := hy
    have hd : (List.zipWith D.pr xs ys)[i]? = some d' := hd
    obtain ⟨v1, hv1⟩ : ∃ v, xs[i]? = some v := by
      have := (List.getElem?_eq_some_iff.mp hd).1
      rw [hlen] at this
      exact ⟨_, List.getElem?_eq_getElem (show i < xs.length by omega)⟩
    obtain ⟨v2, hv2⟩ : ∃ v, ys[i]? = some v := by
      have := (List.getElem?_eq_some_iff.mp hd).1
      rw [hlen] at this
      exact ⟨_, List.getElem?_eq_getElem (show i < ys.length by omega)⟩
    rw [List.getElem?_zipWith, hv1, hv2] at hd
    cases hd
    obtain ⟨u1, hu1, r1⟩ := RepL.get h2 hv1
    obtain ⟨u2, hu2, r2⟩ := RepL.get h4 hv2
    have e1 := f1 vs h1
    have e2 := f2 us h3
    rw [hu1] at e1; cases e1
    rw [hu2] at e2; cases e2
    obtain ⟨l2, R2, r⟩ := R.newP nT r1 r2
    exact ⟨_, l2, R2, r⟩
/-! ### targets of two, three names -/
def unp2 (i j : Nat) (d : D) : M Out := fun s => match d with
  | .tup [x, y] => .ok .nx { s with loc := (s.loc.set i (some x)).set j (some y) }
  | .pr x y => .ok .nx { s with loc := (s.loc.set i (some x)).set j (some y) }
  | _ => .bad
theorem dg_two {i j : Nat} {x y : Str} {kk : Nat} {p1 p2 pos : Pos} (hc : X.calm = true) (hN : X.N.Nodup) (hi : X.N[i]? = some x := by rfl) (hj : X.N[j]? = some y := by rfl) (hx : Loc X.env.scope x := by first | exact Or.inl rfl | exact Or.inr rfl) (hy : Loc X.env.scope y := by first | exact Or.inl rfl | exact Or.inr rfl)
    (hf : X.fn x = true ∨ X.env.scope.names.lookup x = some .local := by first | exact .inl rfl | exact .inr rfl) (hf2 : X.fn y = true ∨ X.env.scope.names.lookup y = some .local := by first | exact .inl rfl | exact .inr rfl)
    (hn : (assignEach [.Name x p1, .Name y p2] X.env).length = 2 := by rfl) (hst : (assignEach [.Name x p1, .Name y p2] X.env).findIdx? (·.1) = none := by rfl)
    (hs1 : (assignEach [.Name x p1, .Name y p2] X.env).map (·.2) = assign (.Name x p1) X.env :: (assignEach [.Name y p2] X.env).map (·.2) := by rfl) (hs2 : (assignEach [.Name y p2] X.env).map (·.2) = assign (.Name y p2) X.env :: (assignEach [] X.env).map (·.2) := by rfl) :
    DG X (.Tuple [.Name x p1, .Name y p2] kk pos) (unp2 i j) := by
  refine ⟨_, pg_tup hc (pgs_cons (pg_name hN hi hx hf) (pgs_cons (pg_name hN hj hy hf2) pgs_nil hs2) hs1) hn hst, fun w H σ s v d Q R r p => ?_⟩
  unfold unp2 at p
  split at p
  · next d1 d2 =>
    obtain ⟨a, vs, rfl, h1, h2⟩ := R.tuple r (ds := [d1, d2]) rfl
    cases h2 with
    | cons r1 t1 =>
      cases t1 with
      | cons r2 t2 =>
        cases t2
        exact ⟨a, _, rfl, h1, rfl, _, _, rfl, _, _, rfl, rfl, p w H _ (Le.refl _ _) ((R.set r1).set r2)⟩
  · next d1 d2 =>
    cases r with
    | pr h1 r1 r2 => exact ⟨_, _, rfl, sqT_up R.sub h1, rfl, _, _, rfl, _, _, rfl, rfl, p w H _ (Le.refl _ _) ((R.set r1).set r2)⟩
  · exact p.elim
end Fx

namespace Fx
open PySem PySem.Spec PyProof.Rows L2
open Classical
variable {X : Cx} {W : WX}
/-! ### [e for x in it if c]: the block's name in slot i -/
def yesM : M Bool := ret true
noncomputable def lcLoop (ok : S → Prop) (i : Nat) (c : M Bool) (e : M D) (l0 l : List (Option D)) : List D → List D → M Cell
  | [], acc => fun s => if ok s then .ok (.lst acc) { s with loc := l } else .bad
  | d :: ds, acc => fun s => if ok s ∧ acc.length < sizeLine then (match c { s with loc := l0.set i (some d) } with
    | .ok true s1 => match e s1 with
      | .ok y s2 => lcLoop ok i c e l0 l ds (acc ++ [y]) { s2 with loc := l0 }
      | _ => .bad
    | .ok false s1 => lcLoop ok i c e l0 l ds acc { s1 with loc := l0 }
    | _ => .bad) else .bad
noncomputable def lcM (f : M Wk) (i : Nat) (c : M Bool) (e : M D) : M Cell := bnd f fun it s => lcLoop it.ok i c e (s.loc.set i none) s.loc it.items [] { s with loc := s.loc.set i none }
theorem set_set_none {α : Type} {l : List (Option α)} {i : Nat} {x : Option α} : ((l.set i none).set i x).set i none = l.set i none := by
  rw [List.set_set, List.set_set]
theorem RS.wipe {K : PySem.W.Frag} {w : Wd} {H : Hp} {σ : L2.St} {s : S} {i : Nat} (R : RS K w H σ s) : RS K w H (σ.set i none) { s with loc := s.loc.set i none } := by
  refine R.other (by rw [List.length_set, List.length_set]; exact R.len) fun j d h => ?_
  by_cases hj : j = i
  · subst hj
    by_cases hl : j < s.loc.length
    · rw [List.getElem?_set_self hl] at h; cases h
    · rw [List.getElem?_eq_none (by rw [List.length_set]; omega)] at h; cases h
  · rw [List.getElem?_set_ne (Ne.symm hj)] at h ⊢
    exact R.loc j d h
/-- the slots that hold the locals l, by w -/
def LocOk (K : PySem.W.Frag) (w : Wd) (σ : L2.St) (l : List (Option D)) : Prop := σ.length = l.length ∧ ∀ (i : Nat) d, l[i]? = some (some d) → ∃ v, σ[i]? = some (some v) ∧ Rep K w v d
theorem LocOk.up {K : PySem.W.Frag} {w w' : Wd} {σ : L2.St} {l : List (Option D)} (h : LocOk K w σ l) (le : w.le w') : LocOk K w' σ l := ⟨h.1, fun i d e => let ⟨v, a, b⟩ := h.2 i d e; ⟨v, a, b.upW le⟩⟩
theorem RS.locOk {K : PySem.W.Frag} {w : Wd} {H : Hp} {σ : L2.St} {s : S} (R : RS K w H σ s) : LocOk K w σ s.loc := ⟨R.len, R.loc⟩
theorem RS.withLoc {K : PySem.W.Frag} {w : Wd} {H : Hp} {σ σ' : L2.St} {s : S} {l : List (Option D)} (R : RS K w H σ s) (h : LocOk K w σ' l) : RS K w H σ' { s with loc := l } := R.other h.1 h.2
theorem Le.mut {w w1 : Wd} {H H1 : Hp} {p : Addr} {o : HO} (l : Le w H w1 H1) (hp : H p = none) : Le w H w1 (upd H1 p o) := ⟨l.le, fun a q e h => by rw [upd_ne (ne_of_none e hp)]; exact l.keep a q e h, l.newρ, l.newF⟩
/-- a tracked thing that is neither frozen nor a cell may change -/
theorem RS.mut {K : PySem.W.Frag} {w : Wd} {H : Hp} {σ : L2.St} {s : S} {p : Addr} {o : HO} (R : RS K w H σ s) (hf : w.F p = none) (hr : p ∉ w.ρ) : RS K w (upd H p o) σ s :=
  ⟨fun a q e => by rw [upd_ne (ne_of_none e hf)]; exact R.sub a q e, R.len, R.loc, R.cl, R.nd, R.out, fun n a c e1 e2 => (R.cells n a c e1 e2).upW (Wd.le.refl w) (upd_ne fun (e : a = p) => hr (e ▸ List.mem_of_getElem? e1))⟩
theorem DN.pe {e : Expr} {f : M Cell} (h : DN X W e f) : PE X e (tM X.K W (pN X.K) f) := by
  obtain ⟨t, p, r⟩ := h
  exact ⟨fun pins s σ H Q I ⟨w, z, R, q⟩ => p.run pins s σ H Q I (r w H σ z Q R q)⟩
def tests (ifs : List Expr) (X : Cx) (c : M Bool) : Prop := PTs X ifs (tM X.K W0 pB c)
theorem tests_nil : tests [] X yesM := ⟨fun pins s σ H Q I ⟨w, z, R, q⟩ => pts_nil.run pins s σ H Q I (Post.here q R rfl)⟩
theorem lc_fol {wi : TI} {n : Str} {i : Nat} {fi : M Wk} {c : M Bool} {fe : M D} (r : Fol X.K W (pI X.K) wi fi) : Fol X.K W (pN X.K) (tLc wi (gName i) (tM X.K W0 pB c) (tM X.K W0 (pD X.K) fe) ([(n, i)].map (·.2))) (lcM fi i c fe) := by
  intro w H σ s Q R z
  refine r.bnd R z fun it s1 w1 H1 J l1 R1 r1 p1 => ?_
  intro Dl hD
  have fr := R1.fresh hD
  have z1 : Post X.K W (pN X.K) w1 H1 σ (lcLoop it.ok i c fe (s1.loc.set i none) s1.loc it.items [] { s1 with loc := s1.loc.set i none }) Q := p1
  have ew : L2.wipe σ ([(n, i)].map (·.2)) = σ.set i none := rfl
  -- what holds between two turns
  refine ⟨fun k m H' => m = it.items.length - k ∧ k ≤ it.items.length ∧ ∃ w' s' acc, Le w1 H1 w' H' ∧ RS X.K w' H' (σ.set i none) s' ∧ s'.loc = s1.loc.set i none ∧ w'.F Dl = none ∧ Dl ∉ w'.ρ ∧ (∃ vs, H' Dl = some (.lst vs) ∧ RepL X.K w' vs acc) ∧
    Post X.K W (pN X.K) w1 H1 σ (lcLoop it.ok i c fe (s1.loc.set i none) s1.loc (it.items.drop k) acc s') Q, ⟨_, rfl, Nat.zero_le _, w1, { s1 with loc := s1.loc.set i none }, [], Le.laid hD, (R1.laid hD).wipe, rfl, fr.1, fr.2, ⟨[], upd_same, .nil⟩, z1⟩, ?_⟩
  rintro k m H' ⟨rfl, hk, w', s', acc, l', R', el, hF, hρ, ⟨vs, hvs, racc⟩, z'⟩
  by_cases hlt : k < it.items.length
  · obtain ⟨d, hd⟩ : ∃ d, it.items[k]? = some d := ⟨_, List.getElem?_eq_getElem hlt⟩
    have ed : it.items.drop k = d :: it.items.drop (k + 1) := by
      rw [List.drop_eq_getElem_cons hlt]
      rw [List.getElem?_eq_getElem hlt] at hd
      rw [Option.some.inj hd]
    rw [ed] at z'
    unfold lcLoop at z'
    by_cases hok : it.ok s' ∧ acc.length < sizeLine
    · rw [if_pos hok] at z'
      obtain ⟨h1, h2, h3⟩ := r1 w' H' _ s' l'.le R' hok.1 k
      refine .inr ⟨h1 hlt, fun H2 => (k + 1 ≤ it.items.length ∧ ∃ w' s' acc, Le w1 H1 w' H2 ∧ RS X.K w' H2 (σ.set i none) s' ∧ s'.loc = s1.loc.set i none ∧ w'.F Dl = none ∧ Dl ∉ w'.ρ ∧ (∃ vs, H2 Dl = some (.lst vs) ∧ RepL X.K w' vs acc) ∧
        Post X.K W (pN X.K) w1 H1 σ (lcLoop it.ok i c fe (s1.loc.set i none) s1.loc (it.items.drop (k + 1)) acc s') Q), fun H2 hh => ⟨it.items.length - (k + 1), by omega, rfl, hh⟩, fun x H2 hy => ?_⟩
      obtain ⟨w2, l2, R2, r2⟩ := h3 x H2 hy d hd
      rw [ew]
      refine ⟨set_set_none, ?_⟩
      have R2s := R2.set (i := i) r2
      rw [el] at R2s
      -- the new list from one state to a later one
      have carry : ∀ {w5 : Wd} {H5 : Hp}, Le w' H' w5 H5 → w5.F Dl = none ∧ Dl ∉ w5.ρ ∧ H5 Dl = some (.lst vs) := fun {w5 H5} l5 => by
        refine ⟨?_, fun h => ?_, l5.keep Dl _ hvs hρ⟩
        · cases q : w5.F Dl with
          | none => rfl
          | some o =>
            rcases l5.newF Dl o q with h | h | h
            · rw [hF] at h; cases h
            · rw [hvs] at h; cases h
            · exact (hρ h).elim
        · rcases l5.newρ Dl h with h | h
          · exact hρ h
          · rw [hvs] at h; cases h
      have loc0 : LocOk X.K w1 (σ.set i none) (s1.loc.set i none) := R1.wipe.locOk
      refine ⟨w2, _, R2s, ?_⟩
      have z' : Post X.K W (pN X.K) w1 H1 σ (match c { s' with loc := (s1.loc.set i none).set i (some d) } with
        | .ok true s1' => match fe s1' with
          | .ok y s2 => lcLoop it.ok i c fe (s1.loc.set i none) s1.loc (it.items.drop (k + 1)) (acc ++ [y]) { s2 with loc := s1.loc.set i none }
          | _ => .bad
        | .ok false s1' => lcLoop it.ok i c fe (s1.loc.set i none) s1.loc (it.items.drop (k + 1)) acc { s1' with loc := s1.loc.set i none }
        | _ => .bad) Q := z'
      cases hcc : c { s' with loc := (s1.loc.set i none).set i (some d) } with
      | exc _ _ => rw [hcc] at z'; exact z'.elim
      | bad => rw [hcc] at z'; exact z'.elim
      | ok b s3 =>
        rw [hcc] at z'
        rintro w3 H3 b' l3 R3 eb
        have eb : b' = b := eb
        subst eb
        cases b' with
        | false =>
          obtain ⟨c1, c2, c3⟩ := carry (l2.trans l3)
          have lt := l'.trans (l2.trans l3)
          exact ⟨hlt, w3, { s3 with loc := s1.loc.set i none }, acc, lt, R3.withLoc (loc0.up lt.le), rfl, c1, c2, ⟨vs, c3, racc.up (l2.trans l3)⟩, z'⟩
        | true =>
          refine ⟨w3, s3, R3, ?_⟩
          have z' : Post X.K W (pN X.K) w1 H1 σ (match fe s3 with
            | .ok y s2 => lcLoop it.ok i c fe (s1.loc.set i none) s1.loc (it.items.drop (k + 1)) (acc ++ [y]) { s2 with loc := s1.loc.set i none }
            | _ => .bad) Q := z'
          cases hee : fe s3 with
          | exc _ _ => rw [hee] at z'; exact z'.elim
          | bad => rw [hee] at z'; exact z'.elim
          | ok y s4 =>
            rw [hee] at z'
            rintro w4 H4 v l4 R4 ry
            have lt := l2.trans (l3.trans l4)
            obtain ⟨c1, c2, c3⟩ := carry lt
            have lt1 := l'.trans lt
            refine ⟨vs, c3, by rw [RepL.length racc]; exact hok.2, hlt, w4, { s4 with loc := s1.loc.set i none }, acc ++ [y], lt1.mut hD, (R4.withLoc (loc0.up lt1.le)).mut c1 c2, rfl, c1, c2, ⟨vs ++ [v], upd_same, RepL.append (racc.up lt) (.cons ry .nil)⟩, z'⟩
    · rw [if_neg hok] at z'; exact z'.elim
  · have hk' : it.items.length ≤ k := by omega
    rw [List.drop_eq_nil_of_le hk'] at z'
    unfold lcLoop at z'
    by_cases hok : it.ok s'
    · rw [if_pos hok] at z'
      obtain ⟨h1, h2, h3⟩ := r1 w' H' _ s' l'.le R' hok k
      refine .inl ⟨h2 hk', z' w' H' _ l' (R'.withLoc (R1.locOk.up l'.le)) ⟨Dl, rfl, hF, hρ, ⟨vs, hvs, racc⟩, hD⟩⟩
    · rw [if_neg hok] at z'; exact z'.elim
theorem dn_lc {elt tg iter : Expr} {ifs : List Expr} {scope : Scope} {n : Str} {i : Nat} {pos : Pos} {fi : M Wk} {c : M Bool} {fe : M D} (hc : X.calm = true) (hN : X.N.Nodup) (hi : DI X W tg iter fi) (ok : BlkOk X.N X.env.scope scope [(n, i)])
    (hg : ∀ (s : Shared) (H : Hp) (C : Addr) (cl : List (Str × Addr)) (fp : List Addr), PG (X.blk s H scope (compEnvC scope cl C X.env) fp) tg (gName i))
    (ht : ∀ (s : Shared) (H : Hp) (C : Addr) (cl : List (Str × Addr)) (fp : List Addr), tests ifs (X.blk s H scope (compEnvC scope cl C X.env) fp) c)
    (he : ∀ (s : Shared) (H : Hp) (C : Addr) (cl : List (Str × Addr)) (fp : List Addr), DE (X.blk s H scope (compEnvC scope cl C X.env) fp) W0 elt fe) (hs : ∀ x, foldedSetIterable iter X.env x = pure x := by intro _; rfl) :
    DN X W (.ListComp elt [⟨tg, iter, ifs, 0⟩] scope pos) (lcM fi i c fe) := by
  obtain ⟨wi, p, r⟩ := hi
  exact ⟨_, pe_lc (tt := tM X.K W0 pB c) (te := tM X.K W0 (pD X.K) fe) hc hN p ok hg (fun s H C cl fp => ht s H C cl fp) (fun s H C cl fp => (he s H C cl fp).pe) hs, lc_fol r⟩
section
variable {elt tg iter : Expr} {ifs : List Expr} {scope : Scope} {n y : Str} {i j : Nat} {py pos spos : Pos} {fi : M Wk} {c : M Bool} {fe : M D}
end
end Fx

namespace Fx
open PySem PySem.Spec PyProof.Rows L2
open Classical
variable {X : Cx} {W : WX}
/-! ### what a def hands back: its new cells as trees -/
mutual
/-- no cell from b on -/
def nc (b : Nat) : D → Bool
  | .cell n => decide (n < b)
  | .tup xs => ncL b xs
  | .lst xs => ncL b xs
  | .pr x y => nc b x && nc b y
  | .err _ _ xs => ncL b xs
  | _ => true
def ncL (b : Nat) : List D → Bool
  | [] => true
  | x :: xs => nc b x && ncL b xs
end
def mapO (f : D → Option D) : List D → Option (List D)
  | [] => some []
  | x :: xs => match f x, mapO f xs with
    | some y, some ys => some (y :: ys)
    | _, _ => none
def thaw (vh : List Cell) (b : Nat) : Nat → D → Option D
  | 0, d => if nc b d = true then some d else none
  | k + 1, d => if nc b d = true then some d else match d with
    | .cell n => match vh[n]? with
      | some (.lst ds) => (mapO (thaw vh b k) ds).map .lst
      | _ => none
    | .tup ds => (mapO (thaw vh b k) ds).map .tup
    | .lst ds => (mapO (thaw vh b k) ds).map .lst
    | _ => none
def Wd.fall (w : Wd) (b : Nat) (H : Hp) : Wd := ⟨w.ρ.take b, fun a => match w.F a with
  | some o => some o
  | none => if a ∈ w.ρ.drop b then H a else none⟩
section
variable {K : PySem.W.Frag} {w w0 : Wd} {H H0 : Hp} {σ : L2.St} {s : S} {b : Nat}
theorem fall_F {a : Addr} {o : HO} (h : w.F a = some o) : (w.fall b H).F a = some o := by
  show (match w.F a with | some o => some o | none => if a ∈ w.ρ.drop b then H a else none) = some o
  rw [h]
mutual
theorem nc_rep : ∀ {v : V} {d : D}, Rep K w v d → nc b d = true → Rep K (w.fall b H) v d
  | _, _, .non, _ => .non
  | _, _, .bl x, _ => .bl x
  | _, _, .int i, _ => .int i
  | _, _, .str x, _ => .str x
  | _, _, .ref a, _ => .ref a
  | _, _, .emp h, _ => .emp (fall_F h)
  | _, _, .err h t, c => .err (h.up (fun _ _ e => fall_F e)) (nc_repL t (by simpa [nc] using c))
  | _, _, .tup h t, c => .tup (h.up (fun _ _ e => fall_F e)) (nc_repL t (by simpa [nc] using c))
  | _, _, .pr h r q, c => by
    unfold nc at c
    rw [Bool.and_eq_true] at c
    exact .pr (sqT_up (fun _ _ e => fall_F e) h) (nc_rep r c.1) (nc_rep q c.2)
  | _, _, .lst h t, c => .lst (sqL_up (fun _ _ e => fall_F e) h) (nc_repL t (by simpa [nc] using c))
  | _, _, .cell (n := n) h, c => .cell (by
      have hn : n < b := by simpa [nc] using c
      show (w.ρ.take b)[n]? = _
      rw [List.getElem?_take, if_pos hn]; exact h)
theorem nc_repL : ∀ {vs : List V} {ds : List D}, RepL K w vs ds → ncL b ds = true → RepL K (w.fall b H) vs ds
  | _, _, .nil, _ => .nil
  | _, _, .cons h t, c => by
    have c : (nc b _ && ncL b _) = true := c
    rw [Bool.and_eq_true] at c
    exact .cons (nc_rep h c.1) (nc_repL t c.2)
end
mutual
theorem nc_of : ∀ {v : V} {d : D}, Rep K w0 v d → w0.ρ.length ≤ b → nc b d = true
  | _, _, .non, _ => rfl
  | _, _, .bl x, _ => rfl
  | _, _, .int i, _ => rfl
  | _, _, .str x, _ => rfl
  | _, _, .ref a, _ => rfl
  | _, _, .emp h, _ => rfl
  | _, _, .err h t, c => by unfold nc; exact nc_ofL t c
  | _, _, .tup h t, c => by unfold nc; exact nc_ofL t c
  | _, _, .pr h r q, c => by unfold nc; rw [nc_of r c, nc_of q c]; rfl
  | _, _, .lst h t, c => by unfold nc; exact nc_ofL t c
  | _, _, .cell (n := n) h, c => by
    have := (List.getElem?_eq_some_iff.mp h).1
    unfold nc; exact decide_eq_true (by omega)
theorem nc_ofL : ∀ {vs : List V} {ds : List D}, RepL K w0 vs ds → w0.ρ.length ≤ b → ncL b ds = true
  | _, _, .nil, _ => rfl
  | _, _, .cons h t, c => by
    unfold ncL
    rw [nc_of h c, nc_ofL t c]; rfl
end
theorem nc_repK : ∀ {vs vs0 : List (Key × V)} {ds : List (Key × D)}, RepK K w vs ds → RepK K w0 vs0 ds → w0.ρ.length ≤ b → RepK K (w.fall b H) vs ds
  | _, _, _, .nil, _, _ => .nil
  | _, _, _, .cons h t, .cons h0 t0, c => .cons (nc_rep h (nc_of h0 c)) (nc_repK t t0 c)
theorem nc_repF : ∀ {vs vs0 : List (Str × V)} {ds : List (Str × D)}, RepF K w vs ds → RepF K w0 vs0 ds → w0.ρ.length ≤ b → RepF K (w.fall b H) vs ds
  | _, _, _, .nil, _, _ => .nil
  | _, _, _, .cons h t, .cons h0 t0, c => .cons (nc_rep h (nc_of h0 c)) (nc_repF t t0 c)
mutual
theorem nk_nc {b : Nat} : ∀ {d : D} {q : NestedKey}, nkD d = some q → nc b d = true
  | .non, _, _ => rfl
  | .bl _, _, _ => rfl
  | .int _, _, _ => rfl
  | .str _, _, _ => rfl
  | .tup ds, q, h => by
    unfold nkD at h
    unfold nc
    cases e : nkL ds with
    | none => rw [e] at h; cases h
    | some ks => exact nk_ncL e
  | .lst _, _, h => by cases h
  | .cell _, _, h => by cases h
  | .ref _, _, h => by cases h
  | .pr _ _, _, h => by cases h
  | .emp, _, h => by cases h
  | .err _ _ _, _, h => by cases h
theorem nk_ncL {b : Nat} : ∀ {ds : List D} {ks : List NestedKey}, nkL ds = some ks → ncL b ds = true
  | [], _, _ => rfl
  | d :: r, _, h => by
    unfold nkL at h
    unfold ncL
    cases e1 : nkD d with
    | none => rw [e1] at h; cases h
    | some k =>
      cases e2 : nkL r with
      | none => rw [e1, e2] at h; cases h
      | some ks => rw [nk_nc e1, nk_ncL e2]; rfl
end
theorem nc_repN : ∀ {xs xs0 : NX} {ds : List (NestedKey × D)}, RepN K w xs ds → RepN K w0 xs0 ds → w0.ρ.length ≤ b → RepN K (w.fall b H) xs ds
  | _, _, _, .nil, _, _ => .nil
  | _, _, _, .cons hk hq r ru h t, .cons _ _ _ _ h0 t0, c => .cons hk hq (nc_rep r (nk_nc hk)) ru (nc_rep h (nc_of h0 c)) (nc_repN t t0 c)
theorem mapO_rep {f : D → Option D} {w1 : Wd} (ih : ∀ v d d', Rep K w v d → f d = some d' → Rep K w1 v d') : ∀ {vs : List V} {ds ds' : List D}, RepL K w vs ds → mapO f ds = some ds' → RepL K w1 vs ds'
  | _, _, _, .nil, e => by cases e; exact .nil
  | _, _, _, .cons (d := d) (ds := ds) h t, e => by
    unfold mapO at e
    cases h1 : f d with
    | none => rw [h1] at e; cases e
    | some y =>
      cases h2 : mapO f ds with
      | none => rw [h1, h2] at e; cases e
      | some ys =>
        rw [h1, h2] at e; cases e
        exact .cons (ih _ _ _ h h1) (mapO_rep ih t h2)
theorem RepL.nd (R : RS K w H σ s) {n : Nat} {a : Addr} (h : w.ρ[n]? = some a) (hb : b ≤ n) : a ∈ w.ρ.drop b := by
  refine List.mem_of_getElem? (i := n - b) ?_
  rw [List.getElem?_drop, Nat.add_sub_cancel' hb]; exact h
theorem thaw_rep (R : RS K w H σ s) : ∀ (k : Nat) {v : V} {d d' : D}, Rep K w v d → thaw s.vh b k d = some d' → Rep K (w.fall b H) v d'
  | 0, v, d, d', r, e => by
    unfold thaw at e
    split at e
    · next c => cases e; exact nc_rep r c
    · cases e
  | k + 1, v, d, d', r, e => by
    unfold thaw at e
    split at e
    · next c => cases e; exact nc_rep r c
    · next c =>
      have ih : ∀ {v : V} {d d' : D}, Rep K w v d → thaw s.vh b k d = some d' → Rep K (w.fall b H) v d' := fun r q => thaw_rep R k r q
      cases r with
      | tup h t =>
        dsimp only at e
        cases h2 : mapO (thaw s.vh b k) _ with
        | none => rw [h2] at e; cases e
        | some ys => rw [h2] at e; cases e; exact .tup (h.up (fun _ _ e => fall_F e)) (mapO_rep (fun _ _ _ r q => ih r q) t h2)
      | lst h t =>
        dsimp only at e
        cases h2 : mapO (thaw s.vh b k) _ with
        | none => rw [h2] at e; cases e
        | some ys => rw [h2] at e; cases e; exact .lst (sqL_up (fun _ _ e => fall_F e) h) (mapO_rep (fun _ _ _ r q => ih r q) t h2)
      | @cell a n h =>
        dsimp only at e
        have hn : ¬ n < b := by simpa [nc] using c
        obtain ⟨cc, e1, hc⟩ := R.cellOf h
        rw [e1] at e
        cases cc with
        | dct _ => cases e
        | obj _ _ => cases e
        | dctL _ _ _ => cases e
        | dctN _ _ => cases e
        | lst ds =>
          dsimp only at e
          cases h2 : mapO (thaw s.vh b k) ds with
          | none => rw [h2] at e; cases e
          | some ys =>
            rw [h2] at e; cases e
            obtain ⟨vs, q1, q2⟩ := hc
            refine .lst (SqL.of ?_) (mapO_rep (fun _ _ _ r q => ih r q) q2 h2)
            show (match w.F _ with | some o => some o | none => if _ ∈ w.ρ.drop b then H _ else none) = _
            rw [R.out _ (List.mem_of_getElem? h)]
            show (if _ ∈ w.ρ.drop b then H _ else none) = _
            rw [if_pos (RepL.nd R h (by omega))]; exact q1
      | pr h r q => cases e
      | err h t => cases e
      | _ => simp [nc] at c
/-- the caller's state behind a def that changed nothing of it -/
theorem RS.back {σ0 : L2.St} {s0 : S} (R0 : RS K w0 H0 σ0 s0) (l : Le w0 H0 w H) (R : RS K w H σ s) (hp : s.vh.take s0.vh.length = s0.vh) (hb : b = s0.vh.length) : Le w0 H0 (w.fall b H) H ∧ RS K (w.fall b H) H σ0 s0 := by
  subst hb
  have hlen : s0.vh.length ≤ w.ρ.length := by
    rw [R.cl]
    have := congrArg List.length hp
    rw [List.length_take] at this
    omega
  have hρ : ∀ n a, w0.ρ[n]? = some a → (w.ρ.take s0.vh.length)[n]? = some a := fun n a e => by
    have hn : n < s0.vh.length := by rw [← R0.cl]; exact (List.getElem?_eq_some_iff.mp e).1
    rw [List.getElem?_take, if_pos hn]; exact l.le.1 n a e
  have le : w0.le (w.fall s0.vh.length H) := ⟨hρ, fun a o e => fall_F (l.le.2 a o e)⟩
  have outD : ∀ a ∈ w.ρ.drop s0.vh.length, a ∉ w.ρ.take s0.vh.length := fun a h h2 => by
    have nd := R.nd
    rw [← List.take_append_drop s0.vh.length w.ρ, List.nodup_append] at nd
    exact nd.2.2 a h2 a h rfl
  refine ⟨⟨le, l.keep, fun a h => l.newρ a (List.mem_of_mem_take h), fun a o h => ?_⟩, ?_⟩
  · have h : (match w.F a with | some o => some o | none => if a ∈ w.ρ.drop s0.vh.length then H a else none) = some o := h
    cases q : w.F a with
    | some o' => rw [q] at h; cases h; exact l.newF a _ q
    | none =>
      rw [q] at h
      have h : (if a ∈ w.ρ.drop s0.vh.length then H a else none) = some o := h
      split at h
      · next hm =>
        rcases l.newρ a (List.mem_of_mem_drop hm) with z | z
        · exact .inr (.inr z)
        · exact .inr (.inl z)
      · cases h
  · refine ⟨fun a o h => ?_, R0.len, fun i d e => ?_, ?_, R.nd.sublist (List.take_sublist _ _), fun a ha => ?_, fun n a c e1 e2 => ?_⟩
    · have h : (match w.F a with | some o => some o | none => if a ∈ w.ρ.drop s0.vh.length then H a else none) = some o := h
      cases q : w.F a with
      | some o' => rw [q] at h; cases h; exact R.sub a _ q
      | none =>
        rw [q] at h
        have h : (if a ∈ w.ρ.drop s0.vh.length then H a else none) = some o := h
        split at h
        · exact h
        · cases h
    · obtain ⟨v, h1, h2⟩ := R0.loc i d e
      exact ⟨v, h1, h2.upW le⟩
    · show (w.ρ.take s0.vh.length).length = _
      rw [List.length_take]; omega
    · show (match w.F a with | some o => some o | none => if a ∈ w.ρ.drop s0.vh.length then H a else none) = none
      rw [R.out a (List.mem_of_mem_take ha)]
      show (if a ∈ w.ρ.drop s0.vh.length then H a else none) = none
      rw [if_neg fun h => outD a h ha]
    · have e1 : (w.ρ.take s0.vh.length)[n]? = some a := e1
      have hn : n < s0.vh.length := (List.getElem?_eq_some_iff.mp e2).1
      rw [List.getElem?_take, if_pos hn] at e1
      have e2' : s.vh[n]? = some c := by
        rw [← hp, List.getElem?_take, if_pos hn] at e2; exact e2
      have hc := R.cells n a c e1 e2'
      obtain ⟨a0, _, hc0⟩ := R0.addrOf e2
      cases c with
      | lst ds =>
        obtain ⟨vs, q1, q2⟩ := hc
        obtain ⟨vs0, _, q0⟩ := hc0
        exact ⟨vs, q1, nc_repL q2 (nc_ofL q0 (Nat.le_of_eq R0.cl))⟩
      | dct kvs =>
        obtain ⟨vs, q1, q2⟩ := hc
        obtain ⟨vs0, _, q0⟩ := hc0
        exact ⟨vs, q1, nc_repK q2 q0 (Nat.le_of_eq R0.cl)⟩
      | dctN wd kvs =>
        obtain ⟨xs, q1, q2⟩ := hc
        obtain ⟨_, _, q0⟩ := hc0
        exact ⟨xs, q1, nc_repN q2 q0 (Nat.le_of_eq R0.cl)⟩
      | dctL o us kvs =>
        obtain ⟨q1, q2⟩ := hc
        obtain ⟨_, q0⟩ := hc0
        exact ⟨q1, nc_repK q2 q0 (Nat.le_of_eq R0.cl)⟩
      | obj x fs =>
        obtain ⟨C, dx, vs, q0, q1, q2⟩ := hc
        obtain ⟨_, _, vs0, _, _, q3⟩ := hc0
        exact ⟨C, dx, vs, q0, q1, nc_repF q2 q3 (Nat.le_of_eq R0.cl)⟩
end
/-! ### pure defs -/
abbrev Pf := List D → List Cell → Option D
noncomputable def fin (vh : List Cell) (s : S) (d : D) : Option D := if s.vh.take vh.length = vh then thaw s.vh vh.length 8 d else none
def initS (n : Nat) (ds : List D) (vh : List Cell) : S := ⟨ds.map some ++ List.replicate (n - ds.length) none, vh⟩
noncomputable def runP (n : Nat) (g : M Out) : Pf := fun ds vh => match g (initS n ds vh) with
  | .ok (.rt d) s => fin vh s d
  | .ok .nx s => fin vh s .non
  | _ => none
/-- the promise: from data to a datum, nothing of the caller's changed -/
def SpP (K : PySem.W.Frag) (n : Nat) (F : Pf) : Sp := fun vs H Q _ => vs.length = n ∧ ∃ w σ s ds d, RS K w H σ s ∧ RepL K w vs ds ∧ F ds s.vh = some d ∧ ∀ w' H' v, Le w H w' H' → RS K w' H' σ s → Rep K w' v d → Q v H'
theorem fn_pure {P : Program} {wd : World} {K : PySem.W.Frag} {mg : Str → Option Value} {base : Heap} {x qual : Str} {st : Stmt} {f : Addr} {fd : FuncData} {N ps : List Str} {k : Nat} {g : M Out} (F : Fun K x qual st f fd) (Sc : FnScope N ps (defScope st)) (hle : ps.length ≤ N.length)
    (body : ∀ (cdv : Value) (A : Around) (outer : List Env) (s : Shared) (H : Hp) (E : XK), Room k (A.deeper (envOfC qual (defScope st) s.heap.objs.size f cdv)) →
      DSs (cxOf CX0 P wd K mg base N qual (defScope st) f cdv A outer s H E).nox W0 (defBody st) g) : FnOk P wd K mg base CX0 (k + 1) f fd ps (SpP K ps.length (runP N.length g)) := by
  refine F.ok Sc (fun vs H Q E h => h.1) fun cdv A outer s H vs Q E hr h => ?_
  obtain ⟨t, p, r⟩ := body cdv A outer s H E hr
  obtain ⟨hl, w, σ, z, ds, d, R, rv, e, q⟩ := h
  refine ⟨t, p, r w H _ (initS N.length ds z.vh) _ ?_ ?_⟩
  · have hdl := RepL.length rv
    refine R.other (l := ds.map some ++ List.replicate (N.length - ds.length) none) ?_ fun i d hi => ?_
    · show (vs.map some ++ List.replicate (N.length - vs.length) none).length = _
      simp only [List.length_append, List.length_map, List.length_replicate]
      rw [hdl]
    · by_cases hlt : i < ds.length
      · rw [List.getElem?_append_left (by rw [List.length_map]; exact hlt), List.getElem?_map] at hi
        cases h2 : ds[i]? with
        | none => rw [h2] at hi; cases hi
        | some d2 =>
          rw [h2] at hi; cases hi
          obtain ⟨v, h3, h4⟩ := RepL.get rv h2
          refine ⟨v, ?_, h4⟩
          show (vs.map some ++ _)[i]? = _
          rw [List.getElem?_append_left (by rw [List.length_map, hdl]; exact hlt), List.getElem?_map, h3]; rfl
      · rw [List.getElem?_append_right (by rw [List.length_map]; omega)] at hi
        have := List.mem_of_getElem? hi
        rw [List.mem_replicate] at this
        cases this.2
  · show PostS K W0 w H (g (initS N.length ds z.vh)) _
    unfold runP at e
    have fin_ok : ∀ {d0 : D} {s1 : S}, fin z.vh s1 d0 = some d → ∀ w' H' σ' v, Le w H w' H' → RS K w' H' σ' s1 → Rep K w' v d0 → Q v H' := fun {d0 s1} e w' H' σ' v l R' rv => by
      unfold fin at e
      split at e
      · next hp =>
        obtain ⟨l2, R2⟩ := RS.back R l R' hp rfl
        exact q _ _ _ l2 R2 (thaw_rep R' 8 rv e)
      · cases e
    cases hg : g (initS N.length ds z.vh) with
    | bad => rw [hg] at e; cases e
    | exc x s1 => rw [hg] at e; cases e
    | ok o s1 =>
      rw [hg] at e
      cases o with
      | brk => cases e
      | cnt => cases e
      | rt d0 => exact fun w' H' σ' v l R' rv => fin_ok e w' H' σ' v l R' rv
      | nx => exact fun w' H' σ' l R' => fin_ok e w' H' σ' .non l R' .non
/-- a def of the text that keeps such a promise, by its name -/
structure FnP (P : Program) (wd : World) (K : PySem.W.Frag) (mg : Str → Option Value) (base : Heap) (x : Str) (n k : Nat) (F : Pf) : Prop where
  ex : ∃ (f : Addr) (fd : FuncData) (ps : List Str), ps.length = n ∧ mg x = some (.ref f) ∧ PySem.W.keepIn K (.ref f) = true ∧ Binds K fd ps [] ∧ FnOk P wd K mg base CX0 k f fd ps (SpP K n F)
theorem FnP.mono {P : Program} {wd : World} {K : PySem.W.Frag} {mg : Str → Option Value} {base : Heap} {x : Str} {n j k : Nat} {F : Pf} (h : FnP P wd K mg base x n j F) (l : j ≤ k) : FnP P wd K mg base x n k F :=
  let ⟨f, fd, ps, a, b, c, d, e⟩ := h.ex; ⟨f, fd, ps, a, b, c, d, e.mono l⟩
def callP (n : Nat) (F : Pf) (ds : List D) : M D := fun s => if ds.length = n then match F ds s.vh with
  | some d => .ok d s
  | none => .bad else .bad
theorem de_callP {x : Str} {n k : Nat} {F : Pf} {e : Expr} {es : List Expr} {fs : M (List D)} {p pos : Pos} (h : FnP X.prog X.w X.K X.mg X.base x n k F) (hr : Room k X.A) (ha : DA X W (e :: es) fs) (hg : Gl X x := by rfl) (hdb : (x == ("__debug__" : Str)) = false := by decide)
    (he : starEach (e :: es) X.env = (false, eval e X.env) :: starEach es X.env := by rfl) (hpl : (backTo pos (starEach es X.env)).any (·.1) = false := by rfl) : DE X W (.Call (.Name x p) (e :: es) [] pos) (bnd fs (callP n F)) := by
  obtain ⟨f, fd, ps, hps, hm, hk, hb, G⟩ := h.ex
  obtain ⟨t, q, r⟩ := ha
  refine ⟨_, pe_call G hr hg hm hk hb .nil pass0 q hdb he hpl, fun w H σ s Q R z => ?_⟩
  refine r.bnd R z fun ds s1 w1 H1 vs l1 R1 r1 p1 => ?_
  have p1 : Post X.K W (pD X.K) w1 H1 σ (if ds.length = n then match F ds s1.vh with
    | some d => .ok d s1
    | none => .bad else .bad) Q := p1
  by_cases hl : ds.length = n
  · rw [if_pos hl] at p1
    cases hF : F ds s1.vh with
    | none => rw [hF] at p1; exact p1.elim
    | some d =>
      rw [hF] at p1
      refine ⟨?_, w1, σ, s1, ds, d, R1, ?_, hF, fun w' H' v l R' r' => p1 w' H' v l R' r'⟩
      · rw [List.append_nil, RepL.length r1]; exact hl
      · rw [List.append_nil]; exact r1
  · rw [if_neg hl] at p1; exact p1.elim
end Fx

namespace Fx
open PySem PySem.Spec PyProof.Rows L2
variable {X : Cx} {W : WX}
/-! ### built-in calls -/
def RCal (X : Cx) (r : List V → Hp → VK → Prop) (g : List D → M D) : Prop := ∀ (W : WX) w H σ s vs ds Q, RS X.K w H σ s → RepL X.K w vs ds → Post X.K W (pD X.K) w H σ (g ds s) Q → r vs H Q
def RCalN (X : Cx) (r : List V → Hp → VK → Prop) (g : List D → M Cell) : Prop := ∀ (W : WX) w H σ s vs ds Q, RS X.K w H σ s → RepL X.K w vs ds → Post X.K W (pN X.K) w H σ (g ds s) Q → r vs H Q
section
variable {id : String} {r : List V → Hp → VK → Prop} {x : Str} {e : Expr} {es : List Expr} {fs : M (List D)} {p pos : Pos} {T : String}
theorem de_callB {g : List D → M D} (hc : CallR X (.builtin id) r) (hr : RCal X r g) (hm : X.mg x = none) (ha : DA X W (e :: es) fs) (hv : bootBuiltins x = some (.builtin id)) (hg : Gl X x := by rfl) (hn : x ≠ "__name__" := by decide) (hdb : (x == ("__debug__" : Str)) = false := by decide)
    (he : starEach (e :: es) X.env = (false, eval e X.env) :: starEach es X.env := by rfl) (hpl : (backTo pos (starEach es X.env)).any (·.1) = false := by rfl) : DE X W (.Call (.Name x p) (e :: es) [] pos) (bnd fs g) := by
  obtain ⟨t, q, k⟩ := ha
  refine ⟨_, pe_callB hc hg hm hv q hn hdb he hpl, fun w H σ s Q R z => ?_⟩
  exact k.bnd R z fun ds s1 w1 H1 vs l1 R1 r1 p1 => hr W w1 H1 σ s1 vs ds Q R1 r1 p1
theorem dn_callB {g : List D → M Cell} (hc : CallR X (.builtin id) r) (hr : RCalN X r g) (hm : X.mg x = none) (ha : DA X W (e :: es) fs) (hv : bootBuiltins x = some (.builtin id)) (hg : Gl X x := by rfl) (hn : x ≠ "__name__" := by decide) (hdb : (x == ("__debug__" : Str)) = false := by decide)
    (he : starEach (e :: es) X.env = (false, eval e X.env) :: starEach es X.env := by rfl) (hpl : (backTo pos (starEach es X.env)).any (·.1) = false := by rfl) : DN X W (.Call (.Name x p) (e :: es) [] pos) (bnd fs g) := by
  obtain ⟨t, q, k⟩ := ha
  refine ⟨_, pe_callB hc hg hm hv q hn hdb he hpl, fun w H σ s Q R z => ?_⟩
  exact k.bnd R z fun ds s1 w1 H1 vs l1 R1 r1 p1 => hr W w1 H1 σ s1 vs ds Q R1 r1 p1
theorem de_callT {g : List D → M D} (hc : CallR X (.type T) r) (hr : RCal X r g) (hm : X.mg x = none) (ha : DA X W (e :: es) fs) (hv : bootBuiltins x = some (.type T)) (hg : Gl X x := by rfl) (hn : x ≠ "__name__" := by decide) (hdb : (x == ("__debug__" : Str)) = false := by decide)
    (he : starEach (e :: es) X.env = (false, eval e X.env) :: starEach es X.env := by rfl) (hpl : (backTo pos (starEach es X.env)).any (·.1) = false := by rfl) : DE X W (.Call (.Name x p) (e :: es) [] pos) (bnd fs g) := by
  obtain ⟨t, q, k⟩ := ha
  refine ⟨_, pe_callTy hc hg hm hv q hn hdb he hpl, fun w H σ s Q R z => ?_⟩
  exact k.bnd R z fun ds s1 w1 H1 vs l1 R1 r1 p1 => hr W w1 H1 σ s1 vs ds Q R1 r1 p1
end
theorem one_of {K : PySem.W.Frag} {w : Wd} {vs : List V} {d : D} (r : RepL K w vs [d]) : ∃ v, vs = [v] ∧ Rep K w v d := by
  cases r with | cons h t => cases t; exact ⟨_, rfl, h⟩
theorem two_of {K : PySem.W.Frag} {w : Wd} {vs : List V} {d e : D} (r : RepL K w vs [d, e]) : ∃ v u, vs = [v, u] ∧ Rep K w v d ∧ Rep K w u e := by
  cases r with | cons h t => cases t with | cons h2 t2 => cases t2; exact ⟨_, _, rfl, h, h2⟩
/-! len -/
def lenM : List D → M D
  | [d] => fun s => match d with
    | .str x => if lenOk x.length = true then .ok (.int x.length) s else .bad
    | .tup ds => .ok (.int ds.length) s
    | d => match lstOf s d with
      | some ds => .ok (.int ds.length) s
      | none => match dctOf s d with
        | some kvs => .ok (.int kvs.length) s
        | none => .bad
  | _ => fail
theorem callR_or {f : Value} {r1 r2 : List V → Hp → VK → Prop} (h1 : CallR X f r1) (h2 : CallR X f r2) : CallR X f (fun xs H Q => r1 xs H Q ∨ r2 xs H Q) := by
  intro pins s σ H xs us Q I r h
  rcases h with h | h
  · exact h1 pins s σ H xs us Q I r h
  · exact h2 pins s σ H xs us Q I r h
theorem RepK.length {K : PySem.W.Frag} {w : Wd} : ∀ {vs : List (Key × V)} {ds : List (Key × D)}, RepK K w vs ds → vs.length = ds.length
  | _, _, .nil => rfl
  | _, _, .cons _ t => by simp only [List.length_cons]; rw [RepK.length t]
theorem rc_len : RCal X (fun xs H Q => (∃ x n, xs = [x] ∧ LenV X.K x H n ∧ Q (.int n) H) ∨ ∃ a kvs, xs = [V.ref a] ∧ H a = some (.dK kvs) ∧ Q (.int kvs.length) H) lenM := by
  intro W w H σ s vs ds Q R r p
  unfold lenM at p
  split at p
  · next d =>
    obtain ⟨v, rfl, rv⟩ := one_of r
    split at p
    · next x =>
      split at p
      · next k => cases rv; exact .inl ⟨_, _, rfl, ⟨of_decide_eq_true k, rfl⟩, Post.here p R (Rep.int _)⟩
      · exact p.elim
    · next es =>
      obtain ⟨a, us, rfl, h1, h2⟩ := R.tuple rv (ds := es) rfl
      refine .inl ⟨_, us.length, rfl, .inr ⟨us, h1, rfl⟩, ?_⟩
      rw [RepL.length h2]; exact Post.here p R (Rep.int _)
    · split at p
      · next es he =>
        obtain ⟨a, us, rfl, h1, h2⟩ := R.list rv he
        refine .inl ⟨_, us.length, rfl, .inl ⟨us, h1, rfl⟩, ?_⟩
        rw [RepL.length h2]; exact Post.here p R (Rep.int _)
      · split at p
        · next kvs he =>
          obtain ⟨a, us, rfl, h1, h2⟩ := R.dict rv he
          refine .inr ⟨_, us, rfl, h1, ?_⟩
          rw [RepK.length h2]; exact Post.here p R (Rep.int _)
        · exact p.elim
  · exact p.elim
theorem de_len {e : Expr} {fs : M (List D)} {p pos : Pos} (hm : X.mg "len" = none) (ha : DA X W [e] fs) (hg : Gl X "len" := by rfl) (he : starEach [e] X.env = (false, eval e X.env) :: starEach [] X.env := by rfl) (hpl : (backTo pos (starEach [] X.env)).any (·.1) = false := by rfl) :
    DE X W (.Call (.Name "len" p) [e] [] pos) (bnd fs lenM) := de_callB (callR_or call_len call_lenD) rc_len hm ha PySem.boot_len hg (by decide) (by decide) he hpl
/-! isinstance of a built-in class -/
def tyName (s : S) : D → Option String
  | .non => some "NoneType"
  | .bl _ => some "bool"
  | .int _ => some "int"
  | .str _ => some "str"
  | .tup _ => some "tuple"
  | .lst _ => some "list"
  | .cell n => match s.vh[n]? with
    | some (.lst _) => some "list"
    | some (.dct _) => some "dict"
    | some (.obj _ _) => none
    | some (.dctL _ _ _) => none
    | some (.dctN _ _) => none
    | none => none
  | .ref _ => none
  | .pr _ _ => none
  | .emp => some "dict"
  | .err _ _ _ => none
def isaT (T a : String) : Bool := (a == T) || (T == "int" && a == "bool")
def isaM (T : String) (d : D) : M D := fun s => match tyName s d with
  | some a => .ok (.bl (isaT T a)) s
  | none => .bad
theorem tyx_of {K : PySem.W.Frag} {w : Wd} {H : Hp} {σ : L2.St} {s : S} {v : V} {d : D} {a : String} (R : RS K w H σ s) (r : Rep K w v d) (h : tyName s d = some a) : TyX K H v (.type a) := by
  cases r with
  | non => cases h; exact .base .non
  | bl b => cases h; exact .base (.bl b)
  | int i => cases h; exact .base (.int i)
  | str x => cases h; exact .base (.str x)
  | ref a => cases h
  | pr _ _ _ => cases h
  | err _ _ => cases h
  | emp h1 =>
    cases h
    exact .base (.dK (R.sub _ _ h1))
  | tup h1 t =>
    cases h
    rcases sqT_up R.sub h1.sq with (h2 | ⟨o, h2⟩) | ⟨o, its, n, h2, h3, _⟩
    · exact .base (.tup h2)
    · exact .fTuple h2
    · exact .kTuple h2 h3
  | lst h1 t =>
    cases h
    rcases sqL_up R.sub h1 with (h2 | ⟨o, h2⟩) | ⟨o, its, n, h2, h3, _⟩
    · exact .base (.lst h2)
    · exact .base (.frz h2)
    · exact .kList h2 h3
  | cell h1 =>
    obtain ⟨c, e, hc⟩ := R.cellOf h1
    unfold tyName at h
    simp only [e] at h
    cases c with
    | lst ds => simp at h; subst h; obtain ⟨vs, h2, _⟩ := hc; exact .base (.lst h2)
    | dct ds => simp at h; subst h; obtain ⟨vs, h2, _⟩ := hc; exact .base (.dK h2)
    | obj _ _ => simp at h
    | dctL _ _ _ => simp at h
    | dctN _ _ => simp at h
def sixT : List String := ["int", "bool", "str", "tuple", "list", "dict"]
def sevA : List String := ["NoneType", "bool", "int", "str", "tuple", "list", "dict"]
theorem kit_all : ∀ T ∈ sixT, ∀ a ∈ sevA, kitB a T = some (isaT T a) := by decide +kernel
theorem tyName_in {s : S} {d : D} {a : String} (h : tyName s d = some a) : a ∈ sevA := by
  unfold tyName at h
  split at h <;> first
    | (cases h; decide)
    | (split at h <;> first | (cases h; decide) | cases h)
    | cases h
theorem de_isa (T : String) {e : Expr} {f : M D} {p p2 pos : Pos} (hi : X.mg "isinstance" = none) (hm : X.mg (Str.ofString T) = none) (h : DE X W e f) (hv : bootBuiltins (Str.ofString T) = some (.type T)) (hT : T ∈ sixT := by decide) (hg : Gl X "isinstance" := by rfl) (hg2 : Gl X (Str.ofString T) := by rfl)
    (hn : Str.ofString T ≠ "__name__" := by decide) (hd : (Str.ofString T == ("__debug__" : Str)) = false := by decide)
    (hst : starEach [e, .Name (Str.ofString T) p2] X.env = (false, eval e X.env) :: starEach [.Name (Str.ofString T) p2] X.env := by rfl) (hst2 : starEach [.Name (Str.ofString T) p2] X.env = (false, eval (.Name (Str.ofString T) p2) X.env) :: starEach [] X.env := by rfl)
    (hpl : (backTo pos (starEach [.Name (Str.ofString T) p2] X.env)).any (·.1) = false := by rfl) :
    DE X W (.Call (.Name "isinstance" p) [e, .Name (Str.ofString T) p2] [] pos) (bnd f (isaM T)) := by
  obtain ⟨t, q, k⟩ := h
  refine ⟨_, pe_callB call_isi hg hi (by decide +kernel) (pa_cons q (pa_cons (pe_bltn (v := .ty T) hg2 hm hv rfl hn hd) pa_nil hst2) hst) (by decide) (by decide) hst hpl, fun w H σ s Q R z => ?_⟩
  refine k.bnd R z fun d s1 w1 H1 v l1 R1 r1 p1 => ?_
  have p1 : Post X.K W (pD X.K) w1 H1 σ (match tyName s1 d with
    | some a => .ok (.bl (isaT T a)) s1
    | none => .bad) Q := p1
  cases ht : tyName s1 d with
  | none => rw [ht] at p1; exact p1.elim
  | some a =>
    rw [ht] at p1
    exact ⟨v, .ty T, .type a, .type T, isaT T a, rfl, .ty T, tyx_of R1 r1 ht, kit_ty (kit_all T hT a (tyName_in ht)), Post.here p1 R1 (Rep.bl _)⟩
/-! ### + -/
def addM : D → D → M D
  | .int i, .int j => ret (.int (i + j))
  | .str a, .str b => if lenOk (a.length + b.length) = true then ret (.str (a ++ b)) else fail
  | .tup a, .tup b => if lenOk (a.length + b.length) = true then ret (.tup (a ++ b)) else fail
  | d, e => fun s => match lstOf s d, lstOf s e with
    | some xs, some ys => if lenOk (xs.length + ys.length) = true then .ok (.lst (xs ++ ys)) s else .bad
    | _, _ => .bad
def rCatR (K : PySem.W.Frag) : R2 := fun x y H Q => ∃ l b xs zs, x = .ref l ∧ y = .ref b ∧ SqL K H l xs ∧ SqL K H b zs ∧ xs.length + zs.length ≤ sizeLine ∧ ∀ p, H p = none → Q (.ref p) (upd H p (.lst (xs ++ zs)))
theorem op_catR : OpR X (binaryOp .Add) (rCatR X.K) := by
  intro pins s σ H x y v u Q I rx ry h
  obtain ⟨l, b, xs, zs, rfl, rfl, hH, hB, hz, q⟩ := h
  cases rx
  cases ry
  obtain ⟨its, r, ⟨⟨cls, dd, data, sl⟩, n, ho, hc, hdd, hd⟩, _⟩ := I.list hH
  obtain ⟨its2, r2, ⟨⟨cls2, dd2, data2, sl2⟩, n2, ho2, hc2, hdd2, hd2⟩, _⟩ := I.list hB
  simp only at hc hd hc2 hd2
  subst hc hd hc2 hd2
  have hl := r.length
  have hl2 := r2.length
  refine concat_meets ⟨_, ho, rfl⟩ ⟨_, ho2, rfl⟩ noFill_list_add seq_list_add PySem.F.slot_list_add PySem.F.entry_list_add (PySem.F.args_list_add_2 _ _) (list_addW l b its.toArray its2.toArray n n2 dd dd2 sl sl2 (by rw [List.size_toArray, List.size_toArray]; omega)) ⟨ho, ho2, ?_⟩
  have ea : its.toArray ++ its2.toArray = (its ++ its2).toArray := by simp
  rw [ea]
  exact ⟨.ref _, _, I.lnew (t' := s.toks) (r.append r2) (by rw [List.length_append]; omega), rfl, q _ I.fresh⟩
/-- t + u, tuples: where one is empty it is the other one, else a new one -/
def rCatTC (K : PySem.W.Frag) : R2 := fun x y H Q => ∃ a b xs ys, x = .ref a ∧ y = .ref b ∧ SqT K H a xs ∧ SqT K H b ys ∧ xs.length + ys.length ≤ sizeLine ∧
  (xs = [] → Q (.ref b) H) ∧ (ys = [] → Q (.ref a) H) ∧ ∀ (p : Addr) (o : Obj), o.dict = none → H p = none → Q (.ref p) (upd H p (.frz o (.tup (xs ++ ys))))
theorem op_catTC : OpR X (binaryOp .Add) (rCatTC X.K) := by
  intro pins s σ H x y v u Q I rx ry h
  obtain ⟨a, b, xs, ys, rfl, rfl, ha, hb, hz, q0, q1, q2⟩ := h
  cases rx
  cases ry
  obtain ⟨its, r1, p1, _⟩ := I.tuple ha
  obtain ⟨its2, r2, p2, _⟩ := I.tuple hb
  by_cases hx : xs = []
  · subst hx
    cases r1
    exact cat_tup0 p1 p2 ⟨.ref b, H, I, rfl, q0 rfl⟩
  · refine HT.cat_tup p1 p2 (fun z => hx ?_) (fun z => ⟨.ref a, H, I, rfl, q1 ?_⟩) (fun z => ?_) ?_
    · subst z; cases r1; rfl
    · subst z; cases r2; rfl
    · have hd : ({ cls := .type "tuple", data := .seq (its ++ its2).toArray } : Obj).dict = none := rfl
      obtain ⟨ob, hob⟩ : ∃ ob : Obj, ob = { cls := .type "tuple", data := .seq (its ++ its2).toArray } := ⟨_, rfl⟩
      rw [← hob] at hd ⊢
      have hg : (s.heap.push ob).get? s.heap.objs.size = some ob := Heap.get?_push_size _ (by rw [hob]; rfl)
      exact ⟨.ref s.heap.objs.size, _, I.laid (t' := s.toks) (o := .frz ob (.tup (xs ++ ys))) (fun b ob k => Heap.get?_push_of_some _ k) (Nat.le_refl _)
        ⟨hg, by rw [List.length_append]; exact hz, _, r1.append r2, ⟨_, hg, by rw [hob], _, by rw [hob]⟩⟩, rfl, q2 _ _ hd (I.hok.fresh (Nat.le_refl _))⟩
    · rw [← r1.length, ← r2.length]; exact hz
theorem de_add {a b : Expr} {fa fb : M D} {pos : Pos} (ha : DE X W a fa) (hb : DE X W b fb) : DE X W (.BinOp a .Add b pos) (bnd fa fun d => bnd fb fun e => addM d e) :=
  de_op (opr_or op_add (opr_or op_add_str (opr_or op_catTC op_catR))) (fun W w H σ s x y d e Q R rx ry p => by
    unfold addM at p
    split at p
    · cases rx; cases ry; exact .inl ⟨_, _, rfl, rfl, Post.here p R (Rep.int _)⟩
    · cases rx; cases ry
      split at p
      · next k => exact .inr (.inl ⟨_, _, rfl, rfl, of_decide_eq_true k, Post.here p R (Rep.str _)⟩)
      · exact p.elim
    · next ds es =>
      split at p
      · next k =>
        obtain ⟨l, vs, rfl, h1, h2⟩ := R.tuple rx (ds := ds) rfl
        obtain ⟨b, us, rfl, h3, h4⟩ := R.tuple ry (ds := es) rfl
        have hk : ds.length + es.length ≤ sizeLine := of_decide_eq_true k
        refine .inr (.inr (.inl ⟨l, b, vs, us, rfl, rfl, h1, h3, by rw [RepL.length h2, RepL.length h4]; exact hk, fun z => ?_, fun z => ?_, fun q o ho hq => ?_⟩))
        · subst z
          cases h2
          exact Post.here p R ry
        · subst z
          cases h4
          rw [List.append_nil] at p
          exact Post.here p R rx
        · obtain ⟨l3, R3, r3⟩ := R.newT hq (RepL.append h2 h4) ho
          exact p _ _ _ l3 R3 r3
      · exact p.elim
    · dsimp only at p
      split at p
      · next xs ys hx hy =>
        split at p
        · next k =>
          obtain ⟨l, vs, rfl, h1, h2⟩ := R.list rx hx
          obtain ⟨b, us, rfl, h3, h4⟩ := R.list ry hy
          have hk : xs.length + ys.length ≤ sizeLine := of_decide_eq_true k
          refine .inr (.inr (.inr ⟨l, b, vs, us, rfl, rfl, h1, h3, by rw [RepL.length h2, RepL.length h4]; exact hk, fun q hq => ?_⟩))
          obtain ⟨l3, R3, r3⟩ := R.newL hq (RepL.append h2 h4)
          exact p _ _ _ l3 R3 r3
        · exact p.elim
      · exact p.elim) ha hb
/-! ### comparisons -/
def isNonM : D → M D
  | .non => ret (.bl true)
  | _ => ret (.bl false)
def notNonM : D → M D
  | .non => ret (.bl false)
  | _ => ret (.bl true)
theorem non_of {K : PySem.W.Frag} {w : Wd} {v : V} {d : D} (r : Rep K w v d) : decide (v = V.non) = (match d with | .non => true | _ => false) := by
  cases r <;> simp
theorem rop_isN : ROp X (fun x y H Q => y = .non ∧ Q (.bl (decide (x = .non))) H) (fun d e => match e with | .non => isNonM d | _ => fail) := by
  intro W w H σ s x y d e Q R rx ry p
  cases ry with
  | non =>
    refine ⟨rfl, ?_⟩
    rw [non_of rx]
    cases d <;> exact Post.here p R (Rep.bl _)
  | _ => exact p.elim
/-! what == sees -/
mutual
def pyT : D → Option PyData
  | .non => some .none
  | .bl b => some (.bool b)
  | .int i => some (.int i)
  | .str x => some (.str x)
  | .tup xs => (pyL xs).map .tuple
  | .lst xs => (pyL xs).map .list
  | _ => none
def pyL : List D → Option (List PyData)
  | [] => some []
  | x :: xs => match pyT x, pyL xs with
    | some y, some ys => some (y :: ys)
    | _, _ => none
end
def pyD (s : S) (d : D) : Option PyData := match d with
  | .cell n => match s.vh[n]? with
    | some (.lst xs) => (pyL xs).map .list
    | _ => none
  | d => pyT d
mutual
theorem dp_of {K : PySem.W.Frag} {w : Wd} {H : Hp} (sub : ∀ a o, w.F a = some o → H a = some o) : ∀ {v : V} {d : D} {q : PyData}, Rep K w v d → pyT d = some q → Dp K H v q
  | _, _, _, .non, e => by cases e; exact .non
  | _, _, _, .bl b, e => by cases e; exact .bl b
  | _, _, _, .int i, e => by cases e; exact .int i
  | _, _, _, .str x, e => by cases e; exact .str x
  | _, _, _, .ref a, e => by cases e
  | _, _, _, .pr _ _ _, e => by cases e
  | _, _, _, .emp _, e => by cases e
  | _, _, _, .err _ _, e => by cases e
  | _, _, _, .cell h, e => by cases e
  | _, _, _, .tup (ds := ds) h t, e => by
    unfold pyT at e
    cases q : pyL ds with
    | none => rw [q] at e; cases e
    | some qs => rw [q] at e; cases e; exact .tup (sqT_up sub h.sq) (dpL_of sub t q)
  | _, _, _, .lst (ds := ds) h t, e => by
    unfold pyT at e
    cases q : pyL ds with
    | none => rw [q] at e; cases e
    | some qs => rw [q] at e; cases e; exact .lst (sqL_up sub h) (dpL_of sub t q)
theorem dpL_of {K : PySem.W.Frag} {w : Wd} {H : Hp} (sub : ∀ a o, w.F a = some o → H a = some o) : ∀ {vs : List V} {ds : List D} {qs : List PyData}, RepL K w vs ds → pyL ds = some qs → DpAll K H vs qs
  | _, _, _, .nil, e => by cases e; exact .nil
  | _, _, _, .cons (d := d) (ds := ds) h t, e => by
    unfold pyL at e
    cases h1 : pyT d with
    | none => rw [h1] at e; cases e
    | some y =>
      cases h2 : pyL ds with
      | none => rw [h1, h2] at e; cases e
      | some ys => rw [h1, h2] at e; cases e; exact .cons (dp_of sub h h1) (dpL_of sub t h2)
end
theorem RS.py {K : PySem.W.Frag} {w : Wd} {H : Hp} {σ : L2.St} {s : S} {v : V} {d : D} {q : PyData} (R : RS K w H σ s) (r : Rep K w v d) (h : pyD s d = some q) : Dp K H v q := by
  cases r with
  | @cell a n h1 =>
    obtain ⟨c, e, hc⟩ := R.cellOf h1
    unfold pyD at h
    simp only [e] at h
    cases c with
    | dct _ => simp at h
    | obj _ _ => simp at h
    | dctL _ _ _ => simp at h
    | dctN _ _ => simp at h
    | lst ds =>
      dsimp only at h
      cases h2 : pyL ds with
      | none => rw [h2] at h; cases h
      | some ys =>
        rw [h2] at h; cases h
        obtain ⟨vs, h3, h4⟩ := hc
        exact .lst (SqL.of h3) (dpL_of R.sub h4 h2)
  | non => exact dp_of R.sub .non h
  | bl b => exact dp_of R.sub (.bl b) h
  | int i => exact dp_of R.sub (.int i) h
  | str x => exact dp_of R.sub (.str x) h
  | ref a => exact dp_of R.sub (.ref a) h
  | pr _ _ _ => cases h
  | emp _ => cases h
  | err _ _ => cases h
  | tup h1 t => exact dp_of R.sub (.tup h1 t) h
  | lst h1 t => exact dp_of R.sub (.lst h1 t) h
def eqD (d e : D) : M D := fun s => match pyD s d, pyD s e with
  | some p, some q => if (SeqAt.shaped p && SeqAt.shaped q) = true then .ok (.bl (PyData.eqv p q)) s else .bad
  | _, _ => .bad
def neD (d e : D) : M D := fun s => match pyD s d, pyD s e with
  | some p, some q => if (SeqAt.shaped p && SeqAt.shaped q) = true then .ok (.bl (!PyData.eqv p q)) s else .bad
  | _, _ => .bad
def eqM : D → D → M D
  | .str a, .str b => ret (.bl (decide (a = b)))
  | d, e => eqD d e
def neM : D → D → M D
  | .str a, .str b => ret (.bl (!decide (a = b)))
  | d, e => neD d e
theorem rop_eqD : ROp X (rEqD X.K) eqD := by
  intro W w H σ s x y d e Q R rx ry p
  unfold eqD at p
  split at p
  · next p1 q1 h1 h2 =>
    split at p
    · next k =>
      rw [Bool.and_eq_true] at k
      exact ⟨p1, q1, R.py rx h1, R.py ry h2, k.1, k.2, Post.here p R (Rep.bl _)⟩
    · exact p.elim
  · exact p.elim
theorem rop_neD : ROp X (rNeD X.K) neD := by
  intro W w H σ s x y d e Q R rx ry p
  unfold neD at p
  split at p
  · next p1 q1 h1 h2 =>
    split at p
    · next k =>
      rw [Bool.and_eq_true] at k
      exact ⟨p1, q1, R.py rx h1, R.py ry h2, k.1, k.2, Post.here p R (Rep.bl _)⟩
    · exact p.elim
  · exact p.elim
theorem rop_eq : ROp X (fun x y H Q => rEq x y H Q ∨ rEqD X.K x y H Q) eqM := by
  intro W w H σ s x y d e Q R rx ry p
  unfold eqM at p
  split at p
  · next a b =>
    cases rx; cases ry
    refine .inl ⟨rfl, ?_⟩
    have e : decide (V.str a = V.str b) = decide (a = b) := by
      by_cases h : a = b
      · subst h; simp
      · rw [decide_eq_false h]
        exact decide_eq_false fun z => h (V.str.inj z)
    rw [e]
    exact Post.here p R (Rep.bl _)
  · exact .inr (rop_eqD W w H σ s x y d e Q R rx ry p)
theorem rop_ne : ROp X (fun x y H Q => rNe x y H Q ∨ rNeD X.K x y H Q) neM := by
  intro W w H σ s x y d e Q R rx ry p
  unfold neM at p
  split at p
  · next a b =>
    cases rx; cases ry
    refine .inl ⟨rfl, ?_⟩
    have e : decide (V.str a = V.str b) = decide (a = b) := by
      by_cases h : a = b
      · subst h; simp
      · rw [decide_eq_false h]
        exact decide_eq_false fun z => h (V.str.inj z)
    rw [e]
    exact Post.here p R (Rep.bl _)
  · exact .inr (rop_neD W w H σ s x y d e Q R rx ry p)
theorem op_eqA (hu : X.A.units + 64 < cLine) : OpR X (compareOp .Eq) (fun x y H Q => rEq x y H Q ∨ rEqD X.K x y H Q) := opr_or op_eq (op_eqD hu)
theorem op_neA (hu : X.A.units + 64 < cLine) : OpR X (compareOp .NotEq) (fun x y H Q => rNe x y H Q ∨ rNeD X.K x y H Q) := opr_or op_ne (op_neD hu)
theorem units_of {A : Around} {k : Nat} (hr : Room k A) : A.units + 64 < cLine := by have := hr.un; omega
def leM : D → D → M D := i2 fun i j => .bl (decide (i ≤ j))
def gtM : D → D → M D := i2 fun i j => .bl (decide (j < i))
def geM : D → D → M D := i2 fun i j => .bl (decide (j ≤ i))
theorem rop_gt : ROp X (rI0 fun i j => .bl (decide (j < i))) gtM := rop_i2 fun _ _ _ => .bl _
end Fx

namespace Fx
open PySem PySem.Spec PyProof.Rows L2
variable {X : Cx} {W : WX}
abbrev bin (op : D → D → M D) (a b : M D) : M D := bnd a fun d => bnd b fun e => op d e
abbrev tst (a : M D) : M Bool := bnd a asB
/-! ### a[i] -/
def ixM : D → D → M D := fun d e s => match e with
  | .int i => match d with
    | .str x => if lenOk x.length = true then (match atI x.cps.toList i with
      | some c => .ok (.str ⟨#[c]⟩) s
      | none => .bad) else .bad
    | .tup ds => match atI ds i with
      | some y => .ok y s
      | none => .bad
    | d => match lstOf s d with
      | some ds => match atI ds i with
        | some y => .ok y s
        | none => .bad
      | none => .bad
  | _ => .bad
theorem RepL.at {K : PySem.W.Frag} {w : Wd} {vs : List V} {ds : List D} {i : Int} {d : D} (r : RepL K w vs ds) (h : atI ds i = some d) : ∃ v, atI vs i = some v ∧ Rep K w v d := by
  unfold atI at h ⊢
  rw [RepL.length r]
  cases e : ixN ds.length i with
  | none => rw [e] at h; cases h
  | some j =>
    rw [e] at h
    exact RepL.get r h
theorem rop_ix : ROp X (rIx X.K) ixM := by
  intro W w H σ s x y d e Q R rx ry p
  unfold ixM at p
  split at p
  · next i =>
    cases ry
    split at p
    · next z =>
      cases rx
      split at p
      · next k =>
        split at p
        · next c hc => exact .inr (.inr ⟨z, i, c, rfl, rfl, of_decide_eq_true k, hc, Post.here p R (Rep.str _)⟩)
        · exact p.elim
      · exact p.elim
    · next ds =>
      split at p
      · next y hy =>
        obtain ⟨a, us, rfl, h1, h2⟩ := R.tuple rx (ds := ds) rfl
        obtain ⟨v, hv, rv⟩ := RepL.at h2 hy
        exact .inr (.inl ⟨a, us, i, v, rfl, rfl, h1, hv, Post.here p R rv⟩)
      · exact p.elim
    · split at p
      · next ds hd =>
        split at p
        · next y hy =>
          obtain ⟨a, us, rfl, h1, h2⟩ := R.list rx hd
          obtain ⟨v, hv, rv⟩ := RepL.at h2 hy
          exact .inl ⟨a, us, i, v, rfl, rfl, h1, hv, Post.here p R rv⟩
        · exact p.elim
      · exact p.elim
  · exact p.elim
theorem de_ix {a b : Expr} {fa fb : M D} {pos : Pos} (ha : DE X W a fa) (hb : DE X W b fb) (hs : PlainIx b := by exact fun _ _ => rfl) : DE X W (.Subscript a b pos) (bin ixM fa fb) := by
  obtain ⟨ta, pa, ra⟩ := ha
  obtain ⟨tb, pb, rb⟩ := hb
  refine ⟨_, pe_ix ix_seq pa pb hs, fun w H σ s Q R p => ?_⟩
  refine ra.bnd R p fun d s1 w1 H1 v1 l1 R1 r1 p1 => ?_
  refine rb.bnd R1 p1 fun e s2 w2 H2 v2 l2 R2 r2 p2 => ?_
  exact rop_ix W w2 H2 σ s2 v1 v2 d e Q R2 (Rep.up l2 r1) r2 p2
/-! ### slices -/
def DO (X : Cx) (W : WX) (e : Option Expr) (f : M (Option Int)) : Prop := ∃ t, PO X e t ∧ Fol X.K W (⟨fun _ _ _ a b => a = b, fun _ _ _ _ _ _ _ _ _ _ h => h⟩ : Pr (Option Int) (Option Int)) t f
def partM (f : M D) : M (Option Int) := bnd f fun d => match d with
  | .int i => ret (some i)
  | _ => fail
theorem do_none : DO X W none (ret none) := ⟨_, po_none, fun w H σ s Q R p => Post.here p R rfl⟩
theorem do_some {e : Expr} {f : M D} (h : DE X W e f) : DO X W (some e) (partM f) := by
  obtain ⟨t, p, r⟩ := h
  refine ⟨_, po_some p, fun w H σ s Q R z => ?_⟩
  refine r.bnd R z fun d s1 w1 H1 v l1 R1 r1 p1 => ?_
  cases r1 with
  | int i => exact ⟨i, rfl, Post.here p1 R1 rfl⟩
  | _ => exact p1.elim
def cutD (xs : List D) (lo hi : Option Int) : List D := (xs.drop (HT.sIx xs.length 0 lo)).take (HT.sIx xs.length xs.length hi - HT.sIx xs.length 0 lo)
theorem RepL.cut {K : PySem.W.Frag} {w : Wd} {vs : List V} {ds : List D} (r : RepL K w vs ds) (lo hi : Option Int) : RepL K w (cutV vs lo hi) (cutD ds lo hi) := by
  unfold cutV cutD
  rw [RepL.length r]
  exact (r.drop _).take _
/-- of a text -/
def slS (f : M D) (lo hi : M (Option Int)) : M D := bnd f fun d => bnd lo fun l => bnd hi fun u => match d with
  | .str x => if lenOk x.length = true then ret (.str (cutS x l u)) else fail
  | _ => fail
/-- of a list -/
def slL (f : M D) (lo hi : M (Option Int)) : M Cell := bnd f fun d => bnd lo fun l => bnd hi fun u => fun s => match lstOf s d with
  | some ds => .ok (.lst (cutD ds l u)) s
  | none => .bad
section
variable {e : Expr} {lo hi : Option Expr} {f : M D} {fl fh : M (Option Int)} {pos p2 : Pos}
end
/-! ### list(..), tuple(..), ord, str of an int, abs, min, max of two -/
def listN : List D → M Cell
  | [d] => fun s => match d with
    | .tup ds => .ok (.lst ds) s
    | d => match lstOf s d with
      | some ds => .ok (.lst ds) s
      | none => .bad
  | _ => fun _ => .bad
def tupleM : List D → M D
  | [d] => fun s => match d with
    | .tup ds => .ok (.tup ds) s
    | d => match lstOf s d with
      | some ds => .ok (.tup ds) s
      | none => .bad
  | _ => fun _ => .bad
def rTupC (K : PySem.W.Frag) (xs : List V) (H : Hp) (Q : VK) : Prop := ∃ p ys, xs = [.ref p] ∧ ((SqL K H p ys ∧ ∀ (l : Addr) (o : Obj), o.dict = none → H l = none → Q (.ref l) (upd H l (.frz o (.tup ys)))) ∨ (SqT K H p ys ∧ Q (.ref p) H))
/-- tuple(xs), the new object known -/
theorem call_tupleC : CallR X (.type "tuple") (rTupC X.K) := by
  intro pins s σ H xs us Q I r h
  obtain ⟨p, ys, e, h⟩ := h
  subst e
  obtain ⟨u, e, ru⟩ := vals1 r
  subst e
  cases ru
  rcases h with ⟨hs, q⟩ | ⟨hs, q⟩
  · obtain ⟨its, rv, pl, hz⟩ := I.list hs
    refine call_tuple_list pl.isList (fun h' k => ?_) (by rw [List.size_toArray, ← rv.length]; exact hz)
    have J : Inv X pins σ H { s with heap := h' } := I.kept (t' := s.toks) k
    have hg : (h'.push { cls := .type "tuple", data := .seq its.toArray }).get? h'.objs.size = some { cls := .type "tuple", data := .seq its.toArray } := Heap.get?_push_size _ rfl
    refine ⟨.ref h'.objs.size, _, ?_, rfl, q _ { cls := .type "tuple", data := .seq its.toArray } rfl (J.hok.fresh (Nat.le_refl _))⟩
    exact J.laid (t' := s.toks) (fun b o e => Heap.get?_push_of_some _ e) (Nat.le_refl _) ⟨hg, hz, its, rv, ⟨_, hg, rfl, _, rfl⟩⟩
  · obtain ⟨its, rv, pl, hz⟩ := I.tuple hs
    exact call_tuple_tup pl ⟨.ref p, H, I, rfl, q⟩
theorem rc_tuple : RCal X (rTupC X.K) tupleM := by
  intro W w H σ s vs ds Q R r p
  unfold tupleM at p
  split at p
  · next d =>
    obtain ⟨v, rfl, rv⟩ := one_of r
    split at p
    · next es =>
      obtain ⟨a, us, rfl, h1, h2⟩ := R.tuple rv (ds := es) rfl
      exact ⟨a, us, rfl, .inr ⟨h1, Post.here p R rv⟩⟩
    · split at p
      · next es he =>
        obtain ⟨a, us, rfl, h1, h2⟩ := R.list rv he
        refine ⟨a, us, rfl, .inl ⟨h1, fun q o ho hq => ?_⟩⟩
        obtain ⟨l3, R3, r3⟩ := R.newT hq h2 ho
        exact p _ _ _ l3 R3 r3
      · exact p.elim
  · exact p.elim
def max2M : List D → M D
  | [.int i, .int j] => ret (.int (if j > i then j else i))
  | _ => fail
def min2M : List D → M D
  | [.int i, .int j] => ret (.int (if j < i then j else i))
  | _ => fail
theorem rc_max2 : RCal X (fun xs H Q => ∃ i j, xs = [.int i, .int j] ∧ Q (.int (if j > i then j else i)) H) max2M := by
  intro W w H σ s vs ds Q R r p
  unfold max2M at p
  split at p
  · obtain ⟨v, u, rfl, rv, ru⟩ := two_of r
    cases rv; cases ru
    exact ⟨_, _, rfl, Post.here p R (Rep.int _)⟩
  · exact p.elim
def negM : D → M D
  | .int i => ret (.int (-i))
  | _ => fail
/-! ### methods of lists and texts -/
def isTy (T : String) (s : S) (d : D) : Bool := match d with
  | .str _ => T == "str"
  | d => (T == "list" && (lstOf s d).isSome) || (T == "dict" && (dctOf s d).isSome)
theorem tyV_of {K : PySem.W.Frag} {w : Wd} {H : Hp} {σ : L2.St} {s : S} {v : V} {d : D} {T : String} (R : RS K w H σ s) (r : Rep K w v d) (h : isTy T s d = true) : tyV K T v H := by
  unfold isTy at h
  split at h
  · cases r
    show T = "str"
    simpa using h
  · rw [Bool.or_eq_true, Bool.and_eq_true, Bool.and_eq_true] at h
    rcases h with ⟨h1, h2⟩ | ⟨h1, h2⟩
    · obtain ⟨ds, hd⟩ := Option.isSome_iff_exists.mp h2
      obtain ⟨a, vs, rfl, h3, _⟩ := R.list r hd
      exact .inl ⟨by simpa using h1, vs, h3⟩
    · obtain ⟨ds, hd⟩ := Option.isSome_iff_exists.mp h2
      obtain ⟨a, vs, rfl, h3, _⟩ := R.dict r hd
      exact .inr (.inr (.inl ⟨by simpa using h1, .inl ⟨vs, h3⟩⟩))
def methM (T : String) (f : M D) (fs : M (List D)) (g : D → List D → M D) : M D := bnd f fun d s => if isTy T s d = true then bnd fs (fun ds => g d ds) s else .bad
def meth0M (T : String) (f : M D) (g : D → M D) : M D := bnd f fun d s => if isTy T s d = true then g d s else .bad
def RMt (X : Cx) (r : V → List V → Hp → VK → Prop) (g : D → List D → M D) : Prop := ∀ (W : WX) w H σ s v vs d ds Q, RS X.K w H σ s → Rep X.K w v d → RepL X.K w vs ds → Post X.K W (pD X.K) w H σ (g d ds s) Q → r v vs H Q
theorem de_meth {o e : Expr} {es : List Expr} {f : M D} {fs : M (List D)} {g : D → List D → M D} {name : Str} {ap pos : Pos} {T id : String} {r : V → List V → Hp → VK → Prop} (hr : RMt X r g) (pa : PlainAttrs T) (slot : Slot T name id) (hty : typeOf (.builtin id) = pure (.type "method_descriptor")) (hm : MtR X id r)
    (ho : DE X W o f) (ha : DA X W (e :: es) fs) (hbase : attributeBase o name X.env (eval o X.env) = eval o X.env := by rfl)
    (hfew : ((backTo pos (starEach (e :: es) X.env)).all (fun x => !x.1) && (backToKw pos (keywordEach [] X.env)).all (fun x => x.1.isSome)
      && decide ((e :: es).length + ([] : List Keyword).length + (if ([] : List Keyword).isEmpty then 0 else 1) < 30)) = true := by rfl)
    (hline : (ap.endLine == pos.line) = true := by rfl) (hs : starEach (e :: es) X.env = (false, eval e X.env) :: starEach es X.env := by rfl) (hplain : (backTo pos (starEach es X.env)).any (·.1) = false := by rfl) :
    DE X W (.Call (.Attribute o name ap) (e :: es) [] pos) (methM T f fs g) := by
  obtain ⟨to, po, ro⟩ := ho
  obtain ⟨ta, qa, ra⟩ := ha
  refine ⟨_, pe_bm pa slot hty hm po qa hbase hfew hline hs hplain, fun w H σ s Q R z => ?_⟩
  refine ro.bnd R z fun d s1 w1 H1 v l1 R1 r1 p1 => ?_
  split at p1
  · next k =>
    refine ⟨tyV_of R1 r1 k, ?_⟩
    refine ra.bnd R1 p1 fun ds s2 w2 H2 vs l2 R2 r2 p2 => ?_
    exact hr W w2 H2 σ s2 v vs d ds Q R2 (Rep.up l2 r1) r2 p2
  · exact p1.elim
/-- a list that stands by itself is written -/
def wrM (d : D) (g : List D → M (List D × D)) : M D := fun s => match d with
  | .cell n => match s.vh[n]? with
    | some (.lst ds) => match g ds s with
      | .ok (es, y) s' => .ok y { s' with vh := s'.vh.set n (.lst es) }
      | _ => .bad
    | _ => .bad
  | _ => .bad
def appM (d : D) : List D → M D
  | [e] => wrM d fun ds s => if ds.length < sizeLine then .ok (ds ++ [e], .non) s else .bad
  | _ => fail
theorem RS.wr {K : PySem.W.Frag} {w : Wd} {H : Hp} {σ : L2.St} {s : S} {v : V} {d : D} {g : List D → M (List D × D)} {Q : V → Hp → Prop} (R : RS K w H σ s) (r : Rep K w v d) (p : Post K W (pD K) w H σ (wrM d g s) Q) :
    ∃ (a : Addr) (vs : List V) (ds es : List D) (y : D) (s' : S), v = .ref a ∧ H a = some (.lst vs) ∧ RepL K w vs ds ∧ g ds s = .ok (es, y) s' ∧ (s' = s → ∀ us u, RepL K w us es → Rep K w u y → Q u (upd H a (.lst us))) := by
  unfold wrM at p
  cases r with
  | @cell a n h1 =>
    obtain ⟨c, e, hc⟩ := R.cellOf h1
    dsimp only at p
    rw [e] at p
    cases c with
    | dct _ => exact p.elim
    | obj _ _ => exact p.elim
    | dctL _ _ _ => exact p.elim
    | dctN _ _ => exact p.elim
    | lst ds =>
      obtain ⟨vs, h2, h3⟩ := hc
      dsimp only at p
      cases hg : g ds s with
      | exc _ _ => rw [hg] at p; exact p.elim
      | bad => rw [hg] at p; exact p.elim
      | ok q s' =>
        rw [hg] at p
        obtain ⟨es, y⟩ := q
        refine ⟨a, vs, ds, es, y, s', rfl, h2, h3, hg, fun e us u r1 r2 => ?_⟩
        subst e
        exact p w _ u (Le.write (List.mem_of_getElem? h1)) (R.setCell h1 ⟨us, upd_same, r1⟩) r2
  | _ => exact p.elim
theorem rm_append : RMt X rAppend appM := by
  intro W w H σ s v vs d ds Q R r rs p
  unfold appM at p
  split at p
  · next e =>
    obtain ⟨u, rfl, ru⟩ := one_of rs
    obtain ⟨a, us, ds, es, y, s', rfl, h1, h2, h3, h4⟩ := R.wr r p
    split at h3
    · next k =>
      cases h3
      exact ⟨a, us, u, rfl, rfl, h1, by rw [RepL.length h2]; exact k, h4 rfl _ _ (RepL.append h2 (.cons ru .nil)) Rep.non⟩
    · cases h3
  · exact p.elim
theorem de_append {o e : Expr} {f : M D} {fs : M (List D)} {ap pos : Pos} (ho : DE X W o f) (ha : DA X W [e] fs) (hbase : attributeBase o "append" X.env (eval o X.env) = eval o X.env := by rfl)
    (hfew : ((backTo pos (starEach [e] X.env)).all (fun x => !x.1) && (backToKw pos (keywordEach [] X.env)).all (fun x => x.1.isSome)
      && decide (([e] : List Expr).length + ([] : List Keyword).length + (if ([] : List Keyword).isEmpty then 0 else 1) < 30)) = true := by rfl)
    (hline : (ap.endLine == pos.line) = true := by rfl) (hs : starEach [e] X.env = (false, eval e X.env) :: starEach [] X.env := by rfl) (hplain : (backTo pos (starEach [] X.env)).any (·.1) = false := by rfl) :
    DE X W (.Call (.Attribute o "append" ap) [e] [] pos) (methM "list" f fs appM) :=
  de_meth rm_append PySem.F.plainAttrs_list PySem.F.slot_list_append PySem.F.type_list_append mt_append ho ha hbase hfew hline hs hplain
/-! sep.join(list of texts) -/
def strsOf : List D → Option (List Str)
  | [] => some []
  | .str x :: r => (strsOf r).map (x :: ·)
  | _ => none
def joinOk (a : Str) (ys : List Str) : Bool := decide ((ys.map (·.length)).sum + ys.length * a.length ≤ 16777216)
def seqOf (s : S) : D → Option (List D)
  | .tup ds => some ds
  | d => lstOf s d
def joinM (d : D) : List D → M D
  | [e] => fun s => match d with
    | .str a => match seqOf s e with
      | some ds => match strsOf ds with
        | some ys => if joinOk a ys = true then .ok (.str (Txt.join a ys)) s else .bad
        | none => .bad
      | none => .bad
    | _ => .bad
  | _ => fail
theorem strs_rep {K : PySem.W.Frag} {w : Wd} : ∀ {vs : List V} {ds : List D} {ys : List Str}, RepL K w vs ds → strsOf ds = some ys → vs = ys.map V.str
  | _, _, ys, .nil, h => by cases h; rfl
  | _, _, ys, .cons (d := d) (ds := ds) r t, h => by
    cases r with
    | str x =>
      unfold strsOf at h
      cases e : strsOf ds with
      | none => rw [e] at h; cases h
      | some zs => rw [e] at h; cases h; rw [strs_rep t e]; rfl
    | _ => cases h
theorem rm_join : RMt X (fun x xs H Q => ∃ a p, ∃ ys : List Str, x = .str a ∧ xs = [.ref p] ∧ (SqL X.K H p (ys.map V.str) ∨ SqT X.K H p (ys.map V.str)) ∧
    (ys.map (·.length)).sum + ys.length * a.length ≤ 16777216 ∧ Q (.str (Txt.join a ys)) H) joinM := by
  intro W w H σ s v vs d ds Q R r rs p
  unfold joinM at p
  split at p
  · next e =>
    obtain ⟨u, rfl, ru⟩ := one_of rs
    split at p
    · next a =>
      cases r
      split at p
      · next es he =>
        split at p
        · next ys hy =>
          split at p
          · next k =>
            have hk : (ys.map (·.length)).sum + ys.length * a.length ≤ 16777216 := of_decide_eq_true k
            unfold seqOf at he
            split at he
            · next ts =>
              cases he
              obtain ⟨q, us, rfl, h1, h2⟩ := R.tuple ru (ds := es) rfl
              rw [strs_rep h2 hy] at h1
              exact ⟨a, q, ys, rfl, rfl, .inr h1, hk, Post.here p R (Rep.str _)⟩
            · obtain ⟨q, us, rfl, h1, h2⟩ := R.list ru he
              rw [strs_rep h2 hy] at h1
              exact ⟨a, q, ys, rfl, rfl, .inl h1, hk, Post.here p R (Rep.str _)⟩
          · exact p.elim
        · exact p.elim
      · exact p.elim
    · exact p.elim
  · exact p.elim
def jnM (f g : M D) : M D := bnd f fun d s => match d with
  | .str a => bnd g (fun e => joinM (.str a) [e]) s
  | _ => .bad
theorem de_join {o e : Expr} {f g : M D} {ap pos : Pos} (ho : DE X W o f) (he : DE X W e g) (hs : starEach [e] X.env = [(false, eval e X.env)] := by rfl) (hbase : attributeBase o "join" X.env (eval o X.env) = eval o X.env := by rfl) (hline : (ap.endLine == pos.line) = true := by rfl) :
    DE X W (.Call (.Attribute o "join" ap) [e] [] pos) (jnM f g) := by
  obtain ⟨to, po, ro⟩ := ho
  obtain ⟨te, pe, re⟩ := he
  refine ⟨_, pe_join po pe hs hbase hline, fun w H σ s Q R z => ?_⟩
  refine ro.bnd R z fun d s1 w1 H1 v l1 R1 r1 p1 => ?_
  cases r1 with
  | str a =>
    have p1 : Post X.K W (pD X.K) w1 H1 σ (bnd g (fun e => joinM (.str a) [e]) s1) Q := p1
    refine ⟨⟨a, rfl⟩, ?_⟩
    refine re.bnd R1 p1 fun e s2 w2 H2 u l2 R2 r2 p2 => ?_
    exact rm_join W w2 H2 σ s2 _ [u] (.str a) [e] Q R2 (.str a) (.cons r2 .nil) p2
  | _ => exact p1.elim
/-! ### for the printed texts -/
def isM : D → D → M D := fun d e => match e with | .non => isNonM d | _ => fail
def isnotM : D → D → M D := fun d e => match e with | .non => notNonM d | _ => fail
theorem rop_is : ROp X (fun x y H Q => y = .non ∧ Q (.bl (decide (x = .non))) H) isM := rop_isN
theorem de_gS' {x z : Str} {pos : Pos} (hm : ∃ t, X.mg x = some (.str z t)) (hg : Gl X x := by rfl) (hd : (x == ("__debug__" : Str)) = false := by decide) : DE X W (.Name x pos) (ret (.str z)) := let ⟨_, h⟩ := hm; de_gS hg h hd
theorem pg_n {i : Nat} {x : Str} {pos : Pos} (hN : X.N.Nodup) (hi : X.N[i]? = some x := by rfl) (hx : Loc X.env.scope x := by first | exact Or.inl rfl | exact Or.inr rfl) (hf : X.fn x = true ∨ X.env.scope.names.lookup x = some .local := by first | exact .inl rfl | exact .inr rfl) : PG X (.Name x pos) (gName i) := pg_name hN hi hx hf
/-- a def as the top leaves it -/
structure Top (K : PySem.W.Frag) (mg : Str → Option Value) (x : Str) (st : Stmt) (ps : List Str) : Prop where
  ex : ∃ (f : Addr) (fd : FuncData), Fun K x x st f fd ∧ mg x = some (.ref f) ∧ Binds K fd ps [] ∧ ∀ (s : Shared) (us : List Value), us.length = ps.length → BindsTo s fd ⟨us, []⟩ (ps.zip us)
theorem top_mk {K : PySem.W.Frag} {h : Heap} {mg : Str → Option Value} (X : K.In h) (G : h.Ns mainGlobals mg) {x : Str} {st : Stmt} {ps : List Str} {f : Addr} {oc : Value} {od an : Option Addr} {osl : Array (Option Value)} {kV doc pm cdv ct : Value} (a : PySem.W.nsIn K mainGlobals x = some (some (.ref f)))
    (l : K.lookup f = some ⟨oc, od, .func (PySem.W.fnOf x x (defArgs st) (defBody st) (defScope st) .none kV doc pm an cdv ct), osl⟩) (c : PySem.W.codeIn K cdv x = true) (k : PySem.W.keepIn K (.ref f) = true)
    (b : ∀ (kV doc pm : Value) (an : Option Addr) (cdv ct : Value) (us : List Value), us.length = ps.length → bindArgs (PySem.W.fnOf x x (defArgs st) (defBody st) (defScope st) .none kV doc pm an cdv ct) ⟨us, []⟩ = pure (ps.zip us)) : Top K mg x st ps :=
  have F := fun_mk (st := st) l c k
  ⟨f, _, F, PySem.W.mg_of X G a, F.binds b, fun s us hl => .of_eq (b _ _ _ _ _ _ us hl)⟩
theorem Top.fn {P : Program} {wd : World} {K : PySem.W.Frag} {mg : Str → Option Value} {base : Heap} {x : Str} {st : Stmt} {N ps : List Str} {k : Nat} {g : M Out} (T : Top K mg x st ps) (Sc : FnScope N ps (defScope st)) (hle : ps.length ≤ N.length)
    (body : ∀ (f : Addr) (cdv : Value) (A : Around) (outer : List Env) (s : Shared) (H : Hp) (E : XK), Room k (A.deeper (envOfC x (defScope st) s.heap.objs.size f cdv)) →
      DSs (cxOf CX0 P wd K mg base N x (defScope st) f cdv A outer s H E).nox W0 (defBody st) g) : FnP P wd K mg base x ps.length (k + 1) (runP N.length g) :=
  let ⟨f, fd, F, m, b, _⟩ := T.ex
  ⟨f, fd, ps, rfl, m, F.kp, b, fn_pure F Sc hle fun cdv A outer s H E hr => body f cdv A outer s H E hr⟩
theorem Top.law {P : Program} {wd : World} {K : PySem.W.Frag} {mg : Str → Option Value} {x y : Str} {st : Stmt} {N : List Str} {k : Nat} {g : M Out} (T : Top K mg x st [y]) (Sc : FnScope N [y] (defScope st)) (hle : 1 ≤ N.length)
    (body : ∀ (base : Heap), K.In base → base.Ns mainGlobals mg → ∀ (f : Addr) (cdv : Value) (A : Around) (outer : List Env) (s : Shared) (H : Hp) (E : XK), Room k (A.deeper (envOfC x (defScope st) s.heap.objs.size f cdv)) →
      DSs (cxOf CX0 P wd K mg base N x (defScope st) f cdv A outer s H E).nox W0 (defBody st) g) :
    ∃ (fa : Addr) (fd : FuncData), mg x = some (.ref fa) ∧ (∀ (s : Shared) (u : Value), BindsTo s fd ⟨[u], []⟩ [(y, u)]) ∧ ∀ base : Heap, K.In base → base.Ns mainGlobals mg → FnOk P wd K mg base CX0 (k + 1) fa fd [y] (SpP K 1 (runP N.length g)) :=
  let ⟨f, fd, F, m, _, b⟩ := T.ex
  ⟨f, fd, m, fun s u => b s [u] rfl, fun base X G => fn_pure F Sc hle fun cdv A outer s H E hr => body base X G f cdv A outer s H E hr⟩
theorem ints_rep {K : PySem.W.Frag} {w : Wd} : ∀ ns : List Int, RepL K w (ns.map V.int) (ns.map D.int)
  | [] => .nil
  | n :: r => .cons (.int n) (ints_rep r)
/-- the law's def: from the script to True -/
theorem law_end {l : PySem.W.OpenLaw} {q : Program} {loose : List Str} {XP : (Str → Option Value) → Heap → Prop} {YP : World → Heap → Prop} {d : DefRec} {K : Params → PySem.W.Frag} {x : Str} {k : Nat} {F : Pf} (hn : l.most = some 63) (hdf : d.params.defaults = []) (hd : d.name = "law") (hr : Room k callerA)
    (hY : ∀ (w : World) (h : Heap), YP w h → (K w.params).In h)
    (W : ∀ (w : World) (mg : Str → Option Value) (h : Heap), (K w.params).In h → h.Ns mainGlobals mg → (∃ (fa : Addr) (fd : FuncData), mg "law" = some (.ref fa) ∧ (∀ (s : Shared) (u : Value), BindsTo s fd ⟨[u], []⟩ [(x, u)]) ∧
      ∀ base : Heap, (K w.params).In base → base.Ns mainGlobals mg → FnOk l.prog w (K w.params) mg base CX0 k fa fd [x] (SpP (K w.params) 1 F)))
    (hF : ∀ ns : List Int, ns.length ≤ 63 → (∀ z ∈ ns, Builtin.Int.intBits z ≤ 1048576) → F [.lst (ns.map D.int)] [] = some (.bl true)) :
    PySem.W.WalkO q loose XP YP l.row.toRowW d [] (fun f vs => PySem.call f vs) := by
  refine L2.walk_ofB (n := 63) (k := k) (x := x) (CX := fun _ => CX0) (sp := fun w => SpP (K w.params) 1 F) hn (by decide) hdf hr hY (fun w mg fa h X G hmg => ?_) (fun w H a ns hl hb _ hS => ?_) fun _ _ _ _ _ z => z
  · obtain ⟨fa', fd, e, b, G'⟩ := W w mg h X G
    rw [hd, e] at hmg
    cases hmg
    exact ⟨fd, b, G'⟩
  · refine ⟨rfl, ⟨[], H⟩, [], ⟨[], []⟩, [.lst (ns.map D.int)], .bl true, ⟨fun _ _ h => h, rfl, fun i d h => by simp at h, rfl, .nil, fun _ h => by simp at h, fun n a c e => by simp at e⟩, .cons (.lst hS (ints_rep ns)) .nil, hF ns hl hb, fun w' H' v _ _ r => ?_⟩
    cases r
    rfl
end Fx

namespace Fx
open PySem PySem.Spec PyProof.Rows L2
variable {X : Cx} {W : WX}
/-! ### a < b of numbers, texts, alike data -/
def rLtData (K : PySem.W.Frag) : R2 := fun x y H Q => ∃ d e, Dp K H x d ∧ Dp K H y e ∧ PySem.W.alike d e = true ∧ d ≠ .none ∧ d.depth ≤ 64 ∧ Q (.bl (PySem.W.dataLt d e)) H
theorem op_ltData (hu : X.A.units + 64 < cLine) : OpR X (compareOp .Lt) (rLtData X.K) := by
  intro pins s σ H x y v u Q I rx ry h
  obtain ⟨d, e, hd, he, al, dn, sd, q⟩ := h
  obtain ⟨as, r1⟩ := Dp.reads I d x v hd rx
  obtain ⟨bs, r2⟩ := Dp.reads I e y u he ry
  exact PySem.W.lt_data r1 r2 al dn (Nat.lt_of_le_of_lt (Nat.add_le_add_left (Nat.le_trans (Nat.min_le_left _ _) sd) _) hu) ⟨.bl _, H, I, rfl, q⟩
def rLtA (K : PySem.W.Frag) : R2 := fun x y H Q => rI0 (fun i j => .bl (decide (i < j))) x y H Q ∨ (∃ i j, x = .str i ∧ y = .str j ∧ Q (.bl (decide (i.cps.toList < j.cps.toList))) H) ∨ rLtData K x y H Q
theorem op_ltA (hu : X.A.units + 64 < cLine) : OpR X (compareOp .Lt) (rLtA X.K) := opr_or op_lt (opr_or op_lt_str (op_ltData hu))
def ltAM : D → D → M D
  | .int i, .int j => ret (.bl (decide (i < j)))
  | .str a, .str b => ret (.bl (decide (a.cps.toList < b.cps.toList)))
  | .tup a, .tup b => fun s => match pyD s (.tup a), pyD s (.tup b) with
    | some p, some q => if (PySem.W.alike p q && decide (p.depth ≤ 64)) = true then .ok (.bl (PySem.W.dataLt p q)) s else .bad
    | _, _ => .bad
  | _, _ => fail
theorem rop_ltA : ROp X (rLtA X.K) ltAM := by
  intro W w H σ s x y d e Q R rx ry p
  unfold ltAM at p
  split at p
  · cases rx; cases ry; exact .inl ⟨_, _, rfl, rfl, Post.here p R (Rep.bl _)⟩
  · cases rx; cases ry; exact .inr (.inl ⟨_, _, rfl, rfl, Post.here p R (Rep.bl _)⟩)
  · next a b =>
    split at p
    · next p1 q1 h1 h2 =>
      split at p
      · next k =>
        rw [Bool.and_eq_true, decide_eq_true_eq] at k
        refine .inr (.inr ⟨p1, q1, R.py rx h1, R.py ry h2, k.1, ?_, k.2, Post.here p R (Rep.bl _)⟩)
        intro z
        subst z
        unfold pyD at h1
        dsimp only at h1
        unfold pyT at h1
        cases h3 : pyL a with
        | none => rw [h3] at h1; cases h1
        | some y => rw [h3] at h1; cases h1
      · exact p.elim
    · exact p.elim
  · exact p.elim
/-! ### a slice of a text, a list, a tuple -/
theorem slr_or {r1 r2 : V → Option Int → Option Int → Hp → VK → Prop} (h1 : SlR X r1) (h2 : SlR X r2) : SlR X (fun x l u H Q => r1 x l u H Q ∨ r2 x l u H Q) := by
  intro pins s σ H x v vl vu lo hi sl Q I rx hs pl pu h
  rcases h with h | h
  · exact h1 pins s σ H x v vl vu lo hi sl Q I rx hs pl pu h
  · exact h2 pins s σ H x v vl vu lo hi sl Q I rx hs pl pu h
/-- t[a:b] of a tuple, not the whole, the new object known -/
def rSlC (K : PySem.W.Frag) : V → Option Int → Option Int → Hp → VK → Prop := fun x l u H Q => ∃ a xs, x = .ref a ∧ SqT K H a xs ∧
  ¬ (HT.sIx xs.length 0 l = 0 ∧ HT.sIx xs.length xs.length u = xs.length) ∧ ∀ (p : Addr) (o : Obj), o.dict = none → H p = none → Q (.ref p) (upd H p (.frz o (.tup (cutV xs l u))))
theorem sl_tupC : SlR X (rSlC X.K) := by
  intro pins s σ H x v vl vu lo hi sl Q I rx hs pl pu h
  obtain ⟨a, xs, e, hx, hw, q⟩ := h
  subst e
  cases rx
  obtain ⟨its, rv, ht, hz⟩ := I.tuple hx
  have hl : its.toArray.size = xs.length := by rw [List.size_toArray]; exact rv.length.symm
  refine ⟨"tuple", _, PyProof.Rows.slot_tuple_getitem.lookup, ht.typeIs, HT.getItem_tuple_cut ht hs pl pu (by rw [hl]; exact hw) ?_ (by rw [hl]; exact hz)⟩
  rw [hl]
  have hg : (s.heap.push { cls := .type "tuple", data := .seq ((its.toArray.toList.drop (HT.sIx xs.length 0 lo)).take (HT.sIx xs.length xs.length hi - HT.sIx xs.length 0 lo)).toArray }).get? s.heap.objs.size = some { cls := .type "tuple", data := .seq ((its.toArray.toList.drop (HT.sIx xs.length 0 lo)).take (HT.sIx xs.length xs.length hi - HT.sIx xs.length 0 lo)).toArray } := Heap.get?_push_size _ rfl
  have rr := (rv.drop (HT.sIx xs.length 0 lo)).take (HT.sIx xs.length xs.length hi - HT.sIx xs.length 0 lo)
  have hd : ({ cls := .type "tuple", data := .seq ((its.toArray.toList.drop (HT.sIx xs.length 0 lo)).take (HT.sIx xs.length xs.length hi - HT.sIx xs.length 0 lo)).toArray } : Obj).dict = none := rfl
  refine ⟨.ref s.heap.objs.size, _, ?_, rfl, q _ _ hd (I.hok.fresh (Nat.le_refl _))⟩
  exact I.laid (t' := s.toks) (fun b ob k => Heap.get?_push_of_some _ k) (Nat.le_refl _) ⟨hg, Nat.le_trans (cutV_length xs lo hi) hz, _, rr, ⟨_, hg, rfl, _, rfl⟩⟩
/-- t[a:b] of a tuple: the whole of it is t itself -/
def rSlCA (K : PySem.W.Frag) : V → Option Int → Option Int → Hp → VK → Prop := fun x l u H Q => ∃ a xs, x = .ref a ∧ SqT K H a xs ∧
  (HT.sIx xs.length 0 l = 0 ∧ HT.sIx xs.length xs.length u = xs.length → Q (.ref a) H) ∧
  (¬ (HT.sIx xs.length 0 l = 0 ∧ HT.sIx xs.length xs.length u = xs.length) → ∀ (p : Addr) (o : Obj), o.dict = none → H p = none → Q (.ref p) (upd H p (.frz o (.tup (cutV xs l u)))))
theorem sl_tupCA : SlR X (rSlCA X.K) := by
  intro pins s σ H x v vl vu lo hi sl Q I rx hs pl pu h
  obtain ⟨a, xs, e, hx, q1, q2⟩ := h
  by_cases hw : HT.sIx xs.length 0 lo = 0 ∧ HT.sIx xs.length xs.length hi = xs.length
  · exact sl_tupA pins s σ H x v vl vu lo hi sl Q I rx hs pl pu ⟨a, xs, e, hx, q1, fun n => absurd hw n⟩
  · exact sl_tupC pins s σ H x v vl vu lo hi sl Q I rx hs pl pu ⟨a, xs, e, hx, hw, q2 hw⟩
theorem cutD_whole {α : Type} {xs : List α} {l u : Option Int} (h : HT.sIx xs.length 0 l = 0 ∧ HT.sIx xs.length xs.length u = xs.length) : (xs.drop (HT.sIx xs.length 0 l)).take (HT.sIx xs.length xs.length u - HT.sIx xs.length 0 l) = xs := by
  rw [h.1, h.2, List.drop_zero, Nat.sub_zero, List.take_length]
def slV (d : D) (l u : Option Int) : M D := fun s => match d with
  | .str x => if lenOk x.length = true then .ok (.str (cutS x l u)) s else .bad
  | .tup ds => .ok (.tup (cutD ds l u)) s
  | d => match lstOf s d with
    | some ds => .ok (.lst (cutD ds l u)) s
    | none => .bad
def slM (f : M D) (lo hi : M (Option Int)) : M D := bnd f fun d => bnd lo fun l => bnd hi fun u => slV d l u
theorem de_sl {e : Expr} {lo hi : Option Expr} {f : M D} {fl fh : M (Option Int)} {pos p2 : Pos} (h : DE X W e f) (hl : DO X W lo fl) (hh : DO X W hi fh) : DE X W (.Subscript e (.Slice lo hi none p2) pos) (slM f fl fh) := by
  obtain ⟨t, p, r⟩ := h
  obtain ⟨tl, pl, rl⟩ := hl
  obtain ⟨th, ph, rh⟩ := hh
  refine ⟨_, pe_slice (slr_or sl_str (slr_or sl_list sl_tupCA)) p pl ph, fun w H σ s Q R z => ?_⟩
  refine r.bnd R z fun d s1 w1 H1 v1 l1 R1 r1 p1 => ?_
  refine rl.bnd R1 p1 fun a s2 w2 H2 v2 l2 R2 r2 p2 => ?_
  refine rh.bnd R2 p2 fun b s3 w3 H3 v3 l3 R3 r3 p3 => ?_
  cases r2; cases r3
  replace r1 := Rep.up l3 (Rep.up l2 r1)
  unfold slV at p3
  split at p3
  · next x =>
    cases r1
    split at p3
    · next k => exact .inl ⟨x, rfl, of_decide_eq_true k, Post.here p3 R3 (Rep.str _)⟩
    · exact p3.elim
  · next ds =>
    obtain ⟨a', vs, rfl, h1, h2⟩ := R3.tuple r1 (ds := ds) rfl
    refine .inr (.inr ⟨a', vs, rfl, h1, fun z => ?_, fun _ q o ho hq => ?_⟩)
    · have e : cutD ds a b = ds := by
        unfold cutD
        rw [RepL.length h2] at z
        exact cutD_whole z
      rw [e] at p3
      exact Post.here p3 R3 r1
    · obtain ⟨l4, R4, r4⟩ := R3.newT hq (h2.cut a b) ho
      exact p3 _ _ _ l4 R4 r4
  · split at p3
    · next ds hd =>
      obtain ⟨a', vs, rfl, h1, h2⟩ := R3.list r1 hd
      refine .inr (.inl ⟨a', vs, rfl, h1, fun q hq => ?_⟩)
      obtain ⟨l4, R4, r4⟩ := R3.newL hq (h2.cut a b)
      exact p3 _ _ _ l4 R4 r4
    · exact p3.elim
end Fx

/-! Fx: sorted(xs, key=f), f a def of the text -/
namespace PySem.W
open PySem PySem.Calls PyProof.Rows
section
variable {prog : Program} {w : World} {A : Around} {E : Value → Shared → Prop} {s : Shared} {a kS : Addr} {b : Bool} {vs : List Value} {e1 : Nat} {P : PySem.Fin → Shared → Prop} {kz : List PyData}
end
end PySem.W
namespace Fx
open PySem PySem.Spec PyProof.Rows L2
theorem RepL.snoc {K : PySem.W.Frag} {w : Wd} {v : V} {d : D} (r : Rep K w v d) : ∀ {vs : List V} {ds : List D}, RepL K w vs ds → RepL K w (vs ++ [v]) (ds ++ [d])
  | _, _, .nil => .cons r .nil
  | _, _, .cons h t => .cons h (RepL.snoc r t)
theorem RepL.at' {K : PySem.W.Frag} {w : Wd} : ∀ {vs : List V} {ds : List D} {i : Nat} {v : V}, RepL K w vs ds → vs[i]? = some v → ∃ d, ds[i]? = some d ∧ Rep K w v d
  | _, _, _, _, .nil, e => by cases e
  | _, _, 0, _, .cons h _, e => by cases e; exact ⟨_, rfl, h⟩
  | _, _, i + 1, _, .cons _ t, e => RepL.at' (i := i) t e
theorem Vals.at' : ∀ {xs : List V} {us : List Value} {i : Nat} {u : Value}, Vals xs us → us[i]? = some u → ∃ x, xs[i]? = some x ∧ RelV x u
  | _, _, _, _, .nil, e => by cases e
  | _, _, 0, _, .cons h _, e => by cases e; exact ⟨_, rfl, h⟩
  | _, _, i + 1, _, .cons _ t, e => Vals.at' (i := i) t e
variable {X : Cx} {W : WX}
end Fx

/-! Fx: more methods of lists -/
namespace Fx
open PySem PySem.Spec PyProof.Rows L2
variable {X : Cx} {W : WX}
theorem RepL.dropN {K : PySem.W.Frag} {w : Wd} : ∀ {vs : List V} {ds : List D} (n : Nat), RepL K w vs ds → RepL K w (vs.drop n) (ds.drop n)
  | _, _, 0, h => by rw [List.drop_zero, List.drop_zero]; exact h
  | _, _, n + 1, .nil => by rw [List.drop_nil, List.drop_nil]; exact .nil
  | _, _, n + 1, .cons _ t => by rw [List.drop_succ_cons, List.drop_succ_cons]; exact RepL.dropN n t
theorem RepL.at2 {K : PySem.W.Frag} {w : Wd} : ∀ {vs : List V} {ds : List D} {i : Nat} {d : D}, RepL K w vs ds → ds[i]? = some d → ∃ v, vs[i]? = some v ∧ Rep K w v d
  | _, _, _, _, .nil, e => by cases e
  | _, _, 0, _, .cons h _, e => by cases e; exact ⟨_, rfl, h⟩
  | _, _, i + 1, _, .cons _ t, e => RepL.at2 (i := i) t e
def clrM (d : D) : M D := wrM d fun _ s => .ok ([], .non) s
end Fx

/-! Fx: defs that write cells of the caller, or hand back cells of their own -/
namespace Fx
open PySem PySem.Spec PyProof.Rows L2
variable {X : Cx} {W : WX}
abbrev Sf := List D → List Cell → Option (D × List Cell)
noncomputable def runS (n : Nat) (g : M Out) : Sf := fun ds vh => match g (initS n ds vh) with
  | .ok (.rt d) s => some (d, s.vh)
  | .ok .nx s => some (.non, s.vh)
  | _ => none
def SpS (K : PySem.W.Frag) (n : Nat) (F : Sf) : Sp := fun vs H Q _ => vs.length = n ∧ ∃ w σ s ds d vh, RS K w H σ s ∧ RepL K w vs ds ∧ F ds s.vh = some (d, vh) ∧ ∀ w' H' v, Le w H w' H' → RS K w' H' σ ⟨s.loc, vh⟩ → Rep K w' v d → Q v H'
theorem start_ok {K : PySem.W.Frag} {w : Wd} {H : Hp} {σ : L2.St} {z : S} {vs : List V} {ds : List D} {N : List Str} {ps : List Str} (R : RS K w H σ z) (rv : RepL K w vs ds) : RS K w H (start N vs) (initS N.length ds z.vh) := by
  have hdl := RepL.length rv
  refine R.other (l := ds.map some ++ List.replicate (N.length - ds.length) none) ?_ fun i d hi => ?_
  · show (vs.map some ++ List.replicate (N.length - vs.length) none).length = _
    simp only [List.length_append, List.length_map, List.length_replicate]
    rw [hdl]
  · by_cases hlt : i < ds.length
    · rw [List.getElem?_append_left (by rw [List.length_map]; exact hlt), List.getElem?_map] at hi
      cases h2 : ds[i]? with
      | none => rw [h2] at hi; cases hi
      | some d2 =>
        rw [h2] at hi; cases hi
        obtain ⟨v, h3, h4⟩ := RepL.get rv h2
        refine ⟨v, ?_, h4⟩
        show (vs.map some ++ _)[i]? = _
        rw [List.getElem?_append_left (by rw [List.length_map, hdl]; exact hlt), List.getElem?_map, h3]; rfl
    · rw [List.getElem?_append_right (by rw [List.length_map]; omega)] at hi
      have := List.mem_of_getElem? hi
      rw [List.mem_replicate] at this
      cases this.2
theorem fn_st {P : Program} {wd : World} {K : PySem.W.Frag} {mg : Str → Option Value} {base : Heap} {x qual : Str} {st : Stmt} {f : Addr} {fd : FuncData} {N ps : List Str} {k : Nat} {g : M Out} (F : Fun K x qual st f fd) (Sc : FnScope N ps (defScope st)) (hle : ps.length ≤ N.length)
    (body : ∀ (cdv : Value) (A : Around) (outer : List Env) (s : Shared) (H : Hp) (E : XK), Room k (A.deeper (envOfC qual (defScope st) s.heap.objs.size f cdv)) →
      DSs (cxOf CX0 P wd K mg base N qual (defScope st) f cdv A outer s H E).nox W0 (defBody st) g) : FnOk P wd K mg base CX0 (k + 1) f fd ps (SpS K ps.length (runS N.length g)) := by
  refine F.ok Sc (fun vs H Q E h => h.1) fun cdv A outer s H vs Q E hr h => ?_
  obtain ⟨t, p, r⟩ := body cdv A outer s H E hr
  obtain ⟨hl, w, σ, z, ds, d, vh, R, rv, e, q⟩ := h
  refine ⟨t, p, r w H _ (initS N.length ds z.vh) _ (start_ok (ps := ps) R rv) ?_⟩
  show PostS K W0 w H (g (initS N.length ds z.vh)) _
  unfold runS at e
  have fin_ok : ∀ {d0 : D} {s1 : S}, some (d0, s1.vh) = some (d, vh) → ∀ w' H' σ' v, Le w H w' H' → RS K w' H' σ' s1 → Rep K w' v d0 → Q v H' := fun {d0 s1} e w' H' σ' v l R' rv => by
    cases e
    refine q _ _ _ l (R'.other (l := z.loc) R.len fun i d hi => ?_) rv
    obtain ⟨v, h1, h2⟩ := R.loc i d hi
    exact ⟨v, h1, Rep.up l h2⟩
  cases hg : g (initS N.length ds z.vh) with
  | bad => rw [hg] at e; cases e
  | exc x s1 => rw [hg] at e; cases e
  | ok o s1 =>
    rw [hg] at e
    cases o with
    | brk => cases e
    | cnt => cases e
    | rt d0 => exact fun w' H' σ' v l R' rv => fin_ok e w' H' σ' v l R' rv
    | nx => exact fun w' H' σ' l R' => fin_ok e w' H' σ' .non l R' .non
structure FnS (P : Program) (wd : World) (K : PySem.W.Frag) (mg : Str → Option Value) (base : Heap) (x : Str) (n k : Nat) (F : Sf) : Prop where
  ex : ∃ (f : Addr) (fd : FuncData) (ps : List Str), ps.length = n ∧ mg x = some (.ref f) ∧ PySem.W.keepIn K (.ref f) = true ∧ Binds K fd ps [] ∧ FnOk P wd K mg base CX0 k f fd ps (SpS K n F)
theorem FnS.mono {P : Program} {wd : World} {K : PySem.W.Frag} {mg : Str → Option Value} {base : Heap} {x : Str} {n j k : Nat} {F : Sf} (h : FnS P wd K mg base x n j F) (l : j ≤ k) : FnS P wd K mg base x n k F :=
  let ⟨f, fd, ps, a, b, c, d, e⟩ := h.ex; ⟨f, fd, ps, a, b, c, d, e.mono l⟩
def callS (n : Nat) (F : Sf) (ds : List D) : M D := fun s => if ds.length = n then match F ds s.vh with
  | some (d, vh) => .ok d ⟨s.loc, vh⟩
  | none => .bad else .bad
theorem de_callS {x : Str} {n k : Nat} {F : Sf} {e : Expr} {es : List Expr} {fs : M (List D)} {p pos : Pos} (h : FnS X.prog X.w X.K X.mg X.base x n k F) (hr : Room k X.A) (ha : DA X W (e :: es) fs) (hg : Gl X x := by rfl) (hdb : (x == ("__debug__" : Str)) = false := by decide)
    (he : starEach (e :: es) X.env = (false, eval e X.env) :: starEach es X.env := by rfl) (hpl : (backTo pos (starEach es X.env)).any (·.1) = false := by rfl) : DE X W (.Call (.Name x p) (e :: es) [] pos) (bnd fs (callS n F)) := by
  obtain ⟨f, fd, ps, hps, hm, hk, hb, G⟩ := h.ex
  obtain ⟨t, q, r⟩ := ha
  refine ⟨_, pe_call G hr hg hm hk hb .nil pass0 q hdb he hpl, fun w H σ s Q R z => ?_⟩
  refine r.bnd R z fun ds s1 w1 H1 vs l1 R1 r1 p1 => ?_
  have p1 : Post X.K W (pD X.K) w1 H1 σ (if ds.length = n then match F ds s1.vh with
    | some (d, vh) => .ok d ⟨s1.loc, vh⟩
    | none => .bad else .bad) Q := p1
  by_cases hl : ds.length = n
  · rw [if_pos hl] at p1
    cases hF : F ds s1.vh with
    | none => rw [hF] at p1; exact p1.elim
    | some dv =>
      obtain ⟨d, vh⟩ := dv
      rw [hF] at p1
      refine ⟨?_, w1, σ, s1, ds, d, vh, R1, ?_, hF, fun w' H' v l R' r' => p1 w' H' v l R' r'⟩
      · rw [List.append_nil, RepL.length r1]; exact hl
      · rw [List.append_nil]; exact r1
  · rw [if_neg hl] at p1; exact p1.elim
end Fx
namespace Fx
open PySem PySem.Spec PyProof.Rows L2
theorem Top.fnS {P : Program} {wd : World} {K : PySem.W.Frag} {mg : Str → Option Value} {base : Heap} {x : Str} {st : Stmt} {N ps : List Str} {k : Nat} {g : M Out} (T : Top K mg x st ps) (Sc : FnScope N ps (defScope st)) (hle : ps.length ≤ N.length)
    (body : ∀ (f : Addr) (cdv : Value) (A : Around) (outer : List Env) (s : Shared) (H : Hp) (E : XK), Room k (A.deeper (envOfC x (defScope st) s.heap.objs.size f cdv)) →
      DSs (cxOf CX0 P wd K mg base N x (defScope st) f cdv A outer s H E).nox W0 (defBody st) g) : FnS P wd K mg base x ps.length (k + 1) (runS N.length g) :=
  let ⟨f, fd, F, m, b, _⟩ := T.ex
  ⟨f, fd, ps, rfl, m, F.kp, b, fn_st F Sc hle fun cdv A outer s H E hr => body f cdv A outer s H E hr⟩
/-- a def that is never called (the bottom of a recursion) -/
theorem Top.nil {P : Program} {wd : World} {K : PySem.W.Frag} {mg : Str → Option Value} {base : Heap} {x : Str} {st : Stmt} {ps : List Str} {k : Nat} (T : Top K mg x st ps) : FnP P wd K mg base x ps.length k (fun _ _ => none) :=
  let ⟨f, fd, F, m, b, _⟩ := T.ex
  ⟨f, fd, ps, rfl, m, F.kp, b, fun _ _ _ _ h => h.1, fun _ _ _ _ _ _ _ _ _ _ _ _ _ h => by obtain ⟨_, _, _, _, _, _, _, _, e, _⟩ := h; cases e⟩
end Fx

/-! Fx: isinstance(x, (A, B)), zip of two lists or of two tuples -/
namespace Fx
open PySem PySem.Spec PyProof.Rows L2
variable {X : Cx} {W : WX}
/-! zip -/
noncomputable def zipA : List D → M Wk
  | [a, b] => fun s => match lstOf s a, lstOf s b with
    | some xs, some ys => .ok ⟨List.zipWith D.pr xs ys, fun s' => lstOf s' a = some xs ∧ lstOf s' b = some ys⟩ s
    | _, _ => match tupOf a, tupOf b with
      | some xs, some ys => .ok ⟨List.zipWith D.pr xs ys, fun _ => True⟩ s
      | _, _ => .bad
  | _ => fun _ => .bad
theorem pI_zipT {K : PySem.W.Frag} {w0 : Wd} {a b : Addr} {d e : D} {xs ys : List D} (ra : Rep K w0 (.ref a) d) (rb : Rep K w0 (.ref b) e) (k1 : tupOf d = some xs) (k2 : tupOf e = some ys) : wkI K w0 (RZ.ItzT K a b) ⟨List.zipWith D.pr xs ys, fun _ => True⟩ := by
  intro w H σ s l R hok i
  obtain ⟨a', vs, e1, h1, h2⟩ := R.tuple (ra.upW l) k1
  cases e1
  obtain ⟨b', us, e2, h3, h4⟩ := R.tuple (rb.upW l) k2
  cases e2
  have hlen : (List.zipWith D.pr xs ys).length = min xs.length ys.length := List.length_zipWith
  refine ⟨fun hi => ?_, fun hi => ⟨vs, us, h1, h3, ?_⟩, fun x H' hy d' hd => ?_⟩
  · have hi : i < (List.zipWith D.pr xs ys).length := hi
    rw [hlen] at hi
    obtain ⟨v, hv, _⟩ := RepL.get h2 (List.getElem?_eq_getElem (show i < xs.length by omega))
    obtain ⟨u, hu, _⟩ := RepL.get h4 (List.getElem?_eq_getElem (show i < ys.length by omega))
    exact ⟨vs, us, v, u, h1, h3, hv, hu⟩
  · have hi : (List.zipWith D.pr xs ys).length ≤ i := hi
    rw [hlen] at hi
    rw [RepL.length h2, RepL.length h4]
    omega
  · obtain ⟨T, x1, y1, rfl, nT, rfl, f1, f2⟩ := hy
    have hd : (List.zipWith D.pr xs ys)[i]? = some d' := hd
    obtain ⟨v1, hv1⟩ : ∃ v, xs[i]? = some v := by
      have := (List.getElem?_eq_some_iff.mp hd).1
      rw [hlen] at this
      exact ⟨_, List.getElem?_eq_getElem (show i < xs.length by omega)⟩
    obtain ⟨v2, hv2⟩ : ∃ v, ys[i]? = some v := by
      have := (List.getElem?_eq_some_iff.mp hd).1
      rw [hlen] at this
      exact ⟨_, List.getElem?_eq_getElem (show i < ys.length by omega)⟩
    rw [List.getElem?_zipWith, hv1, hv2] at hd
    cases hd
    obtain ⟨u1, hu1, r1⟩ := RepL.get h2 hv1
    obtain ⟨u2, hu2, r2⟩ := RepL.get h4 hv2
    have e1 := f1 vs h1
    have e2 := f2 us h3
    rw [hu1] at e1; cases e1
    rw [hu2] at e2; cases e2
    obtain ⟨l2, R2, r⟩ := R.newP nT r1 r2
    exact ⟨_, l2, R2, r⟩
theorem di_zipA {es : List Expr} {kk : Nat} {tpos : Pos} {a b : Expr} {f : M (List D)} {p pos : Pos} (hm : X.mg "zip" = none) (h : DA X W [a, b] f) (hg : Gl X "zip" := by rfl)
    (hs : starEach [a, b] X.env = (false, eval a X.env) :: starEach [b] X.env := by rfl) (hpl : (backTo pos (starEach [b] X.env)).any (·.1) = false := by rfl) :
    DI X W (.Tuple es kk tpos) (.Call (.Name "zip" p) [a, b] [] pos) (bnd f zipA) := by
  obtain ⟨t, q, r⟩ := h
  refine ⟨_, RZ.pi_zipA hg hm q hs hpl, fun w H σ s R0 R z => ?_⟩
  refine r.bnd R z fun ds s1 w1 H1 vs l1 R1 r1 p1 => ?_
  cases r1 with
  | nil => exact p1.elim
  | cons h t =>
    cases t with
    | nil => exact p1.elim
    | cons h2 t2 =>
      cases t2 with
      | cons _ _ => exact p1.elim
      | nil =>
        unfold zipA at p1
        dsimp only at p1
        split at p1
        · next xs ys hx hy =>
          obtain ⟨a', vs, e1, q1, q2⟩ := R1.list h hx
          subst e1
          obtain ⟨b', us, e2, q3, q4⟩ := R1.list h2 hy
          subst e2
          exact ⟨a', b', vs, us, rfl, .inl ⟨q1, q3, p1 w1 H1 _ (Le.refl _ _) R1 (pI_zip h h2)⟩⟩
        · split at p1
          · next xs ys hx hy =>
            obtain ⟨a', vs, e1, q1, q2⟩ := R1.tuple h hx
            subst e1
            obtain ⟨b', us, e2, q3, q4⟩ := R1.tuple h2 hy
            subst e2
            exact ⟨a', b', vs, us, rfl, .inr ⟨q1, q3, p1 w1 H1 _ (Le.refl _ _) R1 (pI_zipT h h2 hx hy)⟩⟩
          · exact p1.elim
end Fx

/-! the equations by which a printed text is reckoned -/
namespace Fx
open PySem PySem.Spec PyProof.Rows L2
/-- an equation that simp is to use as a step of its own -/
theorem nr {α : Sort _} {a b : α} (h : a = b) : a = b := h
theorem runP_of {n : Nat} {g : M Out} {ds : List D} {vh : List Cell} {d : D} (h : ∃ l, g (initS n ds vh) = .ok (.rt d) ⟨l, vh⟩) (hn : nc vh.length d = true) : runP n g ds vh = some d := by
  obtain ⟨l, h⟩ := h
  unfold runP
  rw [h]
  show fin vh ⟨l, vh⟩ d = some d
  unfold fin
  rw [if_pos (by exact List.take_length)]
  unfold thaw
  rw [if_pos hn]
/-- a list that was made cell by cell is handed back -/
theorem runP_cell {n : Nat} {g : M Out} {ds : List D} {vh more : List Cell} {es : List D} {k : Nat} (h : ∃ l, g (initS n ds vh) = .ok (.rt (.cell (vh.length + k))) ⟨l, vh ++ more⟩) (hk : more[k]? = some (.lst es)) (hn : ncL vh.length es = true) : runP n g ds vh = some (.lst es) := by
  obtain ⟨l, h⟩ := h
  have hm : ∀ es : List D, ncL vh.length es = true → mapO (thaw (vh ++ more) vh.length 7) es = some es := fun es => by
    induction es with
    | nil => intro _; rfl
    | cons x xs ih =>
      intro h
      have h : (nc vh.length x && ncL vh.length xs) = true := h
      rw [Bool.and_eq_true] at h
      unfold mapO
      rw [ih h.2]
      have : thaw (vh ++ more) vh.length 7 x = some x := by unfold thaw; rw [if_pos h.1]
      rw [this]
  unfold runP
  rw [h]
  show fin vh ⟨l, vh ++ more⟩ _ = _
  unfold fin
  rw [if_pos (by show (vh ++ more).take vh.length = vh; exact List.take_left)]
  unfold thaw
  rw [if_neg (by simp [nc])]
  show (match (vh ++ more)[vh.length + k]? with | some (.lst ds) => (mapO (thaw (vh ++ more) vh.length 7) ds).map D.lst | _ => none) = _
  rw [List.getElem?_append_right (by omega), Nat.add_sub_cancel_left, hk]
  show (mapO (thaw (vh ++ more) vh.length 7) es).map D.lst = _
  rw [hm es hn]; rfl
def Res.then' {α β : Type} (r : Res α) (k : α → M β) : Res β := match r with
  | .ok a s => k a s
  | .exc e s => .exc e s
  | .bad => .bad
def Res.andThen (r : Res Out) (q : M Out) : Res Out := match r with
  | .ok .nx s' => q s'
  | r => r
section
variable {α β : Type}
theorem x_bnd {m : M α} {k : α → M β} {s : S} : bnd m k s = (m s).then' k := nr rfl
theorem x_ok {a : α} {s : S} {k : α → M β} : (Res.ok a s).then' k = k a s := nr rfl
theorem x_ret {a : α} {s : S} : ret a s = .ok a s := nr rfl
theorem x_fail {s : S} : (fail : M α) s = .bad := nr rfl
theorem x_ite {c : Prop} [Decidable c] {a b : Res α} {k : α → M β} : (if c then a else b).then' k = if c then a.then' k else b.then' k := by split <;> rfl
theorem x_iteM {c : Prop} [Decidable c] {a b : M α} {s : S} : (if c then a else b) s = if c then a s else b s := by split <;> rfl
theorem x_bad {k : α → M β} : (Res.bad : Res α).then' k = .bad := nr rfl
end
def look (o : Option (Option D)) (s : S) : Res D := match o with
  | some (some d) => .ok d s
  | _ => .bad
theorem x_get {i : Nat} {s : S} : getL i s = look s.loc[i]? s := nr rfl
theorem x_look {d : D} {s : S} : look (some (some d)) s = .ok d s := nr rfl
theorem x_set {i : Nat} {s : S} {d : D} : setL i d s = .ok .nx ⟨s.loc.set i (some d), s.vh⟩ := nr rfl
theorem x_seq {p q : M Out} {s : S} : seqM p q s = (p s).andThen q := by unfold seqM Res.andThen; rfl
theorem x_nx {s : S} {q : M Out} : (Res.ok Out.nx s).andThen q = q s := nr rfl
theorem x_rt {d : D} {s : S} {q : M Out} : (Res.ok (Out.rt d) s).andThen q = .ok (.rt d) s := nr rfl
theorem x_brk {s : S} {q : M Out} : (Res.ok Out.brk s).andThen q = .ok .brk s := nr rfl
theorem x_cnt {s : S} {q : M Out} : (Res.ok Out.cnt s).andThen q = .ok .cnt s := nr rfl
theorem x_bad2 {q : M Out} : (Res.bad : Res Out).andThen q = .bad := nr rfl
theorem x_ite2 {c : Prop} [Decidable c] {a b : Res Out} {q : M Out} : (if c then a else b).andThen q = if c then a.andThen q else b.andThen q := by split <;> rfl
theorem x_asg {p : M D} {t : D → M Out} {s : S} : asgM p t s = (p s).then' t := nr rfl
theorem x_retM {p : M D} {s : S} : retM p s = (p s).then' fun d => ret (.rt d) := nr rfl
theorem x_drop {p : M D} {s : S} : dropM p s = (p s).then' fun _ => ret .nx := nr rfl
theorem x_if {c : M Bool} {p q : M Out} {s : S} : ifM c p q s = (c s).then' fun b => if b = true then p else q := nr rfl
theorem x_itM {c : M Bool} {p q : M D} {s : S} : iteM c p q s = (c s).then' fun b => if b = true then p else q := nr rfl
theorem x_asB {b : Bool} {s : S} : asB (.bl b) s = .ok b s := nr rfl
theorem x_bin {op : D → D → M D} {a b : M D} {s : S} : bin op a b s = (a s).then' fun d => bnd b fun e => op d e := nr rfl
theorem x_tst {a : M D} {s : S} : tst a s = (a s).then' asB := nr rfl
theorem x_and {p q : M D} {s : S} : andV p q s = (p s).then' fun d => bnd (asB d) fun c => if c = true then q else ret (.bl false) := nr rfl
theorem x_or {p q : M D} {s : S} : orV p q s = (p s).then' fun d => bnd (asB d) fun c => if c = true then ret (.bl true) else q := nr rfl
theorem x_not {p : M D} {s : S} : notV p s = (p s).then' fun d => bnd (asB d) fun c => ret (.bl (!c)) := nr rfl
theorem x_andT {p q : M Bool} {s : S} : andT p q s = (p s).then' fun c => if c = true then q else ret false := nr rfl
theorem x_orT {p q : M Bool} {s : S} : orT p q s = (p s).then' fun c => if c = true then ret true else q := nr rfl
theorem x_notT {p : M Bool} {s : S} : notT p s = (p s).then' fun c => ret (!c) := nr rfl
theorem x_cons {p : M D} {q : M (List D)} {s : S} : consM p q s = (p s).then' fun d => bnd q fun ds => ret (d :: ds) := nr rfl
def callR (o : Option D) (s : S) : Res D := match o with
  | some d => .ok d s
  | none => .bad
theorem x_call {n : Nat} {F : Pf} {ds : List D} {s : S} : callP n F ds s = if ds.length = n then callR (F ds s.vh) s else .bad := nr rfl
theorem x_callR {d : D} {s : S} : callR (some d) s = .ok d s := nr rfl
theorem x_isa {T : String} {d : D} {s : S} : isaM T d s = match tyName s d with | some a => .ok (.bl (isaT T a)) s | none => .bad := nr rfl
theorem x_sub {i j : Int} {s : S} : subM (.int i) (.int j) s = .ok (.int (i - j)) s := nr rfl
theorem x_add {i j : Int} {s : S} : addM (.int i) (.int j) s = .ok (.int (i + j)) s := nr rfl
theorem x_addS {i j : Str} {s : S} : addM (.str i) (.str j) s = if lenOk (i.length + j.length) = true then .ok (.str (i ++ j)) s else .bad := by
  show (if lenOk (i.length + j.length) = true then ret (D.str (i ++ j)) else fail) s = _
  split <;> rfl
theorem x_mod {i j : Int} {s : S} (h : 0 < j) : modM (.int i) (.int j) s = .ok (.int (i % j)) s := by
  show (if decide (0 < j) = true then ret _ else fail) s = _
  rw [if_pos (decide_eq_true h)]; rfl
theorem x_div {i j : Int} {s : S} (h : 0 < j) (h2 : j.natAbs.log2 < 9000) : divM (.int i) (.int j) s = .ok (.int (i / j)) s := by
  show (if (decide (0 < j) && decide (j.natAbs.log2 < 9000)) = true then ret _ else fail) s = _
  rw [if_pos (by rw [decide_eq_true h, decide_eq_true h2]; rfl)]; rfl
theorem x_mul {i j : Int} {s : S} (h : i.natAbs.log2 + j.natAbs.log2 < 100000000) : mulM (.int i) (.int j) s = .ok (.int (i * j)) s := by
  show (if decide (i.natAbs.log2 + j.natAbs.log2 < 100000000) = true then ret _ else fail) s = _
  rw [if_pos (decide_eq_true h)]; rfl
theorem x_pow {i j : Int} {s : S} (h : 0 ≤ j) (h2 : j ≤ 1000000) (h3 : i.natAbs < 2 ^ 64) : powM (.int i) (.int j) s = .ok (.int (i ^ j.toNat)) s := by
  show (if (decide (0 ≤ j) && (decide (j ≤ 1000000) && decide (i.natAbs < 2 ^ 64))) = true then ret _ else fail) s = _
  rw [if_pos (by rw [decide_eq_true h, decide_eq_true h2, decide_eq_true h3]; rfl)]; rfl
theorem x_lt {i j : Int} {s : S} : ltAM (.int i) (.int j) s = .ok (.bl (decide (i < j))) s := nr rfl
theorem x_le {i j : Int} {s : S} : leM (.int i) (.int j) s = .ok (.bl (decide (i ≤ j))) s := nr rfl
theorem x_gt {i j : Int} {s : S} : gtM (.int i) (.int j) s = .ok (.bl (decide (j < i))) s := nr rfl
theorem x_ge {i j : Int} {s : S} : geM (.int i) (.int j) s = .ok (.bl (decide (j ≤ i))) s := nr rfl
theorem x_eqI {i j : Int} {s : S} : eqM (.int i) (.int j) s = .ok (.bl (decide (i = j))) s := by
  show (if (SeqAt.shaped (PyData.int i) && SeqAt.shaped (PyData.int j)) = true then Res.ok (D.bl (PyData.eqv (.int i) (.int j))) s else .bad) = _
  rw [if_pos (by rfl)]
  simp [PyData.eqv, Bool.beq_eq_decide_eq]
theorem x_neI {i j : Int} {s : S} : neM (.int i) (.int j) s = .ok (.bl (!decide (i = j))) s := by
  show (if (SeqAt.shaped (PyData.int i) && SeqAt.shaped (PyData.int j)) = true then Res.ok (D.bl (!PyData.eqv (.int i) (.int j))) s else .bad) = _
  rw [if_pos (by rfl)]
  simp [PyData.eqv, Bool.beq_eq_decide_eq]
theorem x_true {α : Sort _} {a b : α} : (if true = true then a else b) = a := nr rfl
theorem x_false {α : Sort _} {a b : α} : (if false = true then a else b) = b := nr rfl
theorem x_aug {f : Int → Int → Int} {i : Nat} {p : M D} {s : S} : augI f i p s = (getL i s).then' fun a => bnd p fun b => augF f i a b := nr rfl
theorem x_augF {f : Int → Int → Int} {i : Nat} {x y : Int} {s : S} : augF f i (.int x) (.int y) s = .ok .nx ⟨s.loc.set i (some (.int (f x y))), s.vh⟩ := nr rfl
theorem x_forM {f : M Wk} {t : D → M Out} {b : M Out} {s : S} : forM f t b s = (f s).then' fun it => loopM it.ok t b it.items := nr rfl
theorem x_ran1 {n : Int} {s : S} (h : okB n = true) : ran1I [.int n] s = .ok ⟨ranD 0 n.toNat, fun _ => True⟩ s := by
  show (if okB n = true then _ else _) = _
  rw [if_pos h]
theorem x_ran2 {lo n : Int} {s : S} (h : okB lo = true) (h2 : okB n = true) : ran2I [.int lo, .int n] s = .ok ⟨ranD lo (n - lo).toNat, fun _ => True⟩ s := by
  show (if (okB lo && okB n) = true then _ else _) = _
  rw [if_pos (by rw [h, h2]; rfl)]
theorem okB_of {i : Int} (h : -(2 ^ 62) ≤ i) (h2 : i < 2 ^ 62) : okB i = true := by
  unfold okB
  rw [decide_eq_true h, decide_eq_true h2]; rfl
theorem x_seqL {ds : List D} {s : S} : seqI (.lst ds) s = .ok ⟨ds, fun s' => itemsOf s' (.lst ds) = some ds⟩ s := nr rfl
theorem x_seqT {ds : List D} {s : S} : seqI (.tup ds) s = .ok ⟨ds, fun s' => itemsOf s' (.tup ds) = some ds⟩ s := nr rfl
theorem x_seqS {x : Str} {s : S} : seqI (.str x) s = .ok ⟨signs x, fun s' => itemsOf s' (.str x) = some (signs x)⟩ s := nr rfl
theorem x_frz {m : M Cell} {s : S} : frzM m s = (m s).then' fun c => match c with | .lst ds => ret (.lst ds) | _ => fail := nr rfl
theorem x_own {m : M Cell} {s : S} : ownM m s = (m s).then' fun c s => .ok (.cell s.vh.length) ⟨s.loc, s.vh ++ [c]⟩ := nr rfl
theorem lenOk_of {n : Nat} (h : n ≤ 16777216) : lenOk n = true := decide_eq_true (Nat.le_trans h (by decide))
theorem x_lst {q : M (List D)} {s : S} : lstN q s = (q s).then' fun ds => if lenOk ds.length = true then ret (.lst ds) else fail := nr rfl
theorem x_tup {q : M (List D)} {s : S} : tupM q s = (q s).then' fun ds => if lenOk ds.length = true then ret (.tup ds) else fail := nr rfl
theorem x_lenL {ds : List D} {s : S} : lenM [.lst ds] s = .ok (.int ds.length) s := nr rfl
theorem x_lenS {x : Str} {s : S} (h : lenOk x.length = true) : lenM [.str x] s = .ok (.int x.length) s := by
  show (if lenOk x.length = true then _ else _) = _
  rw [if_pos h]
def Res.opt {α : Type} (o : Option α) (s : S) : Res α := match o with
  | some y => .ok y s
  | none => .bad
theorem x_opt {α : Type} {y : α} {s : S} : Res.opt (some y) s = .ok y s := nr rfl
theorem x_ixL {ds : List D} {i : Int} {s : S} : ixM (.lst ds) (.int i) s = Res.opt (atI ds i) s := by cases h : atI ds i <;> simp [ixM, lstOf, Res.opt, h]
theorem x_ixT {ds : List D} {i : Int} {s : S} : ixM (.tup ds) (.int i) s = Res.opt (atI ds i) s := by cases h : atI ds i <;> simp [ixM, Res.opt, h]
theorem x_slL {f : M D} {lo hi : M (Option Int)} {s : S} : slL f lo hi s = (f s).then' fun d => bnd lo fun l => bnd hi fun u => fun s => match lstOf s d with | some ds => .ok (.lst (cutD ds l u)) s | none => .bad := nr rfl
theorem x_slM {f : M D} {lo hi : M (Option Int)} {s : S} : slM f lo hi s = (f s).then' fun d => bnd lo fun l => bnd hi fun u => slV d l u := nr rfl
theorem x_slVL {ds : List D} {l u : Option Int} {s : S} : slV (.lst ds) l u s = .ok (.lst (cutD ds l u)) s := nr rfl
theorem x_slVS {x : Str} {l u : Option Int} {s : S} : slV (.str x) l u s = if lenOk x.length = true then .ok (.str (cutS x l u)) s else .bad := nr rfl
theorem x_min2 {i j : Int} {s : S} : min2M [.int i, .int j] s = .ok (.int (if j < i then j else i)) s := nr rfl
theorem x_max2 {i j : Int} {s : S} : max2M [.int i, .int j] s = .ok (.int (if j > i then j else i)) s := nr rfl
theorem x_neg {i : Int} {s : S} : negM (.int i) s = .ok (.int (-i)) s := nr rfl
theorem x_part {f : M D} {s : S} : partM f s = (f s).then' fun d => match d with | .int i => ret (some i) | _ => fail := nr rfl
/-! comprehensions, loops -/
/-- a for loop by what holds between its turns; it may leave by a return where Pv says so -/
theorem loopM_all {ok : S → Prop} {t : D → M Out} {b : M Out} (Pv : Nat → S → Prop) (items : List D) (hok : ∀ i s, Pv i s → ok s)
    (hs : ∀ (i : Nat) d s, items[i]? = some d → Pv i s → ∃ s1, t d s = .ok .nx s1 ∧ ∃ s2, (b s1 = .ok .nx s2 ∨ b s1 = .ok .cnt s2) ∧ Pv (i + 1) s2) : ∀ (k : Nat) s, k ≤ items.length → Pv k s → ∃ s2, loopM ok t b (items.drop k) s = .ok .nx s2 ∧ Pv items.length s2 := by
  intro k s hk hp
  generalize hm : items.length - k = m
  induction m generalizing k s with
  | zero =>
    have e : k = items.length := by omega
    subst e
    refine ⟨s, ?_, hp⟩
    rw [List.drop_length]
    unfold loopM
    rw [if_pos (hok _ _ hp)]
  | succ m ih =>
    have hlt : k < items.length := by omega
    obtain ⟨s1, h1, s2, h2, h3⟩ := hs k items[k] s (List.getElem?_eq_getElem hlt) hp
    obtain ⟨s3, h4, h5⟩ := ih (k + 1) s2 (by omega) h3 (by omega)
    refine ⟨s3, ?_, h5⟩
    rw [List.drop_eq_getElem_cons hlt]
    unfold loopM
    rw [if_pos (hok _ _ hp), h1]
    dsimp only
    rcases h2 with h2 | h2 <;> rw [h2] <;> exact h4
end Fx
namespace Fx
open PySem PySem.Spec PyProof.Rows L2
theorem atI_ofNat {α : Type} {xs : List α} {i : Nat} (h : i < xs.length) : atI xs (i : Int) = xs[i]? := by
  unfold atI ixN
  rw [if_pos (by omega), if_pos (by omega)]
  simp
theorem log2_of {x : Int} {k : Nat} (h0 : 0 < k) (h : x.natAbs < 2 ^ k) : x.natAbs.log2 < k := PySem.Flt.log2_lt_of h0 h
theorem mem_ints {ns : List Int} {d : D} (h : d ∈ ns.map D.int) : ∃ n, n ∈ ns ∧ d = .int n := by
  obtain ⟨n, a, b⟩ := List.mem_map.mp h
  exact ⟨n, a, b.symm⟩
theorem at_ints {ns : List Int} {i : Nat} (h : i < ns.length) : atI (ns.map D.int) (i : Int) = some (.int ns[i]) := by
  rw [atI_ofNat (by rw [List.length_map]; exact h), List.getElem?_map, List.getElem?_eq_getElem h]; rfl
theorem ranD_at {lo : Int} {n i : Nat} {d : D} (h : (ranD lo n)[i]? = some d) : i < n ∧ d = .int (lo + (i : Int)) := by
  have hi : i < n := by
    have := (List.getElem?_eq_some_iff.mp h).1
    rw [ranD_len] at this; exact this
  rw [ranD_get hi] at h
  cases h
  exact ⟨hi, rfl⟩
/-- the whole loop -/
theorem loopM_run {ok : S → Prop} {t : D → M Out} {b : M Out} (Pv : Nat → S → Prop) (items : List D) (s : S) (hok : ∀ i s, Pv i s → ok s)
    (hs : ∀ (i : Nat) d s, items[i]? = some d → Pv i s → ∃ s1, t d s = .ok .nx s1 ∧ ∃ s2, (b s1 = .ok .nx s2 ∨ b s1 = .ok .cnt s2) ∧ Pv (i + 1) s2) (h0 : Pv 0 s) : ∃ s2, loopM ok t b items s = .ok .nx s2 ∧ Pv items.length s2 :=
  loopM_all Pv items hok hs 0 s (Nat.zero_le _) h0
end Fx

/-! texts by their codes, plain values -/
namespace Fx
open PySem PySem.Spec PyProof.Rows L2 TL
/-- the text of these codes -/
def tx (cs : List Nat) : Str := ⟨cs.toArray⟩
theorem tx_len (cs : List Nat) : (tx cs).length = cs.length := by
  show cs.toArray.size = cs.length
  exact List.size_toArray
theorem tx_tl (cs : List Nat) : (tx cs).cps.toList = cs := by
  show cs.toArray.toList = cs
  simp
theorem tx_of (x : Str) : tx x.cps.toList = x := by
  cases x
  simp [tx]
theorem tx_app (a b : List Nat) : tx a ++ tx b = tx (a ++ b) := by
  have h : tl (tx a ++ tx b) = tl (tx a) ++ tl (tx b) := tl_append _ _
  rw [show tl (tx a) = a from tx_tl a, show tl (tx b) = b from tx_tl b] at h
  rw [← tx_of (tx a ++ tx b)]
  show tx (tl (tx a ++ tx b)) = _
  rw [h]
theorem tx_inj {a b : List Nat} (h : tx a = tx b) : a = b := by
  have := congrArg (fun x : Str => x.cps.toList) h
  simpa [tx_tl] using this
theorem joinL_nil : ∀ ps : List (List Nat), joinL [] ps = ps.flatten
  | [] => rfl
  | [p] => by simp [joinL]
  | p :: q :: r => by
    show p ++ ([] ++ joinL [] (q :: r)) = _
    rw [joinL_nil (q :: r)]
    simp
theorem flat_one (cs : List Nat) : (cs.map fun c => [c]).flatten = cs := by
  induction cs with
  | nil => rfl
  | cons c r ih => simp [ih]
theorem join_tx (ps : List (List Nat)) : Txt.join (tx []) (ps.map tx) = tx ps.flatten := by
  rw [join_eq, ← tx_of (Str.join _ _)]
  show tx (tl (Str.join (tx []) (ps.map tx))) = _
  rw [tl_join, show tl (tx []) = [] from tx_tl [], joinL_nil, List.map_map]
  congr 1
  congr 1
  rw [show (tl ∘ tx) = id from funext fun cs => tx_tl cs, List.map_id]
theorem strsOf_map : ∀ ps : List (List Nat), strsOf (ps.map fun p => D.str (tx p)) = some (ps.map tx)
  | [] => rfl
  | p :: r => by
    show (strsOf (r.map fun p => D.str (tx p))).map (tx p :: ·) = _
    rw [strsOf_map r]; rfl
/-- joined without a sign between -/
theorem x_join {f g : M D} {s : S} : jnM f g s = (f s).then' fun d s => match d with | .str a => bnd g (fun e => joinM (.str a) [e]) s | _ => .bad := nr rfl
theorem join_ok (ps : List (List Nat)) (s : S) (h : (ps.map List.length).sum ≤ 16777216) : joinM (.str (tx [])) [.lst (ps.map fun p => D.str (tx p))] s = .ok (.str (tx ps.flatten)) s := by
  show (match strsOf (ps.map fun p => D.str (tx p)) with | some ys => if joinOk (tx []) ys = true then Res.ok (D.str (Txt.join (tx []) ys)) s else .bad | none => .bad) = _
  rw [strsOf_map]
  show (if joinOk (tx []) (ps.map tx) = true then Res.ok (D.str (Txt.join (tx []) (ps.map tx))) s else .bad) = _
  rw [if_pos, join_tx]
  unfold joinOk
  refine decide_eq_true ?_
  rw [tx_len, List.length_nil, Nat.mul_zero, Nat.add_zero, List.map_map, show ((fun x : Str => x.length) ∘ tx) = List.length from funext fun cs => tx_len cs]
  exact h
theorem sum_ones (cs : List Nat) : ((cs.map fun c => [c]).map List.length).sum = cs.length := by
  induction cs with
  | nil => rfl
  | cons c r ih => simp at ih ⊢; omega
theorem join_signs (cs : List Nat) (s : S) (h : cs.length ≤ 16777216) : joinM (.str (tx [])) [.lst (cs.map fun c => D.str (tx [c]))] s = .ok (.str (tx cs)) s := by
  have := join_ok (cs.map fun c => [c]) s (by rw [sum_ones]; exact h)
  rw [flat_one, List.map_map] at this
  exact this
theorem x_ixS {cs : List Nat} {i : Int} {s : S} (h : cs.length ≤ 16777216) : ixM (.str (tx cs)) (.int i) s = Res.opt ((atI cs i).map fun c => D.str (tx [c])) s := by
  show (if lenOk (tx cs).length = true then (match atI (tx cs).cps.toList i with | some c => Res.ok (D.str ⟨#[c]⟩) s | none => .bad) else .bad) = _
  rw [tx_len, if_pos (lenOk_of h), tx_tl]
  cases atI cs i <;> rfl
theorem cutS_take (cs : List Nat) (n : Nat) : cutS (tx cs) none (some (n : Int)) = tx (cs.take n) := by
  unfold cutS
  rw [tx_tl, tx_len, HT.sIx_none, show HT.sIx cs.length cs.length (some (n : Int)) = min n cs.length from HT.sIx_nat _ _ n, List.drop_zero, Nat.sub_zero]
  show tx (cs.take (min n cs.length)) = _
  congr 1
  by_cases h : n ≤ cs.length
  · rw [Nat.min_eq_left h]
  · rw [Nat.min_eq_right (by omega), List.take_of_length_le (by omega), List.take_of_length_le (by omega)]
theorem cutS_drop (cs : List Nat) (n : Nat) : cutS (tx cs) (some (n : Int)) none = tx (cs.drop n) := by
  unfold cutS
  rw [tx_tl, tx_len, HT.sIx_none, show HT.sIx cs.length 0 (some (n : Int)) = min n cs.length from HT.sIx_nat _ _ n]
  show tx ((cs.drop (min n cs.length)).take (cs.length - min n cs.length)) = _
  congr 1
  by_cases h : n ≤ cs.length
  · rw [Nat.min_eq_left h, List.take_of_length_le (by rw [List.length_drop]; exact Nat.le_refl _)]
  · rw [Nat.min_eq_right (by omega), List.drop_of_length_le (Nat.le_refl _), List.drop_of_length_le (by omega)]
    simp
theorem x_slS {f : M D} {lo hi : M (Option Int)} {s : S} : slS f lo hi s = (f s).then' fun d => bnd lo fun l => bnd hi fun u => match d with | .str x => if lenOk x.length = true then ret (.str (cutS x l u)) else fail | _ => fail := nr rfl
theorem tx_eq {a b : List Nat} : decide (tx a = tx b) = decide (a = b) := by
  by_cases h : a = b
  · subst h; simp
  · rw [decide_eq_false h]
    exact decide_eq_false fun e => h (tx_inj e)
theorem x_eqS {a b : List Nat} {s : S} : eqM (.str (tx a)) (.str (tx b)) s = .ok (.bl (decide (a = b))) s := by
  show Res.ok (D.bl (decide (tx a = tx b))) s = _
  rw [tx_eq]
theorem x_neS {a b : List Nat} {s : S} : neM (.str (tx a)) (.str (tx b)) s = .ok (.bl (!decide (a = b))) s := by
  show Res.ok (D.bl (!decide (tx a = tx b))) s = _
  rw [tx_eq]
theorem x_eqB {a b : Bool} {s : S} : eqM (.bl a) (.bl b) s = .ok (.bl (decide (a = b))) s := by
  show (if (SeqAt.shaped (PyData.bool a) && SeqAt.shaped (PyData.bool b)) = true then Res.ok (D.bl (PyData.eqv (.bool a) (.bool b))) s else .bad) = _
  rw [if_pos (by rfl)]
  cases a <;> cases b <;> simp [PyData.eqv]
theorem x_neB {a b : Bool} {s : S} : neM (.bl a) (.bl b) s = .ok (.bl (!decide (a = b))) s := by
  show (if (SeqAt.shaped (PyData.bool a) && SeqAt.shaped (PyData.bool b)) = true then Res.ok (D.bl (!PyData.eqv (.bool a) (.bool b))) s else .bad) = _
  rw [if_pos (by rfl)]
  cases a <;> cases b <;> simp [PyData.eqv]
/-! plain values -/
inductive Pl where
  | non | int (i : Int) | str (cs : List Nat)
def Pl.d : Pl → D
  | .non => .non
  | .int i => .int i
  | .str cs => .str (tx cs)
/-- the order of plain values -/
def Pl.lt : Pl → Pl → Bool
  | .non, .non => false
  | .non, _ => true
  | _, .non => false
  | .int i, .int j => decide (i < j)
  | .int _, .str _ => true
  | .str _, .int _ => false
  | .str a, .str b => decide (a < b)
theorem Pl.nc (b : Nat) (p : Pl) : Fx.nc b p.d = true := by cases p <;> rfl
theorem Pl.ncL (b : Nat) (ps : List Pl) : Fx.ncL b (ps.map Pl.d) = true := by
  induction ps with
  | nil => rfl
  | cons p r ih =>
    show (Fx.nc b p.d && Fx.ncL b (r.map Pl.d)) = true
    rw [Pl.nc, ih]; rfl
theorem isa_int_NoneType : isaT "int" "NoneType" = false := by decide
theorem isa_int_bool : isaT "int" "bool" = true := by decide
theorem isa_int_int : isaT "int" "int" = true := by decide
theorem isa_int_str : isaT "int" "str" = false := by decide
theorem isa_int_tuple : isaT "int" "tuple" = false := by decide
theorem isa_int_list : isaT "int" "list" = false := by decide
theorem isa_int_dict : isaT "int" "dict" = false := by decide
theorem isa_bool_NoneType : isaT "bool" "NoneType" = false := by decide
theorem isa_bool_bool : isaT "bool" "bool" = true := by decide
theorem isa_bool_int : isaT "bool" "int" = false := by decide
theorem isa_bool_str : isaT "bool" "str" = false := by decide
theorem isa_bool_tuple : isaT "bool" "tuple" = false := by decide
theorem isa_bool_list : isaT "bool" "list" = false := by decide
theorem isa_bool_dict : isaT "bool" "dict" = false := by decide
theorem isa_str_NoneType : isaT "str" "NoneType" = false := by decide
theorem isa_str_bool : isaT "str" "bool" = false := by decide
theorem isa_str_int : isaT "str" "int" = false := by decide
theorem isa_str_str : isaT "str" "str" = true := by decide
theorem isa_str_tuple : isaT "str" "tuple" = false := by decide
theorem isa_str_list : isaT "str" "list" = false := by decide
theorem isa_str_dict : isaT "str" "dict" = false := by decide
theorem isa_tuple_NoneType : isaT "tuple" "NoneType" = false := by decide
theorem isa_tuple_bool : isaT "tuple" "bool" = false := by decide
theorem isa_tuple_int : isaT "tuple" "int" = false := by decide
theorem isa_tuple_str : isaT "tuple" "str" = false := by decide
theorem isa_tuple_tuple : isaT "tuple" "tuple" = true := by decide
theorem isa_tuple_list : isaT "tuple" "list" = false := by decide
theorem isa_tuple_dict : isaT "tuple" "dict" = false := by decide
theorem isa_list_NoneType : isaT "list" "NoneType" = false := by decide
theorem isa_list_bool : isaT "list" "bool" = false := by decide
theorem isa_list_int : isaT "list" "int" = false := by decide
theorem isa_list_str : isaT "list" "str" = false := by decide
theorem isa_list_tuple : isaT "list" "tuple" = false := by decide
theorem isa_list_list : isaT "list" "list" = true := by decide
theorem isa_list_dict : isaT "list" "dict" = false := by decide
theorem isa_dict_NoneType : isaT "dict" "NoneType" = false := by decide
theorem isa_dict_bool : isaT "dict" "bool" = false := by decide
theorem isa_dict_int : isaT "dict" "int" = false := by decide
theorem isa_dict_str : isaT "dict" "str" = false := by decide
theorem isa_dict_tuple : isaT "dict" "tuple" = false := by decide
theorem isa_dict_list : isaT "dict" "list" = false := by decide
theorem isa_dict_dict : isaT "dict" "dict" = true := by decide
theorem x_is1 {s : S} : isM .non .non s = .ok (.bl true) s := nr rfl
theorem x_is2 {i : Int} {s : S} : isM (.int i) .non s = .ok (.bl false) s := nr rfl
theorem x_is3 {i : Str} {s : S} : isM (.str i) .non s = .ok (.bl false) s := nr rfl
theorem x_is4 {i : List D} {s : S} : isM (.lst i) .non s = .ok (.bl false) s := nr rfl
theorem x_is5 {i : List D} {s : S} : isM (.tup i) .non s = .ok (.bl false) s := nr rfl
theorem x_isn1 {s : S} : isnotM .non .non s = .ok (.bl false) s := nr rfl
theorem x_isn2 {i : Int} {s : S} : isnotM (.int i) .non s = .ok (.bl true) s := nr rfl
theorem x_isn3 {i : Str} {s : S} : isnotM (.str i) .non s = .ok (.bl true) s := nr rfl
theorem x_isn4 {i : List D} {s : S} : isnotM (.lst i) .non s = .ok (.bl true) s := nr rfl
theorem x_isn5 {i : List D} {s : S} : isnotM (.tup i) .non s = .ok (.bl true) s := nr rfl
/-! append to the list that is the last cell -/
theorem x_meth {T : String} {f : M D} {fs : M (List D)} {g : D → List D → M D} {s : S} : methM T f fs g s = (f s).then' fun d s => if isTy T s d = true then bnd fs (fun ds => g d ds) s else .bad := nr rfl
theorem last_cell {vh : List Cell} {c : Cell} : (vh ++ [c])[vh.length]? = some c := by simp
theorem isTy_last {l : List (Option D)} {vh : List Cell} {ds : List D} : isTy "list" ⟨l, vh ++ [.lst ds]⟩ (.cell vh.length) = true := by
  unfold isTy lstOf
  simp [last_cell]
/-- the codes of a written text -/
def cd (s : String) : List Nat := (Str.ofString s).cps.toList
theorem lit (s : String) : Str.ofString s = tx (cd s) := (tx_of _).symm
theorem cd_nil : cd "" = [] := by decide +kernel
/-- ranks -/
def Pl.rank : Pl → D
  | .non => .tup [.int 0, .int 0, .str (tx [])]
  | .int i => .tup [.int 1, .int i, .str (tx [])]
  | .str cs => .tup [.int 2, .int 0, .str (tx cs)]
/-! numbers of few bits -/
theorem x_lenTx {cs : List Nat} {s : S} (h : cs.length ≤ 16777216) : lenM [.str (tx cs)] s = .ok (.int cs.length) s := by rw [x_lenS (by rw [tx_len]; exact lenOk_of h), tx_len]
theorem x_addTx {a b : List Nat} {s : S} (h : a.length + b.length ≤ 16777216) : addM (.str (tx a)) (.str (tx b)) s = .ok (.str (tx (a ++ b))) s := by rw [x_addS, tx_len, tx_len, if_pos (lenOk_of h), tx_app]
theorem x_slVTx {cs : List Nat} {l u : Option Int} {s : S} (h : cs.length ≤ 16777216) : slV (.str (tx cs)) l u s = .ok (.str (cutS (tx cs) l u)) s := by rw [x_slVS, tx_len, if_pos (lenOk_of h)]
theorem cutS_drop1 (cs : List Nat) (n : Nat) : cutS (tx cs) (some ((n : Int) + 1)) none = tx (cs.drop (n + 1)) := cutS_drop cs (n + 1)
end Fx

/-! Fx: more for reckoning -/
namespace Fx
open PySem PySem.Spec PyProof.Rows L2
/-- a def that made cells of its own and hands back a datum without them -/
theorem runP_more {n : Nat} {g : M Out} {ds : List D} {vh : List Cell} {d : D} (h : ∃ l more, g (initS n ds vh) = .ok (.rt d) ⟨l, vh ++ more⟩) (hn : nc vh.length d = true) : runP n g ds vh = some d := by
  obtain ⟨l, more, h⟩ := h
  unfold runP
  rw [h]
  show fin vh ⟨l, vh ++ more⟩ d = some d
  unfold fin
  rw [if_pos (by show (vh ++ more).take vh.length = vh; exact List.take_left)]
  unfold thaw
  rw [if_pos hn]
theorem x_lk0 : lenOk 0 = true := lenOk_of (by decide)
theorem x_lk1 : lenOk 1 = true := lenOk_of (by decide)
theorem x_lk2 : lenOk 2 = true := lenOk_of (by decide)
theorem x_lk3 : lenOk 3 = true := lenOk_of (by decide)
theorem x_lk4 : lenOk 4 = true := lenOk_of (by decide)
theorem x_lisL {ds : List D} {s : S} : listN [.lst ds] s = .ok (.lst ds) s := nr rfl
theorem x_lisT {ds : List D} {s : S} : listN [.tup ds] s = .ok (.lst ds) s := nr rfl
end Fx

/-! Fx: the order of plain values, plainly -/
namespace Fx
open PySem PySem.Spec PyProof.Rows L2
instance : DecidableEq Pl
  | .non, .non => .isTrue rfl
  | .int i, .int j => if h : i = j then .isTrue (by rw [h]) else .isFalse fun z => h (by cases z; rfl)
  | .str i, .str j => if h : i = j then .isTrue (by rw [h]) else .isFalse fun z => h (by cases z; rfl)
  | .non, .int _ | .non, .str _ | .int _, .non | .int _, .str _ | .str _, .non | .str _, .int _ => .isFalse fun z => by cases z
theorem Pl.irr (p : Pl) : p.lt p = false := by
  cases p with
  | non => rfl
  | int i => simp [Pl.lt]
  | str cs => exact decide_eq_false (List.lt_irrefl cs)
theorem Pl.tr {a b c : Pl} (h : a.lt b = true) (h2 : b.lt c = true) : a.lt c = true := by
  cases a <;> cases b <;> cases c <;> first
    | rfl
    | (simp [Pl.lt] at h; done)
    | (simp [Pl.lt] at h2; done)
    | (simp [Pl.lt] at h h2 ⊢; omega)
    | (simp only [Pl.lt, decide_eq_true_eq] at h h2 ⊢; exact List.lt_trans h h2)
theorem Pl.tri (a b : Pl) : a.lt b = true ∨ a = b ∨ b.lt a = true := by
  cases a with
  | non => cases b <;> first | exact .inr (.inl rfl) | exact .inl rfl
  | int i =>
    cases b with
    | non => exact .inr (.inr rfl)
    | int j =>
      rcases Int.lt_trichotomy i j with h | h | h
      · exact .inl (decide_eq_true h)
      · exact .inr (.inl (by rw [h]))
      · exact .inr (.inr (decide_eq_true h))
    | str c => exact .inl rfl
  | str x =>
    cases b with
    | non => exact .inr (.inr rfl)
    | int j => exact .inr (.inr rfl)
    | str y =>
      by_cases h : x < y
      · exact .inl (decide_eq_true h)
      · by_cases h2 : y < x
        · exact .inr (.inr (decide_eq_true h2))
        · exact .inr (.inl (by rw [List.le_antisymm (List.not_lt.mp h2) (List.not_lt.mp h)]))
/-- not after -/
def Pl.le (a b : Pl) : Bool := !b.lt a
theorem Pl.le_trans {a b c : Pl} (h : a.le b = true) (h2 : b.le c = true) : a.le c = true := by
  unfold Pl.le at *
  cases q : c.lt a with
  | false => rfl
  | true =>
    rcases Pl.tri b c with h3 | h3 | h3
    · rw [Pl.tr h3 q] at h; cases h
    · rw [h3, q] at h; cases h
    · rw [h3] at h2; cases h2
/-! what == sees of them -/
def Pl.py : Pl → PyData
  | .non => .none
  | .int i => .int i
  | .str cs => .str (tx cs)
def Pl.ok : Pl → Prop
  | .str cs => ∀ c ∈ cs, c < 1114112
  | _ => True
theorem strOk_tx {cs : List Nat} (h : ∀ c ∈ cs, c < 1114112) : PySem.PyData.strOk (tx cs) = true := by
  show (cs.toArray.all fun c => decide (c < 0x110000)) = true
  rw [List.all_toArray, List.all_eq_true]
  exact fun c hc => decide_eq_true (h c hc)
theorem Pl.pyT (p : Pl) : Fx.pyT p.d = some p.py := by cases p <;> rfl
theorem Pl.pyL : ∀ ps : List Pl, Fx.pyL (ps.map Pl.d) = some (ps.map Pl.py)
  | [] => rfl
  | p :: ps => by rw [List.map_cons, Fx.pyL, Pl.pyT, Pl.pyL ps]; rfl
theorem Pl.can {p : Pl} (h : p.ok) : p.py.canLay0 = true := by
  cases p with
  | str cs => exact strOk_tx h
  | _ => rfl
theorem Pl.canL : ∀ {ps : List Pl}, (∀ p ∈ ps, p.ok) → PyData.canLayAll0 (ps.map Pl.py) = true
  | [], _ => rfl
  | p :: ps, h => by
    rw [List.map_cons, PyData.canLayAll0, Pl.can (h p List.mem_cons_self), Pl.canL fun q hq => h q (List.mem_cons_of_mem _ hq)]
    rfl
theorem Pl.dep (p : Pl) : p.py.depth = 0 := by cases p <;> rfl
theorem Pl.depL : ∀ ps : List Pl, PyData.depthAll (ps.map Pl.py) = 0
  | [] => rfl
  | p :: ps => by rw [List.map_cons, PyData.depthAll, Pl.dep, Pl.depL ps]; rfl
theorem Pl.shaped {p : Pl} (h : p.ok) : SeqAt.shaped p.py = true := by
  unfold SeqAt.shaped
  rw [Pl.can h, Pl.dep]; rfl
theorem Pl.shapedL {ps : List Pl} (h : ∀ p ∈ ps, p.ok) : SeqAt.shaped (.list (ps.map Pl.py)) = true := by
  unfold SeqAt.shaped PyData.canLay0 PyData.depth
  rw [Pl.canL h, Pl.depL]; rfl
theorem Pl.eqv (a b : Pl) : PyData.eqv a.py b.py = decide (a = b) := by
  cases a <;> cases b <;> first
    | (simp [Pl.py, PyData.eqv]; done)
    | (simp only [Pl.py, PyData.eqv]
       refine Eq.symm ?_
       rename_i x y
       by_cases h : x = y
       · subst h; simp
       · rw [decide_eq_false (fun z => h (by cases z; rfl))]
         refine Eq.symm (Bool.eq_false_iff.mpr fun z => h ?_)
         first | exact tx_inj (eq_of_beq z) | exact eq_of_beq z)
theorem Pl.eqvL : ∀ as bs : List Pl, PyData.eqvAll (as.map Pl.py) (bs.map Pl.py) = decide (as = bs)
  | [], [] => rfl
  | [], b :: bs => by simp [PyData.eqvAll]
  | a :: as, [] => by simp [PyData.eqvAll]
  | a :: as, b :: bs => by
    rw [List.map_cons, List.map_cons, PyData.eqvAll, Pl.eqv, Pl.eqvL as bs]
    by_cases h : a = b
    · by_cases h2 : as = bs
      · simp [h, h2]
      · simp [h, h2]
    · simp [h]
theorem pyD_pls {s : S} {ps : List Pl} : pyD s (.lst (ps.map Pl.d)) = some (.list (ps.map Pl.py)) := by
  show Fx.pyT _ = _
  unfold Fx.pyT
  rw [Pl.pyL]; rfl
theorem x_eqPls {as bs : List Pl} {s : S} (ha : ∀ p ∈ as, p.ok) (hb : ∀ p ∈ bs, p.ok) : eqM (.lst (as.map Pl.d)) (.lst (bs.map Pl.d)) s = .ok (.bl (decide (as = bs))) s := by
  show eqD _ _ s = _
  unfold eqD
  rw [pyD_pls, pyD_pls]
  dsimp only
  rw [Pl.shapedL ha, Pl.shapedL hb, PyData.eqv, Pl.eqvL]
  rfl
theorem x_nePls {as bs : List Pl} {s : S} (ha : ∀ p ∈ as, p.ok) (hb : ∀ p ∈ bs, p.ok) : neM (.lst (as.map Pl.d)) (.lst (bs.map Pl.d)) s = .ok (.bl (!decide (as = bs))) s := by
  show neD _ _ s = _
  unfold neD
  rw [pyD_pls, pyD_pls]
  dsimp only
  rw [Pl.shapedL ha, Pl.shapedL hb, PyData.eqv, Pl.eqvL]
  rfl
/-! ### sorted by a key that ranks as they do -/
/-! ### the rank (0, 0, ''), (1, n, ''), (2, 0, text) -/
def Pl.key : Pl → PyData
  | .non => .tuple [.int 0, .int 0, .str (Str.ofString "")]
  | .int i => .tuple [.int 1, .int i, .str (Str.ofString "")]
  | .str cs => .tuple [.int 2, .int 0, .str (tx cs)]
/-! ### rising keys -/
def Rise (ks : List Pl) : Prop := ks.Pairwise fun a b => a.lt b = true
theorem Rise.at {ks : List Pl} (h : Rise ks) {i j : Nat} (hi : i < ks.length) (hj : j < ks.length) (hij : i < j) : ks[i].lt ks[j] = true := List.pairwise_iff_getElem.mp h i j hi hj hij
end Fx

/-! Fx: plain values put in order one by one, plainly -/
namespace Fx
open PySem PySem.Spec PyProof.Rows L2
/-- rising rows with the same members are the same -/
theorem Rise.ext : ∀ {as bs : List Pl}, Rise as → Rise bs → (∀ x, x ∈ as ↔ x ∈ bs) → as = bs
  | [], [], _, _, _ => rfl
  | [], b :: bs, _, _, h => by have := (h b).mpr List.mem_cons_self; cases this
  | a :: as, [], _, _, h => by have := (h a).mp List.mem_cons_self; cases this
  | a :: as, b :: bs, ha, hb, h => by
    have a1 := List.pairwise_cons.mp ha
    have b1 := List.pairwise_cons.mp hb
    have e : a = b := by
      rcases List.mem_cons.mp ((h a).mp List.mem_cons_self) with h1 | h1
      · exact h1
      · rcases List.mem_cons.mp ((h b).mpr List.mem_cons_self) with h2 | h2
        · exact h2.symm
        · have q1 := b1.1 a h1
          have q2 := Pl.tr q1 (a1.1 b h2)
          rw [Pl.irr] at q2; cases q2
    subst e
    congr 1
    refine Rise.ext a1.2 b1.2 fun x => ⟨fun hx => ?_, fun hx => ?_⟩
    · rcases List.mem_cons.mp ((h x).mp (List.mem_cons_of_mem _ hx)) with rfl | h1
      · have := a1.1 x hx
        rw [Pl.irr] at this; cases this
      · exact h1
    · rcases List.mem_cons.mp ((h x).mpr (List.mem_cons_of_mem _ hx)) with rfl | h1
      · have := b1.1 x hx
        rw [Pl.irr] at this; cases this
      · exact h1
end Fx

/-! Fx: objects of own classes, their fields and methods; promises of other kinds -/
namespace Fx
open PySem PySem.Spec PyProof.Rows L2
variable {X : Cx} {W : WX}
/-! ### one of two readings -/
def altM {α : Type} (f g : M α) : M α := fun s => match f s with
  | .bad => g s
  | r => r
theorem alt_is {α : Type} (f g : M α) (s : S) : altM f g s = f s ∨ altM f g s = g s := by
  unfold altM
  cases f s with
  | bad => exact .inr rfl
  | ok a s' => exact .inl rfl
  | exc e s' => exact .inl rfl
theorem pe_either {e : Expr} {t u : TE} (h : PE X e t) (k : PE X e u) : PE X e (fun σ H Q => t σ H Q ∨ u σ H Q) :=
  ⟨fun pins s σ H Q I q => q.elim (h.run pins s σ H Q I) (k.run pins s σ H Q I)⟩
theorem de_or2 {e : Expr} {f g h : M D} (a : DE X W e f) (b : DE X W e g) (c : ∀ s, h s = f s ∨ h s = g s) : DE X W e h := by
  obtain ⟨t, p, r⟩ := a
  obtain ⟨u, q, k⟩ := b
  refine ⟨_, pe_either p q, fun w H σ s Q R z => ?_⟩
  rcases c s with e | e
  · rw [e] at z; exact .inl (r w H σ s Q R z)
  · rw [e] at z; exact .inr (k w H σ s Q R z)
theorem dn_or2 {e : Expr} {f g h : M Cell} (a : DN X W e f) (b : DN X W e g) (c : ∀ s, h s = f s ∨ h s = g s) : DN X W e h := by
  obtain ⟨t, p, r⟩ := a
  obtain ⟨u, q, k⟩ := b
  refine ⟨_, pe_either p q, fun w H σ s Q R z => ?_⟩
  rcases c s with e | e
  · rw [e] at z; exact .inl (r w H σ s Q R z)
  · rw [e] at z; exact .inr (k w H σ s Q R z)
theorem de_alt {e : Expr} {f g : M D} (a : DE X W e f) (b : DE X W e g) : DE X W e (altM f g) := de_or2 a b (alt_is f g)
theorem dt_or2 {e : Expr} {f g h : M Bool} (a : DT X W e f) (b : DT X W e g) (c : ∀ s, h s = f s ∨ h s = g s) : DT X W e h := by
  obtain ⟨t, p, r⟩ := a
  obtain ⟨u, q, k⟩ := b
  refine ⟨fun σ H Q => t σ H Q ∨ u σ H Q, ⟨fun pins s σ H Q I z => z.elim (p.run pins s σ H Q I) (q.run pins s σ H Q I)⟩, fun w H σ s Q R z => ?_⟩
  rcases c s with e | e
  · rw [e] at z; exact .inl (r w H σ s Q R z)
  · rw [e] at z; exact .inr (k w H σ s Q R z)
/-! ### fields -/
def clsIn (K : PySem.W.Frag) (x : Str) (C : Addr) : Prop := PySem.W.nsIn K mainGlobals x = some (some (.ref C))
theorem clsIn.eq {K : PySem.W.Frag} {x : Str} {C C' : Addr} (h : clsIn K x C) (h' : clsIn K x C') : C' = C := by
  unfold clsIn at h h'
  rw [h] at h'
  cases h'
  rfl
def ClsP (K : PySem.W.Frag) (x : Str) : Prop := ∀ C, clsIn K x C → Cls K C
def NoA (K : PySem.W.Frag) (x f : Str) : Prop := ∀ C, clsIn K x C → NoAttr K C f
def objOf (s : S) (x : Str) : D → Option (List (Str × D))
  | .cell n => match s.vh[n]? with
    | some (.obj y fs) => if y = x then some fs else none
    | _ => none
  | _ => none
section
variable {K : PySem.W.Frag} {w : Wd} {H : Hp} {σ : L2.St} {s : S} {v : V} {d : D}
theorem RS.obj (R : RS K w H σ s) (r : Rep K w v d) {x : Str} {fs : List (Str × D)} (h : objOf s x d = some fs) : ∃ n a C dx vs, d = .cell n ∧ v = .ref a ∧ s.vh[n]? = some (.obj x fs) ∧ w.ρ[n]? = some a ∧ clsIn K x C ∧ H a = some (.ins C dx vs) ∧ RepF K w vs fs := by
  cases r with
  | @cell a n h1 =>
    obtain ⟨c, e, hc⟩ := R.cellOf h1
    unfold objOf at h
    simp only [e] at h
    cases c with
    | lst xs => simp at h
    | dct _ => simp at h
    | dctL _ _ _ => simp at h
    | dctN _ _ => simp at h
    | obj y gs =>
      simp only at h
      split at h
      · next q => cases h; subst q; obtain ⟨C, dx, vs, h2, h3, h4⟩ := hc; exact ⟨n, a, C, dx, vs, rfl, rfl, e, h1, h2, h3, h4⟩
      · cases h
  | _ => simp [objOf] at h
theorem RepF.lookup : ∀ {vs : List (Str × V)} {fs : List (Str × D)} {f : Str} {d : D}, RepF K w vs fs → fs.lookup f = some d → ∃ v, vs.lookup f = some v ∧ Rep K w v d
  | _, _, f, d, .nil, e => by cases e
  | _, _, f, d, .cons (k := k) h t, e => by
    rw [List.lookup_cons] at e ⊢
    cases q : f == k with
    | true => rw [q] at e; cases e; exact ⟨_, rfl, h⟩
    | false => rw [q] at e; exact RepF.lookup t e
theorem RepF.lookN : ∀ {vs : List (Str × V)} {fs : List (Str × D)} {f : Str}, RepF K w vs fs → fs.lookup f = none → vs.lookup f = none
  | _, _, f, .nil, _ => rfl
  | _, _, f, .cons (k := k) h t, e => by
    rw [List.lookup_cons] at e ⊢
    cases q : f == k with
    | true => rw [q] at e; cases e
    | false => rw [q] at e; exact RepF.lookN t e
theorem RepF.length : ∀ {vs : List (Str × V)} {fs : List (Str × D)}, RepF K w vs fs → vs.length = fs.length
  | _, _, .nil => rfl
  | _, _, .cons _ t => by simp only [List.length_cons]; rw [RepF.length t]
def putD (f : Str) (v : D) : List (Str × D) → List (Str × D)
  | [] => [(f, v)]
  | (g, x) :: r => if g = f then (g, v) :: r else (g, x) :: putD f v r
theorem RepF.put (r : Rep K w v d) {f : Str} : ∀ {vs : List (Str × V)} {fs : List (Str × D)}, RepF K w vs fs → RepF K w (putF f v vs) (putD f d fs)
  | _, _, .nil => .cons r .nil
  | _, _, .cons (k := k) h t => by
    unfold putF putD
    split
    · exact .cons r t
    · exact .cons h (RepF.put r t)
end
def fldM (x f : Str) (d : D) : M D := fun s => match objOf s x d with
  | some fs => match fs.lookup f with
    | some v => .ok v s
    | none => .bad
  | none => .bad
theorem de_fld {x f : Str} {e : Expr} {fe : M D} {pos : Pos} (hc : ClsP X.K x) (hn : NoA X.K x f) (h : DE X W e fe) (hb : attributeBase e f X.env (eval e X.env) = eval e X.env := by rfl) : DE X W (.Attribute e f pos) (bnd fe (fldM x f)) := by
  obtain ⟨t, p, r⟩ := h
  refine ⟨_, pe_fld p hb, fun w H σ s Q R z => ?_⟩
  refine r.bnd R z fun d s1 w1 H1 v l1 R1 r1 p1 => ?_
  unfold fldM at p1
  split at p1
  · next fs hf =>
    obtain ⟨n, a, C, dx, vs, rfl, rfl, h1, h2, h3, h4, h5⟩ := R1.obj r1 hf
    split at p1
    · next u hu =>
      obtain ⟨y, h6, h7⟩ := RepF.lookup h5 hu
      exact ⟨a, C, dx, vs, y, rfl, h4, hc C h3, hn C h3, h6, Post.here p1 R1 h7⟩
    · exact p1.elim
  · exact p1.elim
def stoM (x f : Str) (v : D) (d : D) : M Out := fun s => match d, objOf s x d with
  | .cell n, some fs => if fs.length < 1000 then .ok .nx ⟨s.loc, s.vh.set n (.obj x (putD f v fs))⟩ else .bad
  | _, _ => .bad
def fldS (x f : Str) (fo fv : M D) : M Out := bnd fv fun v => bnd fo fun d => stoM x f v d
theorem ds_fld {x f : Str} {o value : Expr} {fo fv : M D} {pos' pos : Pos} (hc : ClsP X.K x) (hn : NoA X.K x f) (ho : DE X W o fo) (hv : DE X W value fv) (hs : swapsWith value (some (.Attribute o f pos')) pos.line X.env = pure false := by rfl) : DS X W (.Assign [.Attribute o f pos'] value pos) (fldS x f fo fv) := by
  obtain ⟨t, p, r⟩ := ho
  obtain ⟨u, q, k⟩ := hv
  refine ⟨_, ps_fld p q hs, fun w H σ s D R z => ?_⟩
  refine k.bndS R z fun v s1 w1 H1 y l1 R1 r1 p1 => ?_
  refine r.bndS R1 p1 fun d s2 w2 H2 b l2 R2 r2 p2 => ?_
  unfold stoM at p2
  split at p2
  · next n fs hf =>
    obtain ⟨n', a, C, dx, vs, e0, rfl, h1, h2, h3, h4, h5⟩ := R2.obj r2 hf
    cases e0
    split at p2
    · next hl =>
      refine ⟨a, C, dx, vs, rfl, h4, hc C h3, hn C h3, by rw [RepF.length h5]; exact hl, ?_⟩
      exact p2 w2 _ σ (Le.write (List.mem_of_getElem? h2)) (R2.setCell h2 ⟨C, dx, _, h3, upd_same, RepF.put (r1.up l2) h5⟩)
    · exact p2.elim
  · exact p2.elim
/-! ### a call answers a promise -/
def Ans {α : Type} (K : PySem.W.Frag) (P : Pr V α) (sp : Sp) (g : List D → M α) : Prop := ∀ (W : WX) w H σ s vs ds Q, RS K w H σ s → RepL K w vs ds → Post K W P w H σ (g ds s) Q → sp vs H Q E0
/-- a def or method that hands back a new list or dict of its own, and changes nothing -/
abbrev Nf := List D → List Cell → Option Cell
def ncC (b : Nat) : Cell → Bool
  | .lst ds => ncL b ds
  | .dct kvs => kvs.all fun kv => nc b kv.2
  | .dctL _ _ kvs => kvs.all fun kv => nc b kv.2
  | .dctN _ kvs => kvs.all fun kv => nc b kv.2
  | .obj _ fs => fs.all fun kv => nc b kv.2
open Classical in
noncomputable def finN (vh : List Cell) (s : S) : D → Option Cell
  | .cell n => if s.vh.take vh.length = vh then (if vh.length ≤ n then (match s.vh[n]? with
    | some c => if ncC vh.length c = true then some c else none
    | none => none) else none) else none
  | _ => none
noncomputable def runN (n : Nat) (g : M Out) : Nf := fun ds vh => match g (initS n ds vh) with
  | .ok (.rt d) s => finN vh s d
  | _ => none
def SpN (K : PySem.W.Frag) (n : Nat) (F : Nf) : Sp := fun vs H Q _ => vs.length = n ∧ ∃ w σ s ds c, RS K w H σ s ∧ RepL K w vs ds ∧ F ds s.vh = some c ∧ ∀ w' H' v, Le w H w' H' → RS K w' H' σ s → (pN K).p H w' H' v c → Q v H'
def callN (n : Nat) (F : Nf) (ds : List D) : M Cell := fun s => if ds.length = n then match F ds s.vh with
  | some c => .ok c s
  | none => .bad else .bad
theorem ans_P {K : PySem.W.Frag} {n : Nat} {F : Pf} : Ans K (pD K) (SpP K n F) (callP n F) := fun W w H σ s vs ds Q R r p => by
  unfold callP at p
  split at p
  · next hl =>
    cases hF : F ds s.vh with
    | none => rw [hF] at p; exact p.elim
    | some d => rw [hF] at p; exact ⟨by rw [RepL.length r]; exact hl, w, σ, s, ds, d, R, r, hF, fun w' H' v l R' r' => p w' H' v l R' r'⟩
  · exact p.elim
theorem ans_S {K : PySem.W.Frag} {n : Nat} {F : Sf} : Ans K (pD K) (SpS K n F) (callS n F) := fun W w H σ s vs ds Q R r p => by
  unfold callS at p
  split at p
  · next hl =>
    cases hF : F ds s.vh with
    | none => rw [hF] at p; exact p.elim
    | some dv => obtain ⟨d, vh⟩ := dv; rw [hF] at p; exact ⟨by rw [RepL.length r]; exact hl, w, σ, s, ds, d, vh, R, r, hF, fun w' H' v l R' r' => p w' H' v l R' r'⟩
  · exact p.elim
theorem ans_N {K : PySem.W.Frag} {n : Nat} {F : Nf} : Ans K (pN K) (SpN K n F) (callN n F) := fun W w H σ s vs ds Q R r p => by
  unfold callN at p
  split at p
  · next hl =>
    cases hF : F ds s.vh with
    | none => rw [hF] at p; exact p.elim
    | some c => rw [hF] at p; exact ⟨by rw [RepL.length r]; exact hl, w, σ, s, ds, c, R, r, hF, fun w' H' v l R' r' => p w' H' v l R' r'⟩
  · exact p.elim
/-! ### behind a def: its own cells are forgotten -/
section
variable {K : PySem.W.Frag} {w w0 : Wd} {H H0 : Hp} {σ σ0 : L2.St} {s s0 : S} {b : Nat}
def Wd.cut (w : Wd) (b : Nat) : Wd := ⟨w.ρ.take b, w.F⟩
mutual
theorem cut_rep : ∀ {v : V} {d : D}, Rep K w v d → nc b d = true → Rep K (w.cut b) v d
  | _, _, .non, _ => .non
  | _, _, .bl x, _ => .bl x
  | _, _, .int i, _ => .int i
  | _, _, .str x, _ => .str x
  | _, _, .ref a, _ => .ref a
  | _, _, .emp h, _ => .emp h
  | _, _, .err h t, c => .err h (cut_repL t (by simpa [nc] using c))
  | _, _, .tup h t, c => .tup h (cut_repL t (by simpa [nc] using c))
  | _, _, .pr h r q, c => by
    unfold nc at c
    rw [Bool.and_eq_true] at c
    exact .pr h (cut_rep r c.1) (cut_rep q c.2)
  | _, _, .lst h t, c => .lst h (cut_repL t (by simpa [nc] using c))
  | _, _, .cell (n := n) h, c => .cell (by
      have hn : n < b := by simpa [nc] using c
      show (w.ρ.take b)[n]? = _
      rw [List.getElem?_take, if_pos hn]; exact h)
theorem cut_repL : ∀ {vs : List V} {ds : List D}, RepL K w vs ds → ncL b ds = true → RepL K (w.cut b) vs ds
  | _, _, .nil, _ => .nil
  | _, _, .cons h t, c => by
    have c : (nc b _ && ncL b _) = true := c
    rw [Bool.and_eq_true] at c
    exact .cons (cut_rep h c.1) (cut_repL t c.2)
end
theorem cut_repK : ∀ {vs : List (Key × V)} {ds : List (Key × D)}, RepK K w vs ds → (ds.all fun kv => nc b kv.2) = true → RepK K (w.cut b) vs ds
  | _, _, .nil, _ => .nil
  | _, _, .cons h t, c => by
    rw [List.all_cons, Bool.and_eq_true] at c
    exact .cons (cut_rep h c.1) (cut_repK t c.2)
theorem cut_repF : ∀ {vs : List (Str × V)} {ds : List (Str × D)}, RepF K w vs ds → (ds.all fun kv => nc b kv.2) = true → RepF K (w.cut b) vs ds
  | _, _, .nil, _ => .nil
  | _, _, .cons h t, c => by
    rw [List.all_cons, Bool.and_eq_true] at c
    exact .cons (cut_rep h c.1) (cut_repF t c.2)
theorem cut_repN : ∀ {xs : NX} {ds : List (NestedKey × D)}, RepN K w xs ds → (ds.all fun kv => nc b kv.2) = true → RepN K (w.cut b) xs ds
  | _, _, .nil, _ => .nil
  | _, _, .cons hk hq r ru h t, c => by
    rw [List.all_cons, Bool.and_eq_true] at c
    exact .cons hk hq (cut_rep r (nk_nc hk)) ru (cut_rep h c.1) (cut_repN t c.2)
theorem cut_cell {a : Addr} {c : Cell} (h : CellIs K w H a c) (hc : ncC b c = true) : CellIs K (w.cut b) H a c := by
  cases c with
  | lst ds => obtain ⟨vs, h1, h2⟩ := h; exact ⟨vs, h1, cut_repL h2 hc⟩
  | dct kvs => obtain ⟨vs, h1, h2⟩ := h; exact ⟨vs, h1, cut_repK h2 hc⟩
  | dctL o us kvs => obtain ⟨h1, h2⟩ := h; exact ⟨h1, cut_repK h2 hc⟩
  | dctN wd kvs => obtain ⟨xs, h1, h2⟩ := h; exact ⟨xs, h1, cut_repN h2 hc⟩
  | obj x fs => obtain ⟨C, dx, vs, h0, h1, h2⟩ := h; exact ⟨C, dx, vs, h0, h1, cut_repF h2 hc⟩
theorem nc_ofK : ∀ {vs : List (Key × V)} {ds : List (Key × D)}, RepK K w0 vs ds → w0.ρ.length ≤ b → (ds.all fun kv => nc b kv.2) = true
  | _, _, .nil, _ => rfl
  | _, _, .cons h t, c => by
    rw [List.all_cons, nc_of h c, nc_ofK t c]; rfl
theorem nc_ofF : ∀ {vs : List (Str × V)} {ds : List (Str × D)}, RepF K w0 vs ds → w0.ρ.length ≤ b → (ds.all fun kv => nc b kv.2) = true
  | _, _, .nil, _ => rfl
  | _, _, .cons h t, c => by
    rw [List.all_cons, nc_of h c, nc_ofF t c]; rfl
theorem nc_ofN : ∀ {xs : NX} {ds : List (NestedKey × D)}, RepN K w0 xs ds → w0.ρ.length ≤ b → (ds.all fun kv => nc b kv.2) = true
  | _, _, .nil, _ => rfl
  | _, _, .cons _ _ _ _ h t, c => by
    rw [List.all_cons, nc_of h c, nc_ofN t c]; rfl
theorem ncC_of {a : Addr} {c : Cell} (h : CellIs K w0 H0 a c) (hb : w0.ρ.length ≤ b) : ncC b c = true := by
  cases c with
  | lst ds => obtain ⟨vs, h1, h2⟩ := h; exact nc_ofL h2 hb
  | dct kvs => obtain ⟨vs, h1, h2⟩ := h; exact nc_ofK h2 hb
  | dctL o us kvs => obtain ⟨h1, h2⟩ := h; exact nc_ofK h2 hb
  | dctN wd kvs => obtain ⟨xs, h1, h2⟩ := h; exact nc_ofN h2 hb
  | obj x fs => obtain ⟨C, dx, vs, h0, h1, h2⟩ := h; exact nc_ofF h2 hb
theorem RS.ncs (R0 : RS K w0 H0 σ0 s0) : ∀ c ∈ s0.vh, ncC s0.vh.length c = true := fun c hc => by
  obtain ⟨n, hn, e⟩ := List.mem_iff_getElem.mp hc
  obtain ⟨a, _, h⟩ := R0.addrOf (n := n) (c := c) (by rw [List.getElem?_eq_getElem hn, e])
  exact ncC_of h (Nat.le_of_eq R0.cl)
theorem RS.cut (R0 : RS K w0 H0 σ0 s0) (l : Le w0 H0 w H) (R : RS K w H σ s) (hb : b = s0.vh.length) (hl : b ≤ s.vh.length) (hc : ∀ c ∈ s.vh.take b, ncC b c = true) : Le w0 H0 (w.cut b) H ∧ RS K (w.cut b) H σ0 ⟨s0.loc, s.vh.take b⟩ := by
  subst hb
  have hlen : s0.vh.length ≤ w.ρ.length := by rw [R.cl]; exact hl
  have le : w0.le (w.cut s0.vh.length) := ⟨fun n a e => by
    have hn : n < s0.vh.length := by rw [← R0.cl]; exact (List.getElem?_eq_some_iff.mp e).1
    show (w.ρ.take s0.vh.length)[n]? = some a
    rw [List.getElem?_take, if_pos hn]; exact l.le.1 n a e, l.le.2⟩
  refine ⟨⟨le, l.keep, fun a h => l.newρ a (List.mem_of_mem_take h), l.newF⟩, R.sub, R0.len, fun i d e => ?_, ?_, R.nd.sublist (List.take_sublist _ _), fun a ha => R.out a (List.mem_of_mem_take ha), fun n a c e1 e2 => ?_⟩
  · obtain ⟨v, h1, h2⟩ := R0.loc i d e
    exact ⟨v, h1, h2.upW le⟩
  · show (w.ρ.take s0.vh.length).length = (s.vh.take s0.vh.length).length
    rw [List.length_take, List.length_take]; omega
  · have e1 : (w.ρ.take s0.vh.length)[n]? = some a := e1
    have e2 : (s.vh.take s0.vh.length)[n]? = some c := e2
    have hm := List.mem_of_getElem? e2
    have hn : n < s0.vh.length := by
      have := (List.getElem?_eq_some_iff.mp e2).1
      rw [List.length_take] at this; omega
    rw [List.getElem?_take, if_pos hn] at e1 e2
    exact cut_cell (R.cells n a c e1 e2) (hc c hm)
end
open Classical in
/-- writes cells of its caller, what it made besides is forgotten -/
noncomputable def finW (b : Nat) (s : S) (d : D) : Option (D × List Cell) := if b ≤ s.vh.length then (if (s.vh.take b).all (ncC b) = true then (if nc b d = true then some (d, s.vh.take b) else none) else none) else none
noncomputable def runW (n : Nat) (g : M Out) : Sf := fun ds vh => match g (initS n ds vh) with
  | .ok (.rt d) s => finW vh.length s d
  | .ok .nx s => finW vh.length s .non
  | _ => none
section
variable {P : Program} {wd : World} {K : PySem.W.Frag} {mg : Str → Option Value} {base : Heap} {x qual : Str} {st : Stmt} {f : Addr} {fd : FuncData} {N ps : List Str} {k : Nat} {g : M Out}
theorem fn_new (F : Fun K x qual st f fd) (Sc : FnScope N ps (defScope st)) (hle : ps.length ≤ N.length)
    (body : ∀ (cdv : Value) (A : Around) (outer : List Env) (s : Shared) (H : Hp) (E : XK), Room k (A.deeper (envOfC qual (defScope st) s.heap.objs.size f cdv)) →
      DSs (cxOf CX0 P wd K mg base N qual (defScope st) f cdv A outer s H E).nox W0 (defBody st) g) : FnOk P wd K mg base CX0 (k + 1) f fd ps (SpN K ps.length (runN N.length g)) := by
  refine F.ok Sc (fun vs H Q E h => h.1) fun cdv A outer s H vs Q E hr h => ?_
  obtain ⟨t, p, r⟩ := body cdv A outer s H E hr
  obtain ⟨hl, w, σ, z, ds, c, R, rv, e, q⟩ := h
  refine ⟨t, p, r w H _ (initS N.length ds z.vh) _ (start_ok (ps := ps) R rv) ?_⟩
  show PostS K W0 w H (g (initS N.length ds z.vh)) _
  unfold runN at e
  cases hg : g (initS N.length ds z.vh) with
  | bad => rw [hg] at e; cases e
  | exc x s1 => rw [hg] at e; cases e
  | ok o s1 =>
    rw [hg] at e
    cases o with
    | brk => cases e
    | cnt => cases e
    | nx => cases e
    | rt d0 =>
      intro w' H' σ' v l R' rv
      cases d0 with
      | cell n =>
        unfold finN at e
        dsimp only at e
        by_cases h1 : s1.vh.take z.vh.length = z.vh
        · rw [if_pos h1] at e
          by_cases h2 : z.vh.length ≤ n
          · rw [if_pos h2] at e
            cases hc' : s1.vh[n]? with
            | none => rw [hc'] at e; cases e
            | some c' =>
              rw [hc'] at e
              dsimp only at e
              by_cases h3 : ncC z.vh.length c' = true
              · rw [if_pos h3] at e
                cases e
                cases rv with
                | @cell a0 _ hr =>
                  have hl2 : z.vh.length ≤ s1.vh.length := by
                    have := congrArg List.length h1
                    rw [List.length_take] at this; omega
                  obtain ⟨l2, R2⟩ := RS.cut R l R' rfl hl2 (by rw [h1]; exact R.ncs)
                  rw [h1] at R2
                  have hcell := R'.cells _ _ _ hr hc'
                  refine q _ _ _ l2 R2 ⟨_, rfl, R'.out _ (List.mem_of_getElem? hr), fun hm => ?_, cut_cell hcell h3, ?_⟩
                  · obtain ⟨m, hm1, hm2⟩ := List.mem_iff_getElem.mp hm
                    have e1 : (w'.ρ.take z.vh.length)[m]? = some a0 := by
                      rw [← hm2]
                      exact List.getElem?_eq_getElem hm1
                    have hmb : m < z.vh.length := by
                      have : m < (w'.ρ.take z.vh.length).length := hm1
                      rw [List.length_take] at this; omega
                    rw [List.getElem?_take, if_pos hmb] at e1
                    have i1 := List.getElem?_eq_some_iff.mp e1
                    have i2 := List.getElem?_eq_some_iff.mp hr
                    have := (List.getElem_inj R'.nd).mp (i1.2.trans i2.2.symm)
                    omega
                  · cases hH : H a0 with
                    | none => rfl
                    | some o =>
                      exfalso
                      rcases l.newρ a0 (List.mem_of_getElem? hr) with z1 | z1
                      · obtain ⟨m, hm1, hm2⟩ := List.mem_iff_getElem.mp z1
                        have e1 : w.ρ[m]? = some a0 := by rw [List.getElem?_eq_getElem hm1, hm2]
                        have e2 := l.le.1 m a0 e1
                        have i1 := List.getElem?_eq_some_iff.mp e2
                        have i2 := List.getElem?_eq_some_iff.mp hr
                        have := (List.getElem_inj R'.nd).mp (i1.2.trans i2.2.symm)
                        have hz : m < z.vh.length := by rw [← R.cl]; exact hm1
                        omega
                      · rw [hH] at z1; cases z1
              · rw [if_neg h3] at e; cases e
          · rw [if_neg h2] at e; cases e
        · rw [if_neg h1] at e; cases e
      | _ => simp [finN] at e
theorem fn_wr (F : Fun K x qual st f fd) (Sc : FnScope N ps (defScope st)) (hle : ps.length ≤ N.length)
    (body : ∀ (cdv : Value) (A : Around) (outer : List Env) (s : Shared) (H : Hp) (E : XK), Room k (A.deeper (envOfC qual (defScope st) s.heap.objs.size f cdv)) →
      DSs (cxOf CX0 P wd K mg base N qual (defScope st) f cdv A outer s H E).nox W0 (defBody st) g) : FnOk P wd K mg base CX0 (k + 1) f fd ps (SpS K ps.length (runW N.length g)) := by
  refine F.ok Sc (fun vs H Q E h => h.1) fun cdv A outer s H vs Q E hr h => ?_
  obtain ⟨t, p, r⟩ := body cdv A outer s H E hr
  obtain ⟨hl, w, σ, z, ds, d, vh, R, rv, e, q⟩ := h
  refine ⟨t, p, r w H _ (initS N.length ds z.vh) _ (start_ok (ps := ps) R rv) ?_⟩
  show PostS K W0 w H (g (initS N.length ds z.vh)) _
  unfold runW at e
  have fin_ok : ∀ {d0 : D} {s1 : S}, finW z.vh.length s1 d0 = some (d, vh) → ∀ w' H' σ' v, Le w H w' H' → RS K w' H' σ' s1 → Rep K w' v d0 → Q v H' := fun {d0 s1} e w' H' σ' v l R' rv => by
    unfold finW at e
    split at e
    · next h1 =>
      split at e
      · next h2 =>
        split at e
        · next h3 =>
          cases e
          rw [List.all_eq_true] at h2
          obtain ⟨l2, R2⟩ := RS.cut R l R' rfl h1 h2
          exact q _ _ _ l2 R2 (cut_rep rv h3)
        · cases e
      · cases e
    · cases e
  cases hg : g (initS N.length ds z.vh) with
  | bad => rw [hg] at e; cases e
  | exc x s1 => rw [hg] at e; cases e
  | ok o s1 =>
    rw [hg] at e
    cases o with
    | brk => cases e
    | cnt => cases e
    | rt d0 => exact fun w' H' σ' v l R' rv => fin_ok e w' H' σ' v l R' rv
    | nx => exact fun w' H' σ' l R' => fin_ok e w' H' σ' .non l R' .non
end
end Fx

/-! Fx: calls of defs and methods by their promises, new objects -/
namespace Fx
open PySem PySem.Spec PyProof.Rows L2
variable {X : Cx} {W : WX}
structure FnQ (P : Program) (wd : World) (K : PySem.W.Frag) (mg : Str → Option Value) (base : Heap) (x : Str) (k : Nat) (sp : Sp) : Prop where
  ex : ∃ (f : Addr) (fd : FuncData) (ps : List Str), mg x = some (.ref f) ∧ PySem.W.keepIn K (.ref f) = true ∧ Binds K fd ps [] ∧ FnOk P wd K mg base CX0 k f fd ps sp
structure Met (P : Program) (wd : World) (K : PySem.W.Frag) (mg : Str → Option Value) (base : Heap) (x m : Str) (k : Nat) (sp : Sp) : Prop where
  ex : ∃ (C f : Addr) (fd : FuncData) (ps : List Str), clsIn K x C ∧ Meth K C m f ∧ Binds K fd ps [] ∧ FnOk P wd K mg base CX0 k f fd ps sp
structure MkQ (P : Program) (wd : World) (K : PySem.W.Frag) (mg : Str → Option Value) (base : Heap) (x : Str) (k : Nat) (sp : Sp) : Prop where
  ex : ∃ (C f : Addr) (fd : FuncData) (ps : List Str), clsIn K x C ∧ mg x = some (.ref C) ∧ Mk K C f ∧ Binds K fd ps [] ∧ FnOk P wd K mg base CX0 k f fd ps sp
section
variable {P : Program} {wd : World} {K : PySem.W.Frag} {mg : Str → Option Value} {base : Heap} {x m : Str} {j k n : Nat} {sp : Sp}
theorem FnQ.mono (h : FnQ P wd K mg base x j sp) (l : j ≤ k) : FnQ P wd K mg base x k sp := let ⟨f, fd, ps, a, b, c, d⟩ := h.ex; ⟨f, fd, ps, a, b, c, d.mono l⟩
theorem Met.mono (h : Met P wd K mg base x m j sp) (l : j ≤ k) : Met P wd K mg base x m k sp := let ⟨C, f, fd, ps, a, b, c, d⟩ := h.ex; ⟨C, f, fd, ps, a, b, c, d.mono l⟩
theorem FnP.q {F : Pf} (h : FnP P wd K mg base x n k F) : FnQ P wd K mg base x k (SpP K n F) := let ⟨f, fd, ps, _, b, c, d, e⟩ := h.ex; ⟨f, fd, ps, b, c, d, e⟩
theorem FnS.q {F : Sf} (h : FnS P wd K mg base x n k F) : FnQ P wd K mg base x k (SpS K n F) := let ⟨f, fd, ps, _, b, c, d, e⟩ := h.ex; ⟨f, fd, ps, b, c, d, e⟩
end
section
variable {α : Type} {P : Pr V α} {sp : Sp} {g : List D → M α} {x m : Str} {k : Nat} {e o : Expr} {es : List Expr} {fo : M D} {fs : M (List D)} {p pos apos : Pos}
theorem fn_call0 (F : FnQ X.prog X.w X.K X.mg X.base x k sp) (A : Ans X.K P sp g) (hr : Room k X.A) (hg : Gl X x := by rfl) (hdb : (x == ("__debug__" : Str)) = false := by decide) : ∃ t, PE X (.Call (.Name x p) [] [] pos) t ∧ Fol X.K W P t (g []) := by
  obtain ⟨f, fd, ps, hm, hk, hb, G⟩ := F.ex
  exact ⟨_, pe_call0 G hr hg hm hk hb .nil pass0 hdb, fun w H σ s Q R z => A W w H σ s [] [] Q R .nil z⟩
/-! o.m(e, ..) -/
def metM (x m : Str) (fo : M D) (fs : M (List D)) (g : List D → M α) : M α := bnd fo fun d s => match objOf s x d with
  | some gs => if gs.lookup m = none then bnd fs (fun ds => g (d :: ds)) s else .bad
  | none => .bad
theorem met_call (hc : ClsP X.K x) (F : Met X.prog X.w X.K X.mg X.base x m k sp) (A : Ans X.K P sp g) (hr : Room k X.A) (ho : DE X W o fo) (ha : DA X W (e :: es) fs) {pl : Sem Bool}
    (hst : starEach (e :: es) X.env = (false, eval e X.env) :: starEach es X.env := by rfl) (hpl : (backTo pos (starEach es X.env)).any (·.1) = false := by rfl)
    (ht : eval (.Call (.Attribute o m apos) (e :: es) [] pos) X.env = (do
      let ov ← eval o X.env
      standAt apos.atName
      let (f, first) ← holding [ov] (getMethod ov m pl)
      callWith pos f first (backTo pos (starEach (e :: es) X.env)) (backToKw pos (keywordEach [] X.env))) := by rfl) :
    ∃ t, PE X (.Call (.Attribute o m apos) (e :: es) [] pos) t ∧ Fol X.K W P t (metM x m fo fs g) := by
  obtain ⟨C, f, fd, ps, hC, hm, hb, G⟩ := F.ex
  obtain ⟨to, po, ro⟩ := ho
  obtain ⟨t, q, r⟩ := ha
  refine ⟨_, pe_meth (pl := pl) po (hc C hC) hm G hr hb .nil pass0 q hst hpl ht, fun w H σ s Q R z => ?_⟩
  refine ro.bnd R z fun d s1 w1 H1 v l1 R1 r1 p1 => ?_
  split at p1
  · next gs hgs =>
    split at p1
    · next hl =>
      obtain ⟨n, a, C', dx, vs, e0, e1, h1, h2, h3, h4, h5⟩ := R1.obj r1 hgs
      cases hC.eq h3
      refine ⟨a, dx, vs, e1, h4, RepF.lookN h5 hl, ?_⟩
      refine r.bnd R1 p1 fun ds s2 w2 H2 us l2 R2 r2 p2 => ?_
      rw [List.append_nil]
      exact A W w2 H2 σ s2 (v :: us) (d :: ds) Q R2 (.cons (r1.up l2) r2) p2
    · exact p1.elim
  · exact p1.elim
def metM0 (x m : Str) (fo : M D) (g : List D → M α) : M α := bnd fo fun d s => match objOf s x d with
  | some gs => if gs.lookup m = none then g [d] s else .bad
  | none => .bad
theorem met_call0 (hc : ClsP X.K x) (F : Met X.prog X.w X.K X.mg X.base x m k sp) (A : Ans X.K P sp g) (hr : Room k X.A) (ho : DE X W o fo) {pl : Sem Bool}
    (ht : eval (.Call (.Attribute o m apos) [] [] pos) X.env = (do
      let ov ← eval o X.env
      standAt apos.atName
      let (f, first) ← holding [ov] (getMethod ov m pl)
      callWith pos f first (backTo pos (starEach [] X.env)) (backToKw pos (keywordEach [] X.env))) := by rfl) :
    ∃ t, PE X (.Call (.Attribute o m apos) [] [] pos) t ∧ Fol X.K W P t (metM0 x m fo g) := by
  obtain ⟨C, f, fd, ps, hC, hm, hb, G⟩ := F.ex
  obtain ⟨to, po, ro⟩ := ho
  refine ⟨_, pe_meth0 (pl := pl) po (hc C hC) hm G hr hb .nil pass0 ht, fun w H σ s Q R z => ?_⟩
  refine ro.bnd R z fun d s1 w1 H1 v l1 R1 r1 p1 => ?_
  split at p1
  · next gs hgs =>
    split at p1
    · next hl =>
      obtain ⟨n, a, C', dx, vs, e0, e1, h1, h2, h3, h4, h5⟩ := R1.obj r1 hgs
      cases hC.eq h3
      refine ⟨a, dx, vs, e1, h4, RepF.lookN h5 hl, ?_⟩
      exact A W w1 H1 σ s1 [v] [d] Q R1 (.cons r1 .nil) p1
    · exact p1.elim
  · exact p1.elim
end
/-! ### C(e, ..) -/
def makeM (x : Str) (n : Nat) (F : Sf) (ds : List D) : M D := fun s => if ds.length + 1 = n then match F (.cell s.vh.length :: ds) (s.vh ++ [.obj x []]) with
  | some (.non, vh) => .ok (.cell s.vh.length) ⟨s.loc, vh⟩
  | _ => .bad else .bad
section
variable {x : Str} {n k : Nat} {F : Sf} {e : Expr} {es : List Expr} {fs : M (List D)} {p pos : Pos}
theorem make_fol {w : Wd} {H : Hp} {σ : L2.St} {s : S} {ds : List D} {us : List V} {Q : V → Hp → Prop} {C : Addr} (hC : clsIn X.K x C) (R : RS X.K w H σ s) (r : RepL X.K w us ds) (z : Post X.K W (pD X.K) w H σ (makeM x n F ds s) Q) :
    ∀ y dx, H y = none → H dx = none → dx ≠ y → SpS X.K n F (.ref y :: (us ++ [])) (upd (upd H dx (.own y)) y (.ins C dx [])) (fun v H2 => v = .non ∧ Q (.ref y) H2) E0 := by
  intro y dx hy hdx hne
  unfold makeM at z
  split at z
  · next hl =>
    have hy' : upd H dx (.own y) y = none := by rw [upd_ne (Ne.symm hne)]; exact hy
    have R1 := R.laid (o := .own y) hdx
    have R2 := R1.laid (o := .ins C dx []) hy'
    have f1 := R1.fresh hy'
    have R3 := R2.addCell (p := y) (c := .obj x []) f1.1 f1.2 ⟨C, dx, [], hC, upd_same, .nil⟩
    have l3 : Le w H (w.own y) (upd (upd H dx (.own y)) y (.ins C dx [])) := ((Le.laid hdx).trans (Le.laid hy')).own hy
    rw [List.append_nil]
    split at z
    · next vh hF =>
      refine ⟨by rw [List.length_cons, RepL.length r]; exact hl, w.own y, σ, { s with vh := s.vh ++ [.obj x []] }, .cell s.vh.length :: ds, .non, vh, R3, .cons (.cell ?_) (r.up l3), hF, fun w' H' v l R' r' => ?_⟩
      · show (w.ρ ++ [y])[s.vh.length]? = some y
        rw [← R.cl, List.getElem?_append_right (Nat.le_refl _), Nat.sub_self]
        rfl
      · cases r'
        refine ⟨rfl, z w' H' (.ref y) (l3.trans l) R' (.cell (l.le.1 _ _ ?_))⟩
        show (w.ρ ++ [y])[s.vh.length]? = some y
        rw [← R.cl, List.getElem?_append_right (Nat.le_refl _), Nat.sub_self]
        rfl
    · exact z.elim
  · exact z.elim
theorem de_make0 (M : MkQ X.prog X.w X.K X.mg X.base x k (SpS X.K n F)) (hr : Room (k + 1) X.A) (hg : Gl X x := by rfl) (hdb : (x == ("__debug__" : Str)) = false := by decide) : DE X W (.Call (.Name x p) [] [] pos) (makeM x n F []) := by
  obtain ⟨C, f, fd, ps, hC, hm, hM, hb, G⟩ := M.ex
  exact ⟨_, pe_make0 hM G hr hg hm hb .nil pass0 hdb, fun w H σ s Q R z => make_fol hC R .nil z⟩
end
/-! ### as the top leaves them -/
structure TopM (K : PySem.W.Frag) (x m q : Str) (st : Stmt) (ps : List Str) : Prop where
  ex : ∃ (C f : Addr) (fd : FuncData), clsIn K x C ∧ Fun K m q st f fd ∧ Meth K C m f ∧ Binds K fd ps []
structure TopI (K : PySem.W.Frag) (mg : Str → Option Value) (x q : Str) (st : Stmt) (ps : List Str) : Prop where
  ex : ∃ (C f : Addr) (fd : FuncData), clsIn K x C ∧ mg x = some (.ref C) ∧ Fun K "__init__" q st f fd ∧ Mk K C f ∧ Binds K fd ps []
section
variable {P : Program} {wd : World} {K : PySem.W.Frag} {mg : Str → Option Value} {base : Heap} {x m q : Str} {st : Stmt} {N ps : List Str} {k : Nat} {g : M Out}
theorem clsP_mk {C : Addr} (a : PySem.W.nsIn K mainGlobals x = some (some (.ref C))) (pg : PySem.W.plainGet K C Str.empty = true) (hd : PySem.W.hasDictIn K C = true) (po : PySem.W.plainOver K C = true) (sa : PySem.W.findIn K (.ref C) "__setattr__" = some (some (.builtin "object.__setattr__"))) : ClsP K x := fun C' h => by
  cases clsIn.eq (show clsIn K x C from a) h
  exact ⟨pg, hd, po, sa⟩
theorem noA_mk {C : Addr} {f : Str} (a : PySem.W.nsIn K mainGlobals x = some (some (.ref C))) (n : PySem.W.findIn K (.ref C) f = some none) : NoA K x f := fun C' h => by
  cases clsIn.eq (show clsIn K x C from a) h
  exact n
theorem topM_mk {C f : Addr} {oc : Value} {od an : Option Addr} {osl : Array (Option Value)} {kV doc pm cdv ct : Value} (a : PySem.W.nsIn K mainGlobals x = some (some (.ref C))) (fi : PySem.W.findIn K (.ref C) m = some (some (.ref f))) (i : PySem.W.isFn K (.ref f) = true)
    (l : K.lookup f = some ⟨oc, od, .func (PySem.W.fnOf m q (defArgs st) (defBody st) (defScope st) .none kV doc pm an cdv ct), osl⟩) (c : PySem.W.codeIn K cdv q = true) (k : PySem.W.keepIn K (.ref f) = true)
    (b : ∀ (kV doc pm : Value) (an : Option Addr) (cdv ct : Value) (us : List Value), us.length = ps.length → bindArgs (PySem.W.fnOf m q (defArgs st) (defBody st) (defScope st) .none kV doc pm an cdv ct) ⟨us, []⟩ = pure (ps.zip us)) : TopM K x m q st ps :=
  have F := fun_mk (st := st) l c k
  ⟨C, f, _, a, F, ⟨fi, i, k⟩, F.binds b⟩
theorem topI_mk {h : Heap} (X : K.In h) (G : h.Ns mainGlobals mg) {C f : Addr} {oc : Value} {od an : Option Addr} {osl : Array (Option Value)} {kV doc pm cdv ct : Value} (a : PySem.W.nsIn K mainGlobals x = some (some (.ref C))) (fi : PySem.W.findIn K (.ref C) "__init__" = some (some (.ref f))) (i : PySem.W.isFn K (.ref f) = true)
    (l : K.lookup f = some ⟨oc, od, .func (PySem.W.fnOf "__init__" q (defArgs st) (defBody st) (defScope st) .none kV doc pm an cdv ct), osl⟩) (c : PySem.W.codeIn K cdv q = true) (k : PySem.W.keepIn K (.ref f) = true) (mk : PySem.W.makesIn K C = true) (kc : PySem.W.keepIn K (.ref C) = true)
    (b : ∀ (kV doc pm : Value) (an : Option Addr) (cdv ct : Value) (us : List Value), us.length = ps.length → bindArgs (PySem.W.fnOf "__init__" q (defArgs st) (defBody st) (defScope st) .none kV doc pm an cdv ct) ⟨us, []⟩ = pure (ps.zip us)) : TopI K mg x q st ps :=
  have F := fun_mk (st := st) l c k
  ⟨C, f, _, a, PySem.W.mg_of X G a, F, ⟨mk, fi, i, kc⟩, F.binds b⟩
theorem TopM.fnP (T : TopM K x m q st ps) (Sc : FnScope N ps (defScope st)) (hle : ps.length ≤ N.length)
    (body : ∀ (f : Addr) (cdv : Value) (A : Around) (outer : List Env) (s : Shared) (H : Hp) (E : XK), Room k (A.deeper (envOfC q (defScope st) s.heap.objs.size f cdv)) →
      DSs (cxOf CX0 P wd K mg base N q (defScope st) f cdv A outer s H E).nox W0 (defBody st) g) : Met P wd K mg base x m (k + 1) (SpP K ps.length (runP N.length g)) :=
  let ⟨C, f, fd, a, F, M, b⟩ := T.ex
  ⟨C, f, fd, ps, a, M, b, fn_pure F Sc hle fun cdv A outer s H E hr => body f cdv A outer s H E hr⟩
theorem TopM.fnN (T : TopM K x m q st ps) (Sc : FnScope N ps (defScope st)) (hle : ps.length ≤ N.length)
    (body : ∀ (f : Addr) (cdv : Value) (A : Around) (outer : List Env) (s : Shared) (H : Hp) (E : XK), Room k (A.deeper (envOfC q (defScope st) s.heap.objs.size f cdv)) →
      DSs (cxOf CX0 P wd K mg base N q (defScope st) f cdv A outer s H E).nox W0 (defBody st) g) : Met P wd K mg base x m (k + 1) (SpN K ps.length (runN N.length g)) :=
  let ⟨C, f, fd, a, F, M, b⟩ := T.ex
  ⟨C, f, fd, ps, a, M, b, fn_new F Sc hle fun cdv A outer s H E hr => body f cdv A outer s H E hr⟩
theorem TopM.fnS (T : TopM K x m q st ps) (Sc : FnScope N ps (defScope st)) (hle : ps.length ≤ N.length)
    (body : ∀ (f : Addr) (cdv : Value) (A : Around) (outer : List Env) (s : Shared) (H : Hp) (E : XK), Room k (A.deeper (envOfC q (defScope st) s.heap.objs.size f cdv)) →
      DSs (cxOf CX0 P wd K mg base N q (defScope st) f cdv A outer s H E).nox W0 (defBody st) g) : Met P wd K mg base x m (k + 1) (SpS K ps.length (runS N.length g)) :=
  let ⟨C, f, fd, a, F, M, b⟩ := T.ex
  ⟨C, f, fd, ps, a, M, b, fn_st F Sc hle fun cdv A outer s H E hr => body f cdv A outer s H E hr⟩
theorem TopM.fnW (T : TopM K x m q st ps) (Sc : FnScope N ps (defScope st)) (hle : ps.length ≤ N.length)
    (body : ∀ (f : Addr) (cdv : Value) (A : Around) (outer : List Env) (s : Shared) (H : Hp) (E : XK), Room k (A.deeper (envOfC q (defScope st) s.heap.objs.size f cdv)) →
      DSs (cxOf CX0 P wd K mg base N q (defScope st) f cdv A outer s H E).nox W0 (defBody st) g) : Met P wd K mg base x m (k + 1) (SpS K ps.length (runW N.length g)) :=
  let ⟨C, f, fd, a, F, M, b⟩ := T.ex
  ⟨C, f, fd, ps, a, M, b, fn_wr F Sc hle fun cdv A outer s H E hr => body f cdv A outer s H E hr⟩
theorem TopI.fnS (T : TopI K mg x q st ps) (Sc : FnScope N ps (defScope st)) (hle : ps.length ≤ N.length)
    (body : ∀ (f : Addr) (cdv : Value) (A : Around) (outer : List Env) (s : Shared) (H : Hp) (E : XK), Room k (A.deeper (envOfC q (defScope st) s.heap.objs.size f cdv)) →
      DSs (cxOf CX0 P wd K mg base N q (defScope st) f cdv A outer s H E).nox W0 (defBody st) g) : MkQ P wd K mg base x (k + 1) (SpS K ps.length (runS N.length g)) :=
  let ⟨C, f, fd, a, a2, F, M, b⟩ := T.ex
  ⟨C, f, fd, ps, a, a2, M, b, fn_st F Sc hle fun cdv A outer s H E hr => body f cdv A outer s H E hr⟩
theorem Top.fnN (T : Top K mg x st ps) (Sc : FnScope N ps (defScope st)) (hle : ps.length ≤ N.length)
    (body : ∀ (f : Addr) (cdv : Value) (A : Around) (outer : List Env) (s : Shared) (H : Hp) (E : XK), Room k (A.deeper (envOfC x (defScope st) s.heap.objs.size f cdv)) →
      DSs (cxOf CX0 P wd K mg base N x (defScope st) f cdv A outer s H E).nox W0 (defBody st) g) : FnQ P wd K mg base x (k + 1) (SpN K ps.length (runN N.length g)) :=
  let ⟨f, fd, F, m, b, _⟩ := T.ex
  ⟨f, fd, ps, m, F.kp, b, fn_new F Sc hle fun cdv A outer s H E hr => body f cdv A outer s H E hr⟩
theorem Top.fnW (T : Top K mg x st ps) (Sc : FnScope N ps (defScope st)) (hle : ps.length ≤ N.length)
    (body : ∀ (f : Addr) (cdv : Value) (A : Around) (outer : List Env) (s : Shared) (H : Hp) (E : XK), Room k (A.deeper (envOfC x (defScope st) s.heap.objs.size f cdv)) →
      DSs (cxOf CX0 P wd K mg base N x (defScope st) f cdv A outer s H E).nox W0 (defBody st) g) : FnS P wd K mg base x ps.length (k + 1) (runW N.length g) :=
  let ⟨f, fd, F, m, b, _⟩ := T.ex
  ⟨f, fd, ps, rfl, m, F.kp, b, fn_wr F Sc hle fun cdv A outer s H E hr => body f cdv A outer s H E hr⟩
end
end Fx

/-! Fx: dicts with numbers or texts as keys; sorted of ints, of dicts, of sets of ints -/
namespace Fx
open PySem PySem.Spec PyProof.Rows L2
variable {X : Cx} {W : WX}
def keyD : D → Option Key
  | .int i => some (.inl i)
  | .str x => some (.inr x)
  | _ => none
def dK : Key → D
  | .inl i => .int i
  | .inr x => .str x
section
variable {α : Type}
def valA (kvs : List (Key × α)) (k : Key) : Option α := (kvs.find? fun kv => decide (kv.1 = k)).map (·.2)
def putA (kvs : List (Key × α)) (k : Key) (v : α) : List (Key × α) := if (kvs.any fun kv => decide (kv.1 = k)) = true then kvs.map (fun kv => if kv.1 = k then (kv.1, v) else kv) else kvs ++ [(k, v)]
def dropA (kvs : List (Key × α)) (k : Key) : List (Key × α) := kvs.filter fun kv => decide (kv.1 ≠ k)
def mergeA (kvs more : List (Key × α)) : List (Key × α) := more.foldl (fun acc kv => putA acc kv.1 kv.2) kvs
end
def dctR (s : S) : D → Option (List (Key × D))
  | .cell n => match s.vh[n]? with
    | some (.dct ds) => some ds
    | some (.dctL _ _ ds) => some ds
    | _ => none
  | _ => none
section
variable {K : PySem.W.Frag} {w : Wd} {H : Hp} {σ : L2.St} {s : S} {v : V} {d : D}
theorem key_of {k : Key} (r : Rep K w v d) (h : keyD d = some k) : v = kV k := by
  cases r <;> simp [keyD] at h <;> subst h <;> rfl
theorem RS.dictR (R : RS K w H σ s) (r : Rep K w v d) {ds : List (Key × D)} (h : dctR s d = some ds) : ∃ a vs, v = .ref a ∧ Rd H a (.dK vs) ∧ RepK K w vs ds := by
  cases r with
  | cell h1 =>
    obtain ⟨c, e, hc⟩ := R.cellOf h1
    unfold dctR at h
    simp only [e] at h
    cases c with
    | lst xs => simp at h
    | obj _ _ => simp at h
    | dct _ => simp at h; subst h; obtain ⟨vs, h2, h3⟩ := hc; exact ⟨_, _, rfl, .inl h2, h3⟩
    | dctL o us kvs => simp at h; subst h; obtain ⟨h2, h3⟩ := hc; exact ⟨_, _, rfl, .inr ⟨o, h2⟩, h3⟩
    | dctN _ _ => simp at h
  | _ => simp [dctR] at h
theorem RepK.val {k : Key} : ∀ {vs : List (Key × V)} {ds : List (Key × D)}, RepK K w vs ds → (valA ds k = none → valV vs k = none) ∧ ∀ d, valA ds k = some d → ∃ v, valV vs k = some v ∧ Rep K w v d
  | _, _, .nil => ⟨fun _ => rfl, fun d h => by cases h⟩
  | _, _, .cons (k := k') h t => by
    by_cases e : k' = k
    · refine ⟨fun z => ?_, fun d z => ?_⟩
      · simp [valA, List.find?_cons, e] at z
      · simp [valA, List.find?_cons, e] at z
        subst z
        exact ⟨_, by simp [valV, List.find?_cons, e], h⟩
    · obtain ⟨i1, i2⟩ := RepK.val (k := k) t
      refine ⟨fun z => ?_, fun d z => ?_⟩
      · have := i1 (by simpa [valA, List.find?_cons, e] using z)
        simpa [valV, List.find?_cons, e] using this
      · obtain ⟨u, h1, h2⟩ := i2 d (by simpa [valA, List.find?_cons, e] using z)
        exact ⟨u, by simpa [valV, List.find?_cons, e] using h1, h2⟩
theorem RepK.any {k : Key} : ∀ {vs : List (Key × V)} {ds : List (Key × D)}, RepK K w vs ds → (vs.any fun kv => decide (kv.1 = k)) = (ds.any fun kv => decide (kv.1 = k))
  | _, _, .nil => rfl
  | _, _, .cons h t => by rw [List.any_cons, List.any_cons, RepK.any t]
theorem RepK.append : ∀ {vs us : List (Key × V)} {ds es : List (Key × D)}, RepK K w vs ds → RepK K w us es → RepK K w (vs ++ us) (ds ++ es)
  | _, _, _, _, .nil, s => s
  | _, _, _, _, .cons r t, s => .cons r (RepK.append t s)
theorem RepK.map {k : Key} (r : Rep K w v d) : ∀ {vs : List (Key × V)} {ds : List (Key × D)}, RepK K w vs ds → RepK K w (vs.map fun kv => if kv.1 = k then (kv.1, v) else kv) (ds.map fun kv => if kv.1 = k then (kv.1, d) else kv)
  | _, _, .nil => .nil
  | _, _, .cons (k := k') h t => by
    rw [List.map_cons, List.map_cons]
    by_cases e : k' = k
    · rw [if_pos e, if_pos e]; exact .cons r (RepK.map r t)
    · rw [if_neg e, if_neg e]; exact .cons h (RepK.map r t)
theorem RepK.put {k : Key} {vs : List (Key × V)} {ds : List (Key × D)} (t : RepK K w vs ds) (r : Rep K w v d) : RepK K w (putK vs k v) (putA ds k d) := by
  unfold putK putA
  rw [RepK.any t]
  split
  · exact RepK.map r t
  · exact RepK.append t (.cons r .nil)
theorem RepK.drop {k : Key} : ∀ {vs : List (Key × V)} {ds : List (Key × D)}, RepK K w vs ds → RepK K w (dropK vs k) (dropA ds k)
  | _, _, .nil => .nil
  | _, _, .cons (k := k') h t => by
    have ih := RepK.drop (k := k) t
    unfold dropK dropA at ih ⊢
    by_cases e : k' = k
    · rw [List.filter_cons_of_neg (by simp [e]), List.filter_cons_of_neg (by simp [e])]; exact ih
    · rw [List.filter_cons_of_pos (by simp [e]), List.filter_cons_of_pos (by simp [e])]; exact .cons h ih
theorem RepK.merge {us : List (Key × V)} {es : List (Key × D)} (h : RepK K w us es) : ∀ {vs : List (Key × V)} {ds : List (Key × D)}, RepK K w vs ds → RepK K w (mergeK vs us) (mergeA ds es) := by
  induction h with
  | nil => exact fun t => t
  | cons h q ih => exact fun t => ih (RepK.put t h)
theorem RepK.keys : ∀ {vs : List (Key × V)} {ds : List (Key × D)}, RepK K w vs ds → vs.map (·.1) = ds.map (·.1)
  | _, _, .nil => rfl
  | _, _, .cons h t => by rw [List.map_cons, List.map_cons, RepK.keys t]
/-- a dict that stands by itself, to be written -/
theorem RS.dictW (R : RS K w H σ s) (r : Rep K w v d) {n : Nat} {kvs : List (Key × D)} (hd : d = .cell n) (h : s.vh[n]? = some (.dct kvs)) : ∃ a vs, v = .ref a ∧ w.ρ[n]? = some a ∧ H a = some (.dK vs) ∧ RepK K w vs kvs := by
  subst hd
  cases r with
  | @cell a _ h1 =>
    obtain ⟨c, e, hc⟩ := R.cellOf h1
    rw [h] at e
    cases e
    obtain ⟨vs, h2, h3⟩ := hc
    exact ⟨a, vs, rfl, h1, h2, h3⟩
end
/-! d[k], k in d -/
def dgetM (d e : D) : M D := fun s => match dctR s d, keyD e with
  | some kvs, some k => match valA kvs k with
    | some v => .ok v s
    | none => .bad
  | _, _ => .bad
def dinM (b : Bool) (e d : D) : M D := fun s => match dctR s d, keyD e with
  | some kvs, some k => .ok (.bl ((valA kvs k).isSome == b)) s
  | _, _ => .bad
section
variable {o i : Expr} {fo fi : M D} {pos pos' : Pos} {k : Nat}
theorem bin_or {op op1 op2 : D → D → M D} {a b : M D} (h : ∀ d e s, op d e s = op1 d e s ∨ op d e s = op2 d e s) (s : S) : bin op a b s = bin op1 a b s ∨ bin op a b s = bin op2 a b s := by
  unfold bin bnd
  cases a s with
  | bad => exact .inl rfl
  | exc x s' => exact .inl rfl
  | ok d s1 =>
    dsimp only
    cases b s1 with
    | bad => exact .inl rfl
    | exc x s' => exact .inl rfl
    | ok e s2 => exact h d e s2
theorem de_dget (hu : X.A.units + 1 < cLine) (ho : DE X W o fo) (hi : DE X W i fi) (hs : NoSl i) : DE X W (.Subscript o i pos) (bin dgetM fo fi) := by
  obtain ⟨t, p, r⟩ := ho
  obtain ⟨u, q, h⟩ := hi
  refine ⟨_, pe_dget hu p q hs, fun w H σ s Q R z => ?_⟩
  refine r.bnd R z fun d s1 w1 H1 v1 l1 R1 r1 p1 => ?_
  refine h.bnd R1 p1 fun e s2 w2 H2 v2 l2 R2 r2 p2 => ?_
  unfold dgetM at p2
  split at p2
  · next kvs k hd hk =>
    obtain ⟨a, vs, e1, h1, h2⟩ := R2.dictR (Rep.up l2 r1) hd
    have e2 := key_of r2 hk
    split at p2
    · next v hv =>
      obtain ⟨y, h3, h4⟩ := (RepK.val (k := k) h2).2 v hv
      exact ⟨a, y, e1, .inl ⟨vs, k, h1, e2, h3.symm⟩, Post.here p2 R2 h4⟩
    · exact p2.elim
  · exact p2.elim
theorem din_fol {t u : TE} {b : Bool} (r : Fol X.K W (pD X.K) t fi) (h : Fol X.K W (pD X.K) u fo) : Fol X.K W (pD X.K) (fun σ H Q => t σ H fun y H1 => u σ H1 fun x H2 => ∃ a o, x = .ref a ∧ DGet H2 a y o ∧ Q (.bl (o.isSome == b)) H2) (bin (dinM b) fi fo) := fun w H σ s Q R z => by
  refine r.bnd R z fun d s1 w1 H1 v1 l1 R1 r1 p1 => ?_
  refine h.bnd R1 p1 fun e s2 w2 H2 v2 l2 R2 r2 p2 => ?_
  unfold dinM at p2
  split at p2
  · next kvs k hd hk =>
    obtain ⟨a, vs, e1, h1, h2⟩ := R2.dictR r2 hd
    have e2 := key_of (Rep.up l2 r1) hk
    refine ⟨a, valV vs k, e1, .inl ⟨vs, k, h1, e2, rfl⟩, ?_⟩
    have e3 : (valV vs k).isSome = (valA kvs k).isSome := by
      cases hv : valA kvs k with
      | none => rw [(RepK.val (k := k) h2).1 hv]; rfl
      | some v => obtain ⟨y, h3, _⟩ := (RepK.val (k := k) h2).2 v hv; rw [h3]; rfl
    rw [e3]
    exact Post.here p2 R2 (Rep.bl _)
  · exact p2.elim
theorem pc_dninB (hu : X.A.units + 1 < cLine) {t u : TE} (p : PE X i t) (q : PE X o u) : PC X .NotIn i o (fun σ H Q => t σ H fun y H1 => u σ H1 fun x H2 => ∃ a o, x = .ref a ∧ DGet H2 a y o ∧ Q (.bl (o.isSome == false)) H2) := by
  have h := pc_dnotin hu p q
  have e : (fun σ H Q => t σ H fun y H1 => u σ H1 fun x H2 => ∃ a o, x = .ref a ∧ DGet H2 a y o ∧ Q (.bl (o.isSome == false)) H2 : TE) = tDNotIn t u := by
    unfold tDNotIn
    simp only [beq_false]
  rw [e]; exact h
theorem tst_fol {t : TE} {f : M D} (r : Fol X.K W (pD X.K) t f) : Fol X.K W pB (tB t) (tst f) := fun w H σ s Q R p => r.bnd R p fun d s1 w1 H1 v1 l1 R1 r1 p1 => asB_fol R1 r1 p1
theorem dt_dnin (hu : X.A.units + 1 < cLine) (hi : DE X W i fi) (ho : DE X W o fo) (hm : behindInMarks .NotIn o = false := by rfl) : DT X W (.Compare i [.NotIn] [o] pos) (tst (bin (dinM false) fi fo)) := by
  obtain ⟨t, p, r⟩ := hi
  obtain ⟨u, q, h⟩ := ho
  exact ⟨_, pt_cmp (pc_dninB hu p q) hm, tst_fol (din_fol r h)⟩
/-! x in xs, of flat things; c in text, c one sign -/
def flD : D → Option V
  | .non => some .non
  | .bl b => some (.bl b)
  | .int i => some (.int i)
  | .str x => some (.str x)
  | _ => none
def flL : List D → Option (List V)
  | [] => some []
  | d :: ds => match flD d, flL ds with
    | some v, some vs => some (v :: vs)
    | _, _ => none
theorem fl_of {K : PySem.W.Frag} {w : Wd} {v u : V} {d : D} (r : Rep K w v d) (h : flD d = some u) : v = u ∧ flatV u = true := by
  cases r <;> simp [flD] at h <;> subst h <;> exact ⟨rfl, rfl⟩
theorem flL_of {K : PySem.W.Frag} {w : Wd} : ∀ {vs us : List V} {ds : List D}, RepL K w vs ds → flL ds = some us → vs = us ∧ us.all flatV = true
  | _, _, _, .nil, h => by cases h; exact ⟨rfl, rfl⟩
  | _, _, _, .cons (d := d) (ds := ds) r t, h => by
    unfold flL at h
    cases h1 : flD d with
    | none => rw [h1] at h; cases h
    | some v =>
      cases h2 : flL ds with
      | none => rw [h1, h2] at h; cases h
      | some vs =>
        rw [h1, h2] at h; cases h
        obtain ⟨a1, a2⟩ := fl_of r h1
        obtain ⟨b1, b2⟩ := flL_of t h2
        exact ⟨by rw [a1, b1], by rw [List.all_cons, a2, b2]; rfl⟩
def sqOf (s : S) (d : D) : Option (List D) := match d with
  | .tup ds => some ds
  | d => lstOf s d
def inQ (b : Bool) (e d : D) : M D := fun s => match sqOf s d with
  | some ds => match flD e, flL ds with
    | some v, some vs => .ok (.bl (inV v vs == b)) s
    | _, _ => .bad
  | none => .bad
def inT (b : Bool) (e d : D) : M D := match e, d with
  | .str x, .str z => match x.cps.toList with
    | [c] => ret (.bl (decide (c ∈ z.cps.toList) == b))
    | _ => fail
  | _, _ => fail
theorem sqOf_rep {K : PySem.W.Frag} {w : Wd} {H : Hp} {σ : L2.St} {s : S} {v : V} {d : D} {ds : List D} (R : RS K w H σ s) (r : Rep K w v d) (h : sqOf s d = some ds) : ∃ a vs, v = .ref a ∧ (SqL K H a vs ∨ SqT K H a vs) ∧ RepL K w vs ds := by
  cases d with
  | tup es =>
    obtain ⟨a, vs, h1, h2, h3⟩ := R.tuple r (ds := es) rfl
    cases h
    exact ⟨a, vs, h1, .inr h2, h3⟩
  | _ =>
    obtain ⟨a, vs, h1, h2, h3⟩ := R.list r h
    exact ⟨a, vs, h1, .inl h2, h3⟩
theorem rop_inQ (b : Bool) : ROp X (rIn X.K (!b)) (inQ b) := by
  intro W w H σ s x y d e Q R rx ry p
  unfold inQ at p
  split at p
  · next ds hd =>
    split at p
    · next v vs hv hvs =>
      obtain ⟨a, us, e1, h1, h2⟩ := sqOf_rep R ry hd
      obtain ⟨e2, h3⟩ := fl_of rx hv
      obtain ⟨e3, h4⟩ := flL_of h2 hvs
      subst e1 e2 e3
      refine ⟨a, us, rfl, h1, h3, h4, ?_⟩
      have e4 : (if (!b) = true then !inV x us else inV x us) = (inV x us == b) := by cases b <;> cases inV x us <;> rfl
      rw [e4]
      exact Post.here p R (Rep.bl _)
    · exact p.elim
  · exact p.elim
theorem one_sign {x : Str} {c : Nat} (h : x.cps.toList = [c]) : x = ⟨#[c]⟩ := by
  cases x with
  | mk a =>
    have : a = #[c] := by
      rw [← Array.toArray_toList (xs := a)]
      show a.toList.toArray = _
      rw [show a.toList = [c] from h]
    rw [this]
theorem rop_ninT : ROp X (fun x y H Q => ∃ (c : Nat) (z : Str), x = .str ⟨#[c]⟩ ∧ y = .str z ∧ Q (.bl (!decide (c ∈ z.cps.toList))) H) (inT false) := by
  intro W w H σ s x y d e Q R rx ry p
  unfold inT at p
  split at p
  · next x1 z =>
    cases rx
    cases ry
    cases hc : x1.cps.toList with
    | nil => rw [hc] at p; exact p.elim
    | cons c r =>
      rw [hc] at p
      cases r with
      | cons _ _ => exact p.elim
      | nil =>
        refine ⟨c, z, by rw [one_sign hc], rfl, ?_⟩
        have := Post.here p R (Rep.bl _)
        simpa using this
  · exact p.elim
def inM (e d : D) : M D := altM (inT true e d) (inQ true e d)
def ninM (e d : D) : M D := altM (inT false e d) (inQ false e d)
theorem rop_alt {r1 r2 : R2} {g1 g2 : D → D → M D} (h1 : ROp X r1 g1) (h2 : ROp X r2 g2) : ROp X (fun x y H Q => r1 x y H Q ∨ r2 x y H Q) (fun d e => altM (g1 d e) (g2 d e)) := fun W w H σ s x y d e Q R rx ry p => by
  have p : Post X.K W (pD X.K) w H σ (altM (g1 d e) (g2 d e) s) Q := p
  rcases alt_is (g1 d e) (g2 d e) s with q | q
  · rw [q] at p; exact .inl (h1 W w H σ s x y d e Q R rx ry p)
  · rw [q] at p; exact .inr (h2 W w H σ s x y d e Q R rx ry p)
theorem rop_ninA : ROp X (fun x y H Q => (∃ (c : Nat) (z : Str), x = .str ⟨#[c]⟩ ∧ y = .str z ∧ Q (.bl (!decide (c ∈ z.cps.toList))) H) ∨ rIn X.K true x y H Q) ninM := rop_alt rop_ninT (rop_inQ false)
theorem op_ninA : OpR X (compareOp .NotIn) (fun x y H Q => (∃ (c : Nat) (z : Str), x = .str ⟨#[c]⟩ ∧ y = .str z ∧ Q (.bl (!decide (c ∈ z.cps.toList))) H) ∨ rIn X.K true x y H Q) := opr_or op_notIn_sign op_notIn_seq
/-! both kinds in one -/
def ixAM (d e : D) : M D := altM (dgetM d e) (ixM d e)
def inAM (e d : D) : M D := altM (dinM true e d) (inM e d)
def ninAM (e d : D) : M D := altM (dinM false e d) (ninM e d)
theorem de_ixA (hu : X.A.units + 1 < cLine) (ho : DE X W o fo) (hi : DE X W i fi) (hs : PlainIx i := by exact fun _ _ => rfl) : DE X W (.Subscript o i pos) (bin ixAM fo fi) :=
  de_or2 (de_dget hu ho hi hs) (de_ix ho hi hs) (bin_or fun d e s => alt_is _ _ s)
theorem tst_or {f g h : M D} (c : ∀ s, h s = f s ∨ h s = g s) (s : S) : tst h s = tst f s ∨ tst h s = tst g s := by
  unfold tst bnd
  rcases c s with e | e
  · rw [e]; exact .inl rfl
  · rw [e]; exact .inr rfl
theorem dt_ninA (hu : X.A.units + 64 < cLine) (hi : DE X W i fi) (ho : DE X W o fo) (hm : behindInMarks .NotIn o = false := by rfl) : DT X W (.Compare i [.NotIn] [o] pos) (tst (bin ninAM fi fo)) :=
  dt_or2 (dt_dnin (by omega) hi ho hm) (dt_cmp op_ninA rop_ninA hi ho hm) (tst_or (bin_or fun d e s => alt_is _ _ s))
/-! d[k] = v -/
def dputM (v d e : D) : M Out := fun s => match d, keyD e with
  | .cell n, some k => match s.vh[n]? with
    | some (.dct kvs) => if kvs.length < sizeLine then .ok .nx ⟨s.loc, s.vh.set n (.dct (putA kvs k v))⟩ else .bad
    | _ => .bad
  | _, _ => .bad
def dputS (fo fi fv : M D) : M Out := bnd fv fun v => bnd fo fun d => bnd fi fun e => dputM v d e
theorem ds_dput {value : Expr} {fv : M D} (hu : X.A.units + 1 < cLine) (ho : DE X W o fo) (hi : DE X W i fi) (hv : DE X W value fv) (hs : swapsWith value (some (.Subscript o i pos')) pos.line X.env = pure false := by rfl) : DS X W (.Assign [.Subscript o i pos'] value pos) (dputS fo fi fv) := by
  obtain ⟨t, p, r⟩ := ho
  obtain ⟨u, q, h⟩ := hi
  obtain ⟨y, p', k⟩ := hv
  refine ⟨_, ps_dput hu p q p' hs, fun w H σ s D R z => ?_⟩
  refine k.bndS R z fun v s1 w1 H1 v1 l1 R1 r1 p1 => ?_
  refine r.bndS R1 p1 fun d s2 w2 H2 v2 l2 R2 r2 p2 => ?_
  refine h.bndS R2 p2 fun e s3 w3 H3 v3 l3 R3 r3 p3 => ?_
  unfold dputM at p3
  split at p3
  · next n k hk =>
    split at p3
    · next kvs hkv =>
      split at p3
      · next hl =>
        obtain ⟨a, vs, e1, h1, h2, h3⟩ := R3.dictW (Rep.up l3 r2) rfl hkv
        have e2 := key_of r3 hk
        refine ⟨a, upd H3 a (.dK (putK vs k v1)), e1, .inl ⟨vs, k, h2, e2, by rw [RepK.length h3]; exact hl, rfl⟩, ?_⟩
        exact p3 w3 _ σ (Le.write (List.mem_of_getElem? h1)) (R3.setCell h1 ⟨_, upd_same, RepK.put h3 ((r1.up l2).up l3)⟩)
      · exact p3.elim
    · exact p3.elim
  · exact p3.elim
end
/-! {k: v, ..} -/
@[reducible] def pP (K : PySem.W.Frag) : Pr (List (V × V)) (List (Key × D)) := ⟨fun _ w _ v d => ∃ kvs : List (Key × V), v = kvs.map (fun kv => (kV kv.1, kv.2)) ∧ RepK K w kvs d, fun _ _ _ _ _ _ _ _ _ _ h => h⟩
def DP (X : Cx) (W : WX) (pos : Pos) (ks : List (Option Expr)) (vs : List Expr) (f : M (List (Key × D))) : Prop := ∃ trs, PPs X pos ks vs trs ∧ Fol X.K W (pP X.K) (fun σ H Q => tPairs trs σ H Q) f
def pairM (p q : M D) (r : M (List (Key × D))) : M (List (Key × D)) := bnd p fun d => bnd q fun e => bnd r fun ds => match keyD d with
  | some k => ret ((k, e) :: ds)
  | none => fail
def dspM (r : M (List (Key × D))) : M Cell := bnd r fun ds => if ds.length ≤ 15 then ret (.dct (mergeA [] ds)) else fail
section
variable {k v : Expr} {ks : List (Option Expr)} {vs : List Expr} {fk fv : M D} {fr : M (List (Key × D))} {pos : Pos}
theorem dp_nil : DP X W pos [] [] (ret []) := ⟨[], pps_nil, fun w H σ s Q R p => Post.here p R ⟨[], rfl, .nil⟩⟩
theorem dp_cons (hk : DE X W k fk) (hv : DE X W v fv) (hr : DP X W pos ks vs fr) : DP X W pos (some k :: ks) (v :: vs) (pairM fk fv fr) := by
  obtain ⟨t, p, r⟩ := hk
  obtain ⟨u, q, h⟩ := hv
  obtain ⟨trs, p', h'⟩ := hr
  refine ⟨(t, u) :: trs, pps_cons p q p', fun w H σ s Q R z => ?_⟩
  refine r.bnd R z fun d s1 w1 H1 v1 l1 R1 r1 p1 => ?_
  refine h.bnd R1 p1 fun e s2 w2 H2 v2 l2 R2 r2 p2 => ?_
  refine h'.bnd R2 p2 fun ds s3 w3 H3 v3 l3 R3 r3 p3 => ?_
  obtain ⟨kvs, e3, r3⟩ := r3
  cases hk : keyD d with
  | none => rw [hk] at p3; exact p3.elim
  | some k =>
    rw [hk] at p3
    have e1 := key_of r1 hk
    refine Post.here p3 R3 ⟨(k, v2) :: kvs, ?_, .cons (r2.up l3) r3⟩
    rw [List.map_cons, e1, e3]
theorem dn_disp (h : DP X W pos ks vs fr) (hall : ks.all (·.isSome) = true := by rfl) (hl : ks.length = vs.length := by rfl) (h0 : ks ≠ [] := by (intro z; cases z)) (h15 : ks.length ≤ 15 := by decide) : DN X W (.Dict ks vs pos) (dspM fr) := by
  obtain ⟨trs, p, r⟩ := h
  refine ⟨_, pe_disp p hall hl h0 h15, fun w H σ s Q R z => ?_⟩
  intro q hq
  have f := R.fresh hq
  have R0 := R.laid (o := .dK []) hq
  refine r w _ σ s _ R0 ?_
  unfold dspM bnd at z
  cases hf : fr s with
  | bad => rw [hf] at z; exact z.elim
  | exc e s1 => rw [hf] at z; exact fun w' H' l R' => z w' H' ((Le.laid hq).trans l) R'
  | ok ds s1 =>
    rw [hf] at z
    rintro w1 H1 _ l1 R1 ⟨kvs, rfl, rk⟩
    have hq1 : H1 q = some (.dK []) := l1.keep q _ upd_same f.2
    have nF : w1.F q = none := by
      cases e : w1.F q with
      | none => rfl
      | some o =>
        rcases l1.newF q o e with h | h | h
        · rw [f.1] at h; cases h
        · rw [upd_same] at h; cases h
        · exact (f.2 h).elim
    have nR : q ∉ w1.ρ := fun h => by
      rcases l1.newρ q h with h | h
      · exact f.2 h
      · rw [upd_same] at h; cases h
    dsimp only at z
    by_cases hl : ds.length ≤ 15
    · rw [if_pos hl] at z
      refine ⟨hq1, kvs, rfl, by rw [RepK.length rk]; exact hl, ?_⟩
      exact z w1 _ _ (((Le.laid hq).trans l1).mut hq) (R1.mut nF nR) ⟨q, rfl, nF, nR, ⟨_, upd_same, RepK.merge rk .nil⟩, hq⟩
    · rw [if_neg hl] at z; exact z.elim
theorem dn_dict0 {pos : Pos} : DN X W (.Dict [] [] pos) (ret (.dct [])) := by
  refine ⟨_, pe_dnewK, fun w H σ s Q R z => fun q hq => ?_⟩
  have f := R.fresh hq
  exact z w _ _ (Le.laid hq) (R.laid hq) ⟨q, rfl, f.1, f.2, ⟨_, upd_same, .nil⟩, hq⟩
end
end Fx

/-! Fx: sets of ints made of lists -/
namespace L2
open PySem PySem.Spec PyProof.Rows
abbrev bareSet (w : World) : Obj := { cls := .type "set", dict := none, data := .set #[] 0 (.fresh 0 0 (!w.params.followText "set-order")) }
section
variable {P : Program} {w : World} {A : Around} {E : Value → Shared → Prop} {s : Shared}
set_option maxHeartbeats 3200000 in
/-- set(xs) of a list of ints, the set's inside told -/
theorem set_of_list {l : Addr} {items : Array Value} (ns : List Int) {Q : Value → Shared → Prop} (hh : A.handled = none) (hl : s.heap.IsList l items) (hit : IntsAre items.toList ns) (hb : ns.length + 1 < scanBound)
    (k : ∀ (h' : Heap) (tk c : Nat), SetR w h' s.heap.objs.size (fun j => decide (j ∈ ns)) c → c ≤ ns.length → (∀ b o, s.heap.get? b = some o → h'.get? b = some o) → Q (.ref s.heap.objs.size) { s with heap := h', toks := tk }) :
    wpAny (model P w) A (call (.type "set") [.ref l]) Q E s := by
  have many : items.size = ns.length := by rw [← Array.length_toList]; exact IntsAre.length hit
  obtain ⟨c, tl, hmro⟩ := F.called_set.mro
  have a1 := F.called_set.made
  have a2 := F.called_set.sub
  refine wpAny_call (codeAny_of_tree (wpAny_pure ⟨Code.quiet_builtin _ (by decide +kernel), codeAny_builtin F.entry_type_call ?_⟩ : wpAny _ _ (callAny (.type "set") _) _ _ _))
  rw [Around.under_plain (weight_type_call_type "set" [.ref l] []) rfl]
  have a3 := F.called_set.notType
  have a4 := F.called_set.canCreate
  have a5 := F.typeCall_set_1 (.ref l)
  repeat (any_goals (first | assumption | wp_step))
  refine codeAny_mono (code_set_led1 (.ref l) (E := E) (Q₁ := fun obj s₁ => obj = .ref s.heap.objs.size ∧ s₁ = { s with heap := s.heap.push (bareSet w) }) ⟨rfl, rfl⟩) fun r s₁ hr => ?_
  match r, hr with
  | .error e, hr => exact hr
  | .ok (.ret obj), hr =>
    obtain ⟨rfl, rfl⟩ := hr
    have here : (s.heap.push (bareSet w)).get? s.heap.objs.size = some (bareSet w) := Heap.get?_push_size _ rfl
    have isSet : Shared.TypeIs { s with heap := s.heap.push (bareSet w) } (.ref s.heap.objs.size) "set" := ⟨_, here, rfl⟩
    have b1 := F.called_set.init.lookup
    have b2 := F.called_set.init.bind (.ref s.heap.objs.size)
    repeat (any_goals (first | assumption | wp_step))
    refine codeAny_mono (codeAny_call_builtin (R := wants (fun r s₂ => r = .none ∧ ∃ h' tk c, s₂ = { s with heap := h', toks := tk } ∧ SetR w h' s.heap.objs.size (fun j => decide (j ∈ ns)) c ∧ c ≤ ns.length ∧ (∀ b o, s.heap.get? b = some o → h'.get? b = some o)) E)
      F.called_set.init.plain F.entry_set_init (check_set_init_1 isSet ?_)) fun r₂ s₂ hr₂ => ?_
    · obtain ⟨⟨cl0, di0, da0, sl0⟩, at0, rfl, n0, rfl⟩ := hl
      have at1 : (s.heap.push (bareSet w)).get? l = some { cls := .type "list", dict := di0, data := .seq items n0, slots := sl0 } := Heap.get?_push_of_some _ at0
      have c1 := F.sub_list_set
      have c2 := F.sub_list_frozenset
      have c3 : (Value.type "list" == Value.type "dict") = false := by decide
      have list1 : (s.heap.push (bareSet w)).IsList l items := ⟨_, at1, rfl, n0, rfl⟩
      unfold Builtin.«set.__init__» noKeywords Builtin.Frozenset.updateFrom
      generalize hPI : pyIter = PI
      wp_walk
      subst hPI
      refine wpAny_pyIter_list list1 (wpAny_bind (wpAny_runValue ?_))
      have lt0 : l < s.heap.objs.size := Heap.lt_size at0
      have quiet : A.in1.in1.in1.handled = none := by simp [hh]
      have sz : (s.heap.push (bareSet w)).objs.size = s.heap.objs.size + 1 := Heap.size_push ..
      have ne1 : l ≠ (s.heap.push (bareSet w)).objs.size := by rw [sz]; exact Nat.ne_of_lt (Nat.lt_succ_of_lt lt0)
      have out1 : s.heap.objs.size ∉ [(s.heap.push (bareSet w)).objs.size, l] := by simp only [List.mem_cons, List.not_mem_nil, or_false, not_or]; rw [sz]; exact ⟨Nat.ne_of_lt (Nat.lt_succ_self _), Nat.ne_of_gt lt0⟩
      have each : ∀ (i : Nat) (v : Value), items[i]? = some v → ∃ k t, ns[i]? = some k ∧ v = .int k t := fun i v hv => by
        have hi : i < ns.length := by rw [← many]; exact (Array.getElem?_eq_some_iff.mp hv).1
        obtain ⟨t, e⟩ := PyProof.Rows.IntsAre.int_at hit i v (by rw [Array.getElem?_toList]; exact hv)
        exact ⟨ns[i], t, List.getElem?_eq_getElem hi, by rw [e, List.getD_eq_getElem?_getD, List.getElem?_eq_getElem hi]; rfl⟩
      refine set_update_ints ((Walks.list quiet _ l ne1 items).toS) s.heap.objs.size out1 ns many hb each (items.size - 0) 0 _ (by omega) (Nat.zero_le _) ⟨⟨_, Heap.get?_push_size _ rfl, rfl, rfl⟩, (list1.push _)⟩ ⟨0, Nat.le_refl 0, setR_new_at (Heap.get?_push_of_some _ here)⟩ ?_
      rintro ⟨h', g2, d', tk', os'⟩ c' mv hc' hS'
      obtain rfl : g2 = s.gens := mv.gens
      obtain rfl : d' = s.drawn := mv.drawn
      obtain rfl : os' = s.os := mv.os
      show wpAny _ _ _ _ _ _
      refine wpAny_pure ?_
      show wpAny _ _ (ret Value.none) _ _ _
      refine wpAny_pure ⟨rfl, h', tk', c', rfl, hS', by rw [← many]; exact hc', fun b o e => ?_⟩
      have lt1 : b < s.heap.objs.size := Heap.lt_size e
      exact mv.heap b o (by simp only [List.mem_cons, List.not_mem_nil, or_false, not_or]; rw [sz]; exact ⟨Nat.ne_of_lt lt1, Nat.ne_of_lt (Nat.lt_succ_of_lt lt1)⟩) (Heap.get?_push_of_some _ (Heap.get?_push_of_some _ e))
    · match r₂, hr₂ with
      | .error e, hr₂ => exact hr₂
      | .ok (.ret r), hr₂ =>
        obtain ⟨rfl, h', tk, c, rfl, hS', hc', hk'⟩ := hr₂
        repeat (any_goals (first | assumption | wp_step))
        exact k _ _ _ hS' hc' hk'
variable {X : Cx}
/-- set(xs), ints -/
def rSetOf (K : PySem.W.Frag) (w : World) : List V → Hp → VK → Prop := fun vs H Q => ∃ (a : Addr) (ns : List Int), vs = [V.ref a] ∧ SqL K H a (ns.map V.int) ∧ ns.length + 1 < scanBound ∧ ∀ (p : Addr) (n : Nat), H p = none → n ≤ ns.length → Q (.ref p) (upd H p (SetO w p (fun j => decide (j ∈ ns)) n))
theorem cr_setOf (hc : X.calm = true) : CallR X (.type "set") (rSetOf X.K X.w) := by
  intro pins s σ H xs us Q I r h
  obtain ⟨a, ns, rfl, hs, hb, q⟩ := h
  obtain ⟨its, rv, hl, hz⟩ := I.list hs
  rw [Vals.ref1 r]
  refine set_of_list ns (I.ok.hd hc) hl.isList (by simpa using ints_of_vals rv) hb fun h' tk c R hc' keep => ?_
  exact ⟨.ref _, upd H s.heap.objs.size (SetO X.w s.heap.objs.size (fun j => decide (j ∈ ns)) c), I.laid (t' := tk) keep (Nat.le_refl _) (setO_new R), rfl, q _ _ (I.hok.fresh (Nat.le_refl _)) hc'⟩
end
end L2

/-! Fx: sorted, of lists, dicts, sets -/
namespace Fx
open PySem PySem.Spec PyProof.Rows L2
variable {X : Cx} {W : WX}
/-! ### the results, plainly -/
def sortZ (ns : List Int) : List Int := ns.mergeSort fun a b => decide (a ≤ b)
theorem sortZ_perm (ns : List Int) : (sortZ ns).Perm ns := List.mergeSort_perm ns _
theorem sortZ_le (ns : List Int) : (sortZ ns).Pairwise (· ≤ ·) := by
  have := List.pairwise_mergeSort (le := fun a b : Int => decide (a ≤ b)) (fun a b c h1 h2 => by simp at *; omega) (fun a b => by simp; omega) ns
  exact this.imp fun h => by simpa using h
theorem eq_sortZ {ns ms : List Int} (hp : ms.Perm ns) (hs : ms.Pairwise (· ≤ ·)) : ms = sortZ ns :=
  List.Perm.eq_of_pairwise (fun _ _ _ _ a b => Int.le_antisymm a b) hs (sortZ_le ns) (hp.trans (sortZ_perm ns).symm)
def insZ (x : Int) : List Int → List Int
  | [] => [x]
  | y :: r => if x < y then x :: y :: r else if x = y then y :: r else y :: insZ x r
def setZ (ns : List Int) : List Int := ns.foldr insZ []
theorem mem_insZ {x z : Int} : ∀ {ns : List Int}, z ∈ insZ x ns ↔ z = x ∨ z ∈ ns
  | [] => by simp [insZ]
  | y :: r => by
    unfold insZ
    split
    · simp
    · split
      · next h => subst h; simp
      · rw [List.mem_cons, mem_insZ (ns := r), List.mem_cons]
        constructor
        · rintro (h | h | h)
          · exact .inr (.inl h)
          · exact .inl h
          · exact .inr (.inr h)
        · rintro (h | h | h)
          · exact .inr (.inl h)
          · exact .inl h
          · exact .inr (.inr h)
theorem insZ_lt {x : Int} : ∀ {ns : List Int}, ns.Pairwise (· < ·) → (insZ x ns).Pairwise (· < ·)
  | [], _ => by simp [insZ]
  | y :: r, h => by
    have ⟨h1, h2⟩ := List.pairwise_cons.mp h
    unfold insZ
    split
    · next c => exact List.pairwise_cons.mpr ⟨fun z hz => by
        rcases List.mem_cons.mp hz with e | e
        · rw [e]; exact c
        · exact Int.lt_trans c (h1 z e), h⟩
    · split
      · exact h
      · next c c2 => exact List.pairwise_cons.mpr ⟨fun z hz => by
          rcases mem_insZ.mp hz with e | e
          · rw [e]; omega
          · exact h1 z e, insZ_lt h2⟩
theorem mem_setZ {z : Int} (ns : List Int) : z ∈ setZ ns ↔ z ∈ ns := by
  unfold setZ
  induction ns with
  | nil => simp
  | cons x r ih => rw [List.foldr_cons, mem_insZ, ih, List.mem_cons]
theorem setZ_lt (ns : List Int) : (setZ ns).Pairwise (· < ·) := by
  unfold setZ
  induction ns with
  | nil => exact List.Pairwise.nil
  | cons x r ih => rw [List.foldr_cons]; exact insZ_lt ih
theorem ltZ_ext : ∀ {as bs : List Int}, as.Pairwise (· < ·) → bs.Pairwise (· < ·) → (∀ z, z ∈ as ↔ z ∈ bs) → as = bs
  | [], [], _, _, _ => rfl
  | [], b :: bs, _, _, h => absurd ((h b).mpr List.mem_cons_self) (by simp)
  | a :: as, [], _, _, h => absurd ((h a).mp List.mem_cons_self) (by simp)
  | a :: as, b :: bs, ha, hb, h => by
    have ⟨a1, a2⟩ := List.pairwise_cons.mp ha
    have ⟨b1, b2⟩ := List.pairwise_cons.mp hb
    have e : a = b := by
      rcases List.mem_cons.mp ((h a).mp List.mem_cons_self) with e | e
      · exact e
      · rcases List.mem_cons.mp ((h b).mpr List.mem_cons_self) with e2 | e2
        · exact e2.symm
        · have := a1 b e2; have := b1 a e; omega
    subst e
    rw [ltZ_ext a2 b2 fun z => ?_]
    constructor
    · intro hz
      rcases List.mem_cons.mp ((h z).mp (List.mem_cons_of_mem _ hz)) with e | e
      · have := a1 z hz; omega
      · exact e
    · intro hz
      rcases List.mem_cons.mp ((h z).mpr (List.mem_cons_of_mem _ hz)) with e | e
      · have := b1 z hz; omega
      · exact e
theorem eq_setZ {ns ms : List Int} (hs : ms.Pairwise (· < ·)) (h : ∀ z, z ∈ ms ↔ z ∈ ns) : ms = setZ ns := ltZ_ext hs (setZ_lt ns) fun z => by rw [h, mem_setZ]
/-! texts -/
def leT (a b : Str) : Bool := !decide (b.cps.toList < a.cps.toList)
def sortT (xs : List Str) : List Str := xs.mergeSort leT
theorem leT_tr (a b c : Str) (h1 : leT a b = true) (h2 : leT b c = true) : leT a c = true := by
  unfold leT at *
  simp only [Bool.not_eq_true', decide_eq_false_iff_not] at *
  exact fun h => h2 (by
    rcases Classical.em (b.cps.toList < a.cps.toList) with z | z
    · exact absurd z h1
    · exact Std.lt_of_lt_of_le h (List.not_lt.mp z))
theorem leT_tot (a b : Str) : (leT a b || leT b a) = true := by
  unfold leT
  by_cases h : b.cps.toList < a.cps.toList
  · have : ¬ a.cps.toList < b.cps.toList := fun z => absurd (List.lt_trans h z) (List.lt_irrefl _)
    simp [h, this]
  · simp [h]
theorem leT_anti {a b : Str} (h1 : leT a b = true) (h2 : leT b a = true) : a = b := by
  unfold leT at *
  simp only [Bool.not_eq_true', decide_eq_false_iff_not] at *
  have := List.le_antisymm (List.not_lt.mp h1) (List.not_lt.mp h2)
  cases a; cases b
  congr 1
  exact Array.toList_inj.mp this
theorem sortT_perm (xs : List Str) : (sortT xs).Perm xs := List.mergeSort_perm xs _
theorem sortT_le (xs : List Str) : (sortT xs).Pairwise fun a b => leT a b = true := List.pairwise_mergeSort leT_tr leT_tot xs
theorem rising_pw : ∀ (x : Str) (xs : List Str), risingS x xs = true → (x :: xs).Pairwise fun a b => leT a b = true
  | x, [], _ => List.pairwise_singleton _ _
  | x, y :: r, h => by
    have h : (!ltCps y.cps.toList x.cps.toList && risingS y r) = true := h
    rw [Bool.and_eq_true] at h
    have ih := rising_pw y r h.2
    have e : leT x y = true := by unfold leT; rw [← ltCps_eq]; exact h.1
    refine List.pairwise_cons.mpr ⟨fun z hz => ?_, ih⟩
    rcases List.mem_cons.mp hz with q | q
    · rw [q]; exact e
    · exact leT_tr x y z e ((List.pairwise_cons.mp ih).1 z q)
theorem eq_sortT {xs ys : List Str} (hp : ys.Perm xs) (hs : sortedS ys = true) : ys = sortT xs := by
  refine List.Perm.eq_of_pairwise (fun _ _ _ _ a b => leT_anti a b) ?_ (sortT_le xs) (hp.trans (sortT_perm xs).symm)
  cases ys with
  | nil => exact List.Pairwise.nil
  | cons y r => exact rising_pw y r hs
/-! ### sorted(d) -/
def intsOf : List D → Option (List Int)
  | [] => some []
  | .int i :: r => (intsOf r).map (i :: ·)
  | _ => none
def intKs : List (Key × D) → Option (List Int)
  | [] => some []
  | (.inl i, _) :: r => (intKs r).map (i :: ·)
  | _ => none
def strKs : List (Key × D) → Option (List Str)
  | [] => some []
  | (.inr x, _) :: r => (strKs r).map (x :: ·)
  | _ => none
theorem ints_rep' {K : PySem.W.Frag} {w : Wd} : ∀ {vs : List V} {ds : List D} {ns : List Int}, RepL K w vs ds → intsOf ds = some ns → vs = ns.map V.int
  | _, _, ns, .nil, h => by cases h; rfl
  | _, _, ns, .cons (d := d) (ds := ds) r t, h => by
    cases r with
    | int i =>
      unfold intsOf at h
      cases e : intsOf ds with
      | none => rw [e] at h; cases h
      | some zs => rw [e] at h; cases h; rw [ints_rep' t e]; rfl
    | _ => cases h
theorem intKs_of : ∀ {kvs : List (Key × D)} {ns : List Int}, intKs kvs = some ns → kvs.map (·.1) = ns.map Sum.inl
  | [], ns, h => by cases h; rfl
  | (.inl i, d) :: r, ns, h => by
    unfold intKs at h
    cases e : intKs r with
    | none => rw [e] at h; cases h
    | some zs => rw [e] at h; cases h; rw [List.map_cons, intKs_of e]; rfl
  | (.inr x, d) :: r, ns, h => by cases h
theorem strKs_of : ∀ {kvs : List (Key × D)} {ns : List Str}, strKs kvs = some ns → kvs.map (·.1) = ns.map Sum.inr
  | [], ns, h => by cases h; rfl
  | (.inr i, d) :: r, ns, h => by
    unfold strKs at h
    cases e : strKs r with
    | none => rw [e] at h; cases h
    | some zs => rw [e] at h; cases h; rw [List.map_cons, strKs_of e]; rfl
  | (.inl x, d) :: r, ns, h => by cases h
/-- sorted of a list of ints (any many), of texts, of a dict with ints or texts as keys (fewer than 64) -/
def sortI1 : List D → M Cell
  | [d] => fun s => match lstOf s d with
    | some ds => match intsOf ds with
      | some ns => .ok (.lst ((sortZ ns).map D.int)) s
      | none => .bad
    | none => .bad
  | _ => fail
def sortI2 : List D → M Cell
  | [d] => fun s => match lstOf s d with
    | some ds => match strsOf ds with
      | some xs => .ok (.lst ((sortT xs).map D.str)) s
      | none => .bad
    | none => .bad
  | _ => fail
def sortI3 : List D → M Cell
  | [d] => fun s => match dctR s d with
    | some kvs => match intKs kvs with
      | some ns => if ns.length < 64 then .ok (.lst ((sortZ ns).map D.int)) s else .bad
      | none => .bad
    | none => .bad
  | _ => fail
def sortI4 : List D → M Cell
  | [d] => fun s => match dctR s d with
    | some kvs => match strKs kvs with
      | some ns => if ns.length < 64 then .ok (.lst ((sortT ns).map D.str)) s else .bad
      | none => .bad
    | none => .bad
  | _ => fail
def sortedM (ds : List D) : M Cell := altM (altM (sortI1 ds) (sortI2 ds)) (altM (sortI3 ds) (sortI4 ds))
theorem RS.giveL {K : PySem.W.Frag} {w : Wd} {H : Hp} {σ : L2.St} {s : S} {vs : List V} {ds : List D} {Q : V → Hp → Prop} (R : RS K w H σ s) (r : RepL K w vs ds) (p : Post K W (pN K) w H σ (.ok (.lst ds) s) Q) {q : Addr} (hq : H q = none) : Q (.ref q) (upd H q (.lst vs)) :=
  p w _ _ (Le.laid hq) (R.laid hq) ⟨q, rfl, (R.fresh hq).1, (R.fresh hq).2, ⟨_, upd_same, r⟩, hq⟩
theorem repInts {K : PySem.W.Frag} {w : Wd} : ∀ ns : List Int, RepL K w (ns.map V.int) (ns.map D.int)
  | [] => .nil
  | n :: r => .cons (.int n) (repInts r)
theorem repStrs {K : PySem.W.Frag} {w : Wd} : ∀ ns : List Str, RepL K w (ns.map V.str) (ns.map D.str)
  | [] => .nil
  | n :: r => .cons (.str n) (repStrs r)
theorem rc_sort1 : RCalN X (rSortedI X.K) sortI1 := by
  intro W w H σ s vs ds Q R r p
  unfold sortI1 at p
  split at p
  · next d =>
    obtain ⟨v, rfl, rv⟩ := one_of r
    split at p
    · next es he =>
      split at p
      · next ns hn =>
        obtain ⟨a, us, rfl, h1, h2⟩ := R.list rv he
        rw [ints_rep' h2 hn] at h1
        refine ⟨a, ns, rfl, h1, fun ms q hp hs hq => ?_⟩
        rw [eq_sortZ hp hs]
        exact R.giveL (repInts _) p hq
      · exact p.elim
    · exact p.elim
  · exact p.elim
/-- sorted(xs), texts, any number of them -/
def rSortedSA (K : PySem.W.Frag) : List V → Hp → VK → Prop := fun vs H Q => ∃ (a : Addr) (xs : List Str), vs = [V.ref a] ∧ SqL K H a (xs.map V.str) ∧ ∀ p, H p = none → Q (.ref p) (upd H p (.lst ((sortT xs).map V.str)))
theorem each_strs : ∀ {xs : List Str} {us : List Value}, StrsAre us xs → PySem.W.EachIs (fun v x => ∃ t, v = Value.str x t) us xs
  | _, _, .nil => .nil
  | _, _, .cons _ t r => .cons ⟨t, rfl⟩ (each_strs r)
theorem strs_each : ∀ {us : List Value} {xs : List Str}, PySem.W.EachIs (fun v x => ∃ t, v = Value.str x t) us xs → StrsAre us xs
  | _, _, .nil => .nil
  | _, _, .cons ⟨t, h⟩ r => by subst h; exact .cons _ t (strs_each r)
theorem cr_sortedSA {X : Cx} (hu : X.A.units + 64 < cLine) : CallR X (.builtin "sorted") (rSortedSA X.K) := by
  intro pins s σ H vs us Q I r h
  obtain ⟨a, xs, rfl, hs, q⟩ := h
  obtain ⟨its, rv, hl, hz⟩ := I.list hs
  rw [Vals.ref1 r]
  have e := each_strs rv.strs
  rw [List.length_map] at hz
  refine PySem.W.sorted_data (enc := fun x : Str => PyData.str x) hl.isList e (e.mono fun v x ⟨t, h⟩ => ⟨[], by rw [h]; exact .str x t⟩) (PySem.W.AllAlike.of fun _ _ => rfl) (PySem.W.Sortable.others fun b => ⟨(by intro z; cases z), (by intro xs z; cases z)⟩) hz (fun b _ => by show X.A.units + 2 + 0 < cLine; omega) fun out h1 h2 => ?_
  have e2 : (PySem.W.dataLe false fun x : Str => PyData.str x) = leT := by
    rw [PySem.W.dataLe_str (fun x : Str => x)]
    funext a b
    unfold leT
    rw [PySem.W.not_lt_str]
  rw [e2] at h2
  have h2 : PySem.W.EachIs (fun v x => ∃ t, v = Value.str x t) out (sortT xs) := h2
  obtain ⟨ep, he'⟩ := PyProof.Rows.sortedAll_at s.heap its out.toArray
  have hlen : ((sortT xs).map V.str).length ≤ sizeLine := by rw [List.length_map, (sortT_perm xs).length_eq]; exact hz
  exact ⟨.ref _, upd H (s.heap.objs.size + 1) (.lst ((sortT xs).map V.str)), I.laid (t' := s.toks) (fun _ _ => PyProof.Rows.sortedAll_old) (Nat.le_succ _) ⟨hlen, out, ep, vals_of_strs (strs_each h2), he'⟩, rfl, q _ (I.hok.fresh (Nat.le_succ _))⟩
theorem rc_sort2 : RCalN X (rSortedSA X.K) sortI2 := by
  intro W w H σ s vs ds Q R r p
  unfold sortI2 at p
  split at p
  · next d =>
    obtain ⟨v, rfl, rv⟩ := one_of r
    split at p
    · next es he =>
      split at p
      · next ns hn =>
        obtain ⟨a, us, rfl, h1, h2⟩ := R.list rv he
        rw [strs_rep h2 hn] at h1
        exact ⟨a, ns, rfl, h1, fun q hq => R.giveL (repStrs _) p hq⟩
      · exact p.elim
    · exact p.elim
  · exact p.elim
section
variable {e : Expr} {fs : M (List D)} {p pos : Pos}
theorem dn_sorted (hu : X.A.units + 64 < cLine) (hm : X.mg "sorted" = none) (ha : DA X W [e] fs) (hc : X.calm = true := by rfl) (hg : Gl X "sorted" := by rfl) (he : starEach [e] X.env = (false, eval e X.env) :: starEach [] X.env := by rfl) (hpl : (backTo pos (starEach [] X.env)).any (·.1) = false := by rfl) :
    DN X W (.Call (.Name "sorted" p) [e] [] pos) (bnd fs sortedM) := by
  have hv : bootBuiltins "sorted" = some (.builtin "sorted") := by decide +kernel
  have c1 : DN X W (.Call (.Name "sorted" p) [e] [] pos) (bnd fs sortI1) := dn_callB cr_sortedI rc_sort1 hm ha hv hg (by decide) (by decide) he hpl
  have c2 : DN X W (.Call (.Name "sorted" p) [e] [] pos) (bnd fs sortI2) := dn_callB (cr_sortedSA hu) rc_sort2 hm ha hv hg (by decide) (by decide) he hpl
  have c3 : DN X W (.Call (.Name "sorted" p) [e] [] pos) (bnd fs sortI3) := dn_callB (call_sortedDI hc) (fun W w H σ s vs ds Q R r p => by
    unfold sortI3 at p
    split at p
    · next d =>
      obtain ⟨v, rfl, rv⟩ := one_of r
      split at p
      · next kvs he =>
        split at p
        · next ns hn =>
          split at p
          · next hl =>
            obtain ⟨a, us, rfl, h1, h2⟩ := R.dictR rv he
            refine ⟨a, us, ns, rfl, h1, by rw [RepK.keys h2]; exact intKs_of hn, hl, fun ms q hp hs hq => ?_⟩
            rw [eq_sortZ hp hs]
            exact R.giveL (repInts _) p hq
          · exact p.elim
        · exact p.elim
      · exact p.elim
    · exact p.elim) hm ha hv hg (by decide) (by decide) he hpl
  have c4 : DN X W (.Call (.Name "sorted" p) [e] [] pos) (bnd fs sortI4) := dn_callB (call_sortedD hc) (fun W w H σ s vs ds Q R r p => by
    unfold sortI4 at p
    split at p
    · next d =>
      obtain ⟨v, rfl, rv⟩ := one_of r
      split at p
      · next kvs he =>
        split at p
        · next ns hn =>
          split at p
          · next hl =>
            obtain ⟨a, us, rfl, h1, h2⟩ := R.dictR rv he
            refine ⟨a, us, ns, rfl, h1, by rw [RepK.keys h2]; exact strKs_of hn, hl, fun ms q hp hs hq => ?_⟩
            rw [eq_sortT hp hs]
            exact R.giveL (repStrs _) p hq
          · exact p.elim
        · exact p.elim
      · exact p.elim
    · exact p.elim) hm ha hv hg (by decide) (by decide) he hpl
  have bo : ∀ (f g : List D → M Cell) (s : S), bnd fs (fun ds => altM (f ds) (g ds)) s = bnd fs f s ∨ bnd fs (fun ds => altM (f ds) (g ds)) s = bnd fs g s := fun f g s => by
    unfold bnd
    cases fs s with
    | bad => exact .inl rfl
    | exc e s' => exact .inl rfl
    | ok ds s' => exact alt_is _ _ s'
  exact dn_or2 (dn_or2 c1 c2 (bo _ _)) (dn_or2 c3 c4 (bo _ _)) (bo _ _)
/-- sorted(set(xs)), fewer than 64 ints -/
def sortSetM (d : D) : M Cell := fun s => match lstOf s d with
  | some ds => match intsOf ds with
    | some ns => if ns.length < 64 then .ok (.lst ((setZ ns).map D.int)) s else .bad
    | none => .bad
  | none => .bad
theorem dn_sortSet {q q2 : Pos} {fe : M D} (hm : X.mg "sorted" = none) (hm2 : X.mg "set" = none) (ha : DE X W e fe) (hc : X.calm = true := by rfl) (hg : Gl X "sorted" := by rfl) (hg2 : Gl X "set" := by rfl) (he : starEach [e] X.env = (false, eval e X.env) :: starEach [] X.env := by rfl) (hpl : (backTo q2 (starEach [] X.env)).any (·.1) = false := by rfl)
    (he2 : starEach [Expr.Call (.Name "set" q) [e] [] q2] X.env = (false, eval (Expr.Call (.Name "set" q) [e] [] q2) X.env) :: starEach [] X.env := by rfl) (hpl2 : (backTo pos (starEach [] X.env)).any (·.1) = false := by rfl) :
    DN X W (.Call (.Name "sorted" p) [.Call (.Name "set" q) [e] [] q2] [] pos) (bnd fe sortSetM) := by
  obtain ⟨t, pe, r⟩ := ha
  refine ⟨_, pe_callB (cr_sortedSet hc) hg hm (by decide +kernel) (pa_cons (pe_callTy (cr_setOf hc) hg2 hm2 (by decide +kernel) (pa_cons pe pa_nil he) (by decide) (by decide) he hpl) pa_nil he2) (by decide) (by decide) he2 hpl2, fun w H σ s Q R z => ?_⟩
  refine r.bnd R z fun d s1 w1 H1 v l1 R1 r1 p1 => ?_
  unfold sortSetM at p1
  split at p1
  · next es hes =>
    split at p1
    · next ns hn =>
      split at p1
      · next hl =>
        obtain ⟨a, us, rfl, h1, h2⟩ := R1.list r1 hes
        rw [ints_rep' h2 hn] at h1
        refine ⟨a, ns, rfl, h1, Nat.lt_of_lt_of_le (show ns.length + 1 < 65 by omega) (by decide), fun q n hq hn2 => ?_⟩
        refine ⟨q, _, n, rfl, upd_same, by omega, fun ms q3 hlt hmem hlen hq3 => ?_⟩
        have e : ms = setZ ns := eq_setZ hlt fun z => by rw [hmem]; exact decide_eq_true_iff
        rw [e]
        have R2 := R1.laid (o := SetO X.w q (fun j => decide (j ∈ ns)) n) hq
        have p2 := p1.up (Le.laid (w := w1) (o := SetO X.w q (fun j => decide (j ∈ ns)) n) hq)
        exact R2.giveL (repInts _) p2 hq3
      · exact p1.elim
    · exact p1.elim
  · exact p1.elim
end
end Fx

/-! Fx: odds and ends for the printed texts -/
namespace Fx
open PySem PySem.Spec PyProof.Rows L2
variable {X : Cx} {W : WX}
theorem ds_never {st : Stmt} : DS X W st fail := ⟨_, ps_never, fun w H σ s D R z => z.elim⟩
/-! int(flag), int(n) -/
def intM : List D → M D
  | [.int i] => ret (.int i)
  | [.bl b] => ret (.int (b2i b))
  | _ => fail
theorem rc_int : RCal X (fun xs H Q => (∃ i, xs = [.int i] ∧ Q (.int i) H) ∨ ∃ k, xs = [.bl k] ∧ Q (.int (b2i k)) H) intM := by
  intro W w H σ s vs ds Q R r p
  unfold intM at p
  split at p
  · obtain ⟨v, rfl, rv⟩ := one_of r
    cases rv
    exact .inl ⟨_, rfl, Post.here p R (Rep.int _)⟩
  · obtain ⟨v, rfl, rv⟩ := one_of r
    cases rv
    exact .inr ⟨_, rfl, Post.here p R (Rep.int _)⟩
  · exact p.elim
/-! list(reversed(xs)) -/
end Fx

/-! Fx: equations for objects, dicts, and the like -/
namespace Fx
open PySem PySem.Spec PyProof.Rows L2
/-! one of two -/
def Res.alt {α : Type} (r q : Res α) : Res α := match r with
  | .bad => q
  | r => r
theorem x_alt {α : Type} {f g : M α} {s : S} : altM f g s = (f s).alt (g s) := by unfold altM Res.alt; rfl
theorem x_altO {α : Type} {a : α} {s : S} {q : Res α} : (Res.ok a s).alt q = .ok a s := nr rfl
theorem x_altB {α : Type} {q : Res α} : (Res.bad : Res α).alt q = q := nr rfl
theorem x_altI {α : Type} {c : Prop} [Decidable c] {a b q : Res α} : (if c then a else b).alt q = if c then a.alt q else b.alt q := by split <;> rfl
/-! cells -/
theorem look_app {vh : List Cell} {i : Nat} {c : Cell} (h : vh[i]? = some c) (more : List Cell) : (vh ++ more)[i]? = some c := by
  rw [List.getElem?_append_left (List.getElem?_eq_some_iff.mp h).1]; exact h
theorem x_at0 {α : Type} {vh r : List α} {c : α} : (vh ++ c :: r)[vh.length]? = some c := by simp
theorem x_at1 {α : Type} {vh r : List α} {a c : α} : (vh ++ a :: c :: r)[vh.length + 1]? = some c := by
  rw [List.getElem?_append_right (by omega)]; simp
theorem x_at2 {α : Type} {vh r : List α} {a b c : α} : (vh ++ a :: b :: c :: r)[vh.length + 2]? = some c := by
  rw [List.getElem?_append_right (by omega)]; simp
theorem x_at3 {α : Type} {vh r : List α} {a b d c : α} : (vh ++ a :: b :: d :: c :: r)[vh.length + 3]? = some c := by
  rw [List.getElem?_append_right (by omega)]; simp
theorem x_st0 {α : Type} {vh r : List α} {a c : α} : (vh ++ a :: r).set vh.length c = vh ++ c :: r := by
  rw [List.set_append_right _ _ (by omega)]; simp
theorem x_st1 {α : Type} {vh r : List α} {a b c : α} : (vh ++ a :: b :: r).set (vh.length + 1) c = vh ++ a :: c :: r := by
  rw [List.set_append_right _ _ (by omega)]; simp
theorem x_st2 {α : Type} {vh r : List α} {a b d c : α} : (vh ++ a :: b :: d :: r).set (vh.length + 2) c = vh ++ a :: b :: c :: r := by
  rw [List.set_append_right _ _ (by omega)]; simp
/-! objects -/
def fldR (x f : Str) (o : Option Cell) (s : S) : Res D := match o with
  | some (.obj y fs) => if y = x then Res.opt (fs.lookup f) s else .bad
  | _ => .bad
theorem x_fld {x f : Str} {n : Nat} {s : S} : fldM x f (.cell n) s = fldR x f s.vh[n]? s := by
  unfold fldM fldR objOf
  dsimp only
  cases s.vh[n]? with
  | none => rfl
  | some c =>
    cases c with
    | obj y fs =>
      dsimp only
      by_cases h : y = x
      · rw [if_pos h, if_pos h]; dsimp only; cases fs.lookup f <;> rfl
      · rw [if_neg h, if_neg h]
    | _ => rfl
def stoR (x f : Str) (v : D) (n : Nat) (o : Option Cell) (s : S) : Res Out := match o with
  | some (.obj y fs) => if y = x then (if fs.length < 1000 then .ok .nx ⟨s.loc, s.vh.set n (.obj y (putD f v fs))⟩ else .bad) else .bad
  | _ => .bad
theorem x_fldS {x f : Str} {fo fv : M D} {s : S} : fldS x f fo fv s = (fv s).then' fun v => bnd fo fun d => stoM x f v d := nr rfl
theorem x_sto {x f : Str} {v : D} {n : Nat} {s : S} : stoM x f v (.cell n) s = stoR x f v n s.vh[n]? s := by
  have e : objOf s x (.cell n) = match s.vh[n]? with | some (.obj y fs) => (if y = x then some fs else none) | _ => none := rfl
  unfold stoM stoR
  rw [e]
  cases s.vh[n]? with
  | none => rfl
  | some c =>
    cases c with
    | obj y fs =>
      dsimp only
      by_cases h : y = x
      · subst h; rw [if_pos rfl, if_pos rfl]
      · rw [if_neg h, if_neg h]
    | _ => rfl
def metK {α : Type} (x m : Str) (fs : M (List D)) (g : List D → M α) (d : D) : M α := fun s => match objOf s x d with
  | some gs => if gs.lookup m = none then bnd fs (fun ds => g (d :: ds)) s else .bad
  | none => .bad
def metR {α : Type} (x m : Str) (o : Option Cell) (r : Res α) : Res α := match o with
  | some (.obj y fs) => if y = x then (if fs.lookup m = none then r else .bad) else .bad
  | _ => .bad
theorem x_met {α : Type} {x m : Str} {fo : M D} {fs : M (List D)} {g : List D → M α} {s : S} : metM x m fo fs g s = (fo s).then' (metK x m fs g) := nr rfl
theorem x_metK {α : Type} {x m : Str} {fs : M (List D)} {g : List D → M α} {n : Nat} {s : S} : metK x m fs g (.cell n) s = metR x m s.vh[n]? ((fs s).then' fun ds => g (.cell n :: ds)) := by
  unfold metK metR objOf
  dsimp only
  cases s.vh[n]? with
  | none => rfl
  | some c =>
    cases c with
    | obj y fs =>
      dsimp only
      by_cases h : y = x
      · rw [if_pos h, if_pos h]; rfl
      · rw [if_neg h, if_neg h]
    | _ => rfl
def metK0 {α : Type} (x m : Str) (g : List D → M α) (d : D) : M α := fun s => match objOf s x d with
  | some gs => if gs.lookup m = none then g [d] s else .bad
  | none => .bad
theorem x_met0 {α : Type} {x m : Str} {fo : M D} {g : List D → M α} {s : S} : metM0 x m fo g s = (fo s).then' (metK0 x m g) := nr rfl
theorem x_metK0 {α : Type} {x m : Str} {g : List D → M α} {n : Nat} {s : S} : metK0 x m g (.cell n) s = metR x m s.vh[n]? (g [.cell n] s) := by
  unfold metK0 metR objOf
  dsimp only
  cases s.vh[n]? with
  | none => rfl
  | some c =>
    cases c with
    | obj y fs =>
      dsimp only
      by_cases h : y = x
      · rw [if_pos h, if_pos h]
      · rw [if_neg h, if_neg h]
    | _ => rfl
/-! calls -/
def callNR (o : Option Cell) (s : S) : Res Cell := match o with
  | some c => .ok c s
  | none => .bad
theorem x_callN {n : Nat} {F : Nf} {ds : List D} {s : S} : callN n F ds s = if ds.length = n then callNR (F ds s.vh) s else .bad := nr rfl
theorem x_callNR {c : Cell} {s : S} : callNR (some c) s = .ok c s := nr rfl
def callSR (o : Option (D × List Cell)) (s : S) : Res D := match o with
  | some (d, vh) => .ok d ⟨s.loc, vh⟩
  | none => .bad
theorem x_callS {n : Nat} {F : Sf} {ds : List D} {s : S} : callS n F ds s = if ds.length = n then callSR (F ds s.vh) s else .bad := nr rfl
theorem x_callSR {d : D} {vh : List Cell} {s : S} : callSR (some (d, vh)) s = .ok d ⟨s.loc, vh⟩ := nr rfl
def mkR (o : Option (D × List Cell)) (n : Nat) (s : S) : Res D := match o with
  | some (.non, vh) => .ok (.cell n) ⟨s.loc, vh⟩
  | _ => .bad
theorem x_make {x : Str} {n : Nat} {F : Sf} {ds : List D} {s : S} : makeM x n F ds s = if ds.length + 1 = n then mkR (F (.cell s.vh.length :: ds) (s.vh ++ [.obj x []])) s.vh.length s else .bad := by
  unfold makeM mkR
  split
  · generalize F (.cell s.vh.length :: ds) (s.vh ++ [.obj x []]) = r
    cases r with
    | none => rfl
    | some p => obtain ⟨d, vh⟩ := p; cases d <;> rfl
  · rfl
theorem x_mkR {n : Nat} {vh : List Cell} {s : S} : mkR (some (.non, vh)) n s = .ok (.cell n) ⟨s.loc, vh⟩ := nr rfl
/-! dicts -/
def ixCR (o : Option Cell) (i : Int) (s : S) : Res D := match o with
  | some (.dct kvs) => Res.opt (valA kvs (.inl i)) s
  | some (.dctL _ _ kvs) => Res.opt (valA kvs (.inl i)) s
  | some (.lst ds) => Res.opt (atI ds i) s
  | _ => .bad
theorem x_ixC {n : Nat} {i : Int} {s : S} : ixAM (.cell n) (.int i) s = ixCR s.vh[n]? i s := by
  unfold ixAM altM ixCR dgetM dctR ixM lstOf keyD
  dsimp only
  cases s.vh[n]? with
  | none => rfl
  | some c =>
    cases c with
    | dct kvs => dsimp only; cases valA kvs (.inl i) <;> rfl
    | dctL _ _ kvs => dsimp only; cases valA kvs (.inl i) <;> rfl
    | lst ds => dsimp only; cases atI ds i <;> rfl
    | obj _ _ => rfl
    | dctN _ _ => rfl
theorem x_ixCd {kvs : List (Key × D)} {i : Int} {s : S} : ixCR (some (.dct kvs)) i s = Res.opt (valA kvs (.inl i)) s := nr rfl
theorem x_ixCl {ds : List D} {i : Int} {s : S} : ixCR (some (.lst ds)) i s = Res.opt (atI ds i) s := nr rfl
theorem x_ixAL {ds : List D} {i : Int} {s : S} : ixAM (.lst ds) (.int i) s = Res.opt (atI ds i) s := by
  show (altM (dgetM (.lst ds) (.int i)) (ixM (.lst ds) (.int i))) s = _
  rw [show altM (dgetM (.lst ds) (.int i)) (ixM (.lst ds) (.int i)) s = ixM (.lst ds) (.int i) s from rfl, x_ixL]
theorem x_ixAT {ds : List D} {i : Int} {s : S} : ixAM (.tup ds) (.int i) s = Res.opt (atI ds i) s := by
  rw [show ixAM (.tup ds) (.int i) s = ixM (.tup ds) (.int i) s from rfl, x_ixT]
theorem x_ixAS {x : Str} {i : Int} {s : S} : ixAM (.str x) (.int i) s = ixM (.str x) (.int i) s := nr rfl
def dstR (o : Option Cell) (x : Str) (s : S) : Res D := match o with
  | some (.dct kvs) => Res.opt (valA kvs (.inr x)) s
  | some (.dctL _ _ kvs) => Res.opt (valA kvs (.inr x)) s
  | _ => .bad
theorem x_ixD {n : Nat} {x : Str} {s : S} : ixAM (.cell n) (.str x) s = dstR s.vh[n]? x s := by
  unfold ixAM altM dstR dgetM dctR ixM keyD
  dsimp only
  cases s.vh[n]? with
  | none => rfl
  | some c =>
    cases c with
    | dct kvs => dsimp only; cases valA kvs (.inr x) <;> rfl
    | dctL _ _ kvs => dsimp only; cases valA kvs (.inr x) <;> rfl
    | lst ds => rfl
    | obj _ _ => rfl
    | dctN _ _ => rfl
theorem x_dstR {kvs : List (Key × D)} {x : Str} {s : S} : dstR (some (.dct kvs)) x s = Res.opt (valA kvs (.inr x)) s := nr rfl
def inCR (b : Bool) (o : Option Cell) (k : Key) (q : Res D) (s : S) : Res D := match o with
  | some (.dct kvs) => .ok (.bl ((valA kvs k).isSome == b)) s
  | some (.dctL _ _ kvs) => .ok (.bl ((valA kvs k).isSome == b)) s
  | _ => q
theorem x_inC {n : Nat} {i : Int} {s : S} : inAM (.int i) (.cell n) s = inCR true s.vh[n]? (.inl i) (inQ true (.int i) (.cell n) s) s := by
  unfold inAM altM inCR dinM dctR keyD
  dsimp only
  cases s.vh[n]? with
  | none => rfl
  | some c => cases c <;> rfl
theorem x_ninC {n : Nat} {i : Int} {s : S} : ninAM (.int i) (.cell n) s = inCR false s.vh[n]? (.inl i) (inQ false (.int i) (.cell n) s) s := by
  unfold ninAM altM inCR dinM dctR keyD
  dsimp only
  cases s.vh[n]? with
  | none => rfl
  | some c => cases c <;> rfl
theorem x_inS {n : Nat} {i : Str} {s : S} : inAM (.str i) (.cell n) s = inCR true s.vh[n]? (.inr i) (inQ true (.str i) (.cell n) s) s := by
  unfold inAM altM inCR dinM dctR keyD
  dsimp only
  cases s.vh[n]? with
  | none => rfl
  | some c => cases c <;> rfl
theorem x_ninS {n : Nat} {i : Str} {s : S} : ninAM (.str i) (.cell n) s = inCR false s.vh[n]? (.inr i) (inQ false (.str i) (.cell n) s) s := by
  unfold ninAM altM inCR dinM dctR keyD
  dsimp only
  cases s.vh[n]? with
  | none => rfl
  | some c => cases c <;> rfl
theorem x_inCd {b : Bool} {kvs : List (Key × D)} {k : Key} {q : Res D} {s : S} : inCR b (some (.dct kvs)) k q s = .ok (.bl ((valA kvs k).isSome == b)) s := nr rfl
theorem x_inCl {b : Bool} {ds : List D} {k : Key} {q : Res D} {s : S} : inCR b (some (.lst ds)) k q s = q := nr rfl
theorem flL_ints : ∀ ns : List Int, flL (ns.map D.int) = some (ns.map V.int)
  | [] => rfl
  | n :: r => by rw [List.map_cons, flL, flL_ints r]; rfl
theorem inV_ints (i : Int) (ns : List Int) : inV (.int i) (ns.map V.int) = decide (i ∈ ns) := by
  unfold inV
  induction ns with
  | nil => rfl
  | cons n r ih =>
    rw [List.map_cons, List.any_cons, ih]
    show ((n == i) || decide (i ∈ r)) = _
    by_cases h : n = i
    · subst h; simp
    · rw [beq_eq_false_iff_ne.mpr h, Bool.false_or]
      have : ¬ i = n := fun z => h z.symm
      simp [this]
theorem x_inL {i : Int} {ns : List Int} {s : S} : inAM (.int i) (.lst (ns.map D.int)) s = .ok (.bl (decide (i ∈ ns))) s := by
  show inQ true (.int i) (.lst (ns.map D.int)) s = _
  unfold inQ sqOf lstOf
  dsimp only
  rw [flL_ints]
  show Res.ok (D.bl (inV (.int i) (ns.map V.int) == true)) s = _
  rw [inV_ints, beq_true]
theorem x_ninL {i : Int} {ns : List Int} {s : S} : ninAM (.int i) (.lst (ns.map D.int)) s = .ok (.bl (!decide (i ∈ ns))) s := by
  show inQ false (.int i) (.lst (ns.map D.int)) s = _
  unfold inQ sqOf lstOf
  dsimp only
  rw [flL_ints]
  show Res.ok (D.bl (inV (.int i) (ns.map V.int) == false)) s = _
  rw [inV_ints, beq_false]
theorem x_dputS {fo fi fv : M D} {s : S} : dputS fo fi fv s = (fv s).then' fun v => bnd fo fun d => bnd fi fun e => dputM v d e := nr rfl
def dputR (v : D) (n : Nat) (k : Key) (o : Option Cell) (s : S) : Res Out := match o with
  | some (.dct kvs) => if kvs.length < sizeLine then .ok .nx ⟨s.loc, s.vh.set n (.dct (putA kvs k v))⟩ else .bad
  | _ => .bad
theorem x_dput {v : D} {n : Nat} {i : Int} {s : S} : dputM v (.cell n) (.int i) s = dputR v n (.inl i) s.vh[n]? s := by
  unfold dputM dputR keyD
  dsimp only
  all_goals (cases s.vh[n]? with
    | none => rfl
    | some c => cases c <;> rfl)
theorem x_dputT {v : D} {n : Nat} {i : Str} {s : S} : dputM v (.cell n) (.str i) s = dputR v n (.inr i) s.vh[n]? s := by
  unfold dputM dputR keyD
  dsimp only
  all_goals (cases s.vh[n]? with
    | none => rfl
    | some c => cases c <;> rfl)
theorem x_dputR {v : D} {n : Nat} {k : Key} {kvs : List (Key × D)} {s : S} (h : kvs.length < 16777216) : dputR v n k (some (.dct kvs)) s = .ok .nx ⟨s.loc, s.vh.set n (.dct (putA kvs k v))⟩ := by
  unfold dputR
  dsimp only
  rw [if_pos (by rw [sizeLine_eq]; exact h)]
theorem x_pair {p q : M D} {r : M (List (Key × D))} {s : S} : pairM p q r s = (p s).then' fun d => bnd q fun e => bnd r fun ds => match keyD d with | some k => ret ((k, e) :: ds) | none => fail := nr rfl
theorem x_keyI {i : Int} : keyD (.int i) = some (.inl i) := nr rfl
theorem x_keyS {i : Str} : keyD (.str i) = some (.inr i) := nr rfl
theorem x_dsp {r : M (List (Key × D))} {s : S} : dspM r s = (r s).then' fun ds => if ds.length ≤ 15 then ret (.dct (mergeA [] ds)) else fail := nr rfl
theorem x_merge1 {k : Key} {v : D} : mergeA [] [(k, v)] = [(k, v)] := nr rfl
/-! lists that are cells -/
def isTyR (o : Option Cell) : Bool := match o with
  | some (.lst _) => true
  | _ => false
theorem x_isTyC {n : Nat} {s : S} : isTy "list" s (.cell n) = isTyR s.vh[n]? := by
  unfold isTy isTyR lstOf dctOf
  dsimp only
  cases s.vh[n]? with
  | none => rfl
  | some c => cases c <;> rfl
theorem x_isTyR {ds : List D} : isTyR (some (.lst ds)) = true := nr rfl
def appR (n : Nat) (e : D) (o : Option Cell) (s : S) : Res D := match o with
  | some (.lst ds) => if ds.length < sizeLine then .ok .non ⟨s.loc, s.vh.set n (.lst (ds ++ [e]))⟩ else .bad
  | _ => .bad
theorem x_app {n : Nat} {e : D} {s : S} : appM (.cell n) [e] s = appR n e s.vh[n]? s := by
  unfold appM wrM appR
  dsimp only
  cases s.vh[n]? with
  | none => rfl
  | some c =>
    cases c with
    | lst ds =>
      dsimp only
      by_cases h : ds.length < sizeLine
      · rw [if_pos h, if_pos h]
      · rw [if_neg h, if_neg h]
    | _ => rfl
theorem x_appR {n : Nat} {e : D} {ds : List D} {s : S} (h : ds.length < 16777216) : appR n e (some (.lst ds)) s = .ok .non ⟨s.loc, s.vh.set n (.lst (ds ++ [e]))⟩ := by
  unfold appR
  dsimp only
  rw [if_pos (by rw [sizeLine_eq]; exact h)]
theorem x_meth0 {T : String} {f : M D} {g : D → M D} {s : S} : meth0M T f g s = (f s).then' fun d s => if isTy T s d = true then g d s else .bad := nr rfl
def clrR (n : Nat) (o : Option Cell) (s : S) : Res D := match o with
  | some (.lst _) => .ok .non ⟨s.loc, s.vh.set n (.lst [])⟩
  | _ => .bad
theorem x_clrC {n : Nat} {s : S} : clrM (.cell n) s = clrR n s.vh[n]? s := by
  unfold clrM wrM clrR
  dsimp only
  all_goals (cases s.vh[n]? with
    | none => rfl
    | some c => cases c <;> rfl)
theorem x_clrR {n : Nat} {ds : List D} {s : S} : clrR n (some (.lst ds)) s = .ok .non ⟨s.loc, s.vh.set n (.lst [])⟩ := nr rfl
def seqR (n : Nat) (o : Option Cell) (s : S) : Res Wk := match o with
  | some (.lst ds) => .ok ⟨ds, fun s' => itemsOf s' (.cell n) = some ds⟩ s
  | _ => .bad
theorem x_seqC {n : Nat} {s : S} : seqI (.cell n) s = seqR n s.vh[n]? s := by
  unfold seqI seqR itemsOf lstOf
  dsimp only
  cases h : s.vh[n]? with
  | none => rfl
  | some c => cases c <;> rfl
theorem x_seqCR {n : Nat} {ds : List D} {s : S} : seqR n (some (.lst ds)) s = .ok ⟨ds, fun s' => itemsOf s' (.cell n) = some ds⟩ s := nr rfl
def lenR (o : Option Cell) (s : S) : Res D := match o with
  | some (.lst ds) => .ok (.int ds.length) s
  | some (.dct kvs) => .ok (.int kvs.length) s
  | _ => .bad
theorem x_lenC {n : Nat} {s : S} : lenM [.cell n] s = lenR s.vh[n]? s := by
  unfold lenM lenR lstOf dctOf
  dsimp only
  cases h : s.vh[n]? with
  | none => rfl
  | some c => cases c <;> rfl
theorem x_lenR {ds : List D} {s : S} : lenR (some (.lst ds)) s = .ok (.int ds.length) s := nr rfl
theorem x_lenRd {ds : List (Key × D)} {s : S} : lenR (some (.dct ds)) s = .ok (.int ds.length) s := nr rfl
def isaR (T : String) (o : Option Cell) (s : S) : Res D := match o with
  | some (.lst _) => .ok (.bl (isaT T "list")) s
  | some (.dct _) => .ok (.bl (isaT T "dict")) s
  | _ => .bad
theorem x_isaC {T : String} {n : Nat} {s : S} : isaM T (.cell n) s = isaR T s.vh[n]? s := by
  unfold isaM isaR tyName
  dsimp only
  cases h : s.vh[n]? with
  | none => rfl
  | some c => cases c <;> rfl
theorem x_isaR {T : String} {ds : List D} {s : S} : isaR T (some (.lst ds)) s = .ok (.bl (isaT T "list")) s := nr rfl
theorem x_isaRd {T : String} {ds : List (Key × D)} {s : S} : isaR T (some (.dct ds)) s = .ok (.bl (isaT T "dict")) s := nr rfl
theorem litD (s : String) : D.str (Str.ofString s) = D.str (tx (cd s)) := by rw [lit]
theorem x_lstO {ds : List D} {s : S} : lstOf s (.lst ds) = some ds := nr rfl
/-! sorted, ints -/
theorem intsOf_map : ∀ ns : List Int, intsOf (ns.map D.int) = some ns
  | [] => rfl
  | n :: r => by rw [List.map_cons, intsOf, intsOf_map r]; rfl
theorem x_sortSet {ns : List Int} {s : S} (h : ns.length < 64) : sortSetM (.lst (ns.map D.int)) s = .ok (.lst ((setZ ns).map D.int)) s := by
  unfold sortSetM lstOf
  dsimp only
  rw [intsOf_map]
  dsimp only
  rw [if_pos h]
theorem intKs_map (v : Int → D) : ∀ ns : List Int, intKs (ns.map fun n => (Sum.inl n, v n)) = some ns
  | [] => rfl
  | n :: r => by rw [List.map_cons, intKs, intKs_map v r]; rfl
theorem x_sortD {n : Nat} {ns : List Int} {v : Int → D} {s : S} (h : s.vh[n]? = some (.dct (ns.map fun n => (Sum.inl n, v n)))) (hl : ns.length < 64) : sortedM [.cell n] s = .ok (.lst ((sortZ ns).map D.int)) s := by
  have e1 : sortI1 [.cell n] s = .bad := by unfold sortI1 lstOf; dsimp only; rw [h]
  have e2 : sortI2 [.cell n] s = .bad := by unfold sortI2 lstOf; dsimp only; rw [h]
  have e3 : sortI3 [.cell n] s = .ok (.lst ((sortZ ns).map D.int)) s := by
    unfold sortI3 dctR
    dsimp only
    rw [h]
    dsimp only
    rw [intKs_map]
    dsimp only
    rw [if_pos hl]
  unfold sortedM
  rw [x_alt, x_alt, e1, x_altB, e2, x_altB, x_alt, e3, x_altO]
theorem valA_map {α : Type} {v : Int → α} {i : Int} : ∀ {ns : List Int}, valA (ns.map fun n => ((Sum.inl n : Key), v n)) (.inl i) = if i ∈ ns then some (v i) else none
  | [] => by simp [valA]
  | n :: r => by
    have ih := valA_map (v := v) (i := i) (ns := r)
    unfold valA at ih ⊢
    rw [List.map_cons, List.find?_cons]
    by_cases h : n = i
    · subst h; simp
    · rw [decide_eq_false (show ¬ (Sum.inl n : Key) = Sum.inl i from fun z => h (by cases z; rfl))]
      dsimp only
      rw [ih]
      have : ¬ i = n := fun z => h z.symm
      simp [this]
theorem putA_new {α : Type} {v : Int → α} {i : Int} {ns : List Int} (h : i ∉ ns) {x : α} : putA (ns.map fun n => ((Sum.inl n : Key), v n)) (.inl i) x = (ns.map fun n => ((Sum.inl n : Key), v n)) ++ [(.inl i, x)] := by
  unfold putA
  rw [if_neg]
  intro z
  rw [List.any_eq_true] at z
  obtain ⟨kv, h1, h2⟩ := z
  obtain ⟨n, h3, h4⟩ := List.mem_map.mp h1
  subst h4
  have := of_decide_eq_true h2
  cases this
  exact h h3
/-! == of lists of ints -/
theorem ints_pl (ns : List Int) : (ns.map D.int) = (ns.map Pl.int).map Pl.d := by rw [List.map_map]; rfl
theorem ints_ok {ns : List Int} : ∀ p ∈ ns.map Pl.int, p.ok := fun p h => by
  obtain ⟨n, _, rfl⟩ := List.mem_map.mp h
  trivial
theorem plI_inj {as bs : List Int} : (as.map Pl.int = bs.map Pl.int) = (as = bs) := by
  refine propext ⟨fun h => ?_, fun h => by rw [h]⟩
  have := congrArg (List.map fun p => match p with | Pl.int i => i | _ => 0) h
  rw [List.map_map, List.map_map] at this
  simpa [Function.comp_def] using this
theorem x_eqIs {as bs : List Int} {s : S} : eqM (.lst (as.map D.int)) (.lst (bs.map D.int)) s = .ok (.bl (decide (as = bs))) s := by
  rw [ints_pl, ints_pl, x_eqPls ints_ok ints_ok]
  simp only [plI_inj]
theorem x_neIs {as bs : List Int} {s : S} : neM (.lst (as.map D.int)) (.lst (bs.map D.int)) s = .ok (.bl (!decide (as = bs))) s := by
  rw [ints_pl, ints_pl, x_nePls ints_ok ints_ok]
  simp only [plI_inj]
/-! a def that hands back a new cell -/
theorem runN_of {n : Nat} {g : M Out} {ds : List D} {vh more : List Cell} {k : Nat} {c : Cell} (h : ∃ l, g (initS n ds vh) = .ok (.rt (.cell (vh.length + k))) ⟨l, vh ++ more⟩) (hk : more[k]? = some c) (hc : ncC vh.length c = true) : runN n g ds vh = some c := by
  obtain ⟨l, h⟩ := h
  unfold runN
  rw [h]
  show finN vh ⟨l, vh ++ more⟩ (.cell (vh.length + k)) = some c
  unfold finN
  dsimp only
  rw [if_pos (by exact List.take_left), if_pos (by omega), List.getElem?_append_right (by omega), Nat.add_sub_cancel_left, hk]
  dsimp only
  rw [if_pos hc]
theorem runS_of {n : Nat} {g : M Out} {ds : List D} {vh vh2 : List Cell} {d : D} (h : ∃ l, g (initS n ds vh) = .ok (.rt d) ⟨l, vh2⟩) : runS n g ds vh = some (d, vh2) := by
  obtain ⟨l, h⟩ := h
  unfold runS
  rw [h]
theorem runS_nx {n : Nat} {g : M Out} {ds : List D} {vh vh2 : List Cell} (h : ∃ l, g (initS n ds vh) = .ok .nx ⟨l, vh2⟩) : runS n g ds vh = some (.non, vh2) := by
  obtain ⟨l, h⟩ := h
  unfold runS
  rw [h]
theorem ncL_ints (b : Nat) (ns : List Int) : ncL b (ns.map D.int) = true := by
  induction ns with
  | nil => rfl
  | cons n r ih =>
    show (nc b (.int n) && ncL b (r.map D.int)) = true
    rw [ih]; rfl
/-! comprehensions, over anything -/
theorem lc_gen0 {α : Type} {ok : S → Prop} {i : Nat} {c : M Bool} {e : M D} {l0 l : List (Option D)} {vh : List Cell} {g v : α → D} {p : α → Bool} (hok : ∀ l, ok ⟨l, vh⟩) : ∀ (as : List α) (acc : List D), (acc.length + as.length ≤ 16777216) →
    (∀ a ∈ as, ∃ l1, c ⟨l0.set i (some (g a)), vh⟩ = .ok (p a) ⟨l1, vh⟩ ∧ (p a = true → ∃ l2, e ⟨l1, vh⟩ = .ok (v a) ⟨l2, vh⟩)) →
    lcLoop ok i c e l0 l (as.map g) acc ⟨l0, vh⟩ = .ok (.lst (acc ++ (as.filter p).map v)) ⟨l, vh⟩
  | [], acc, _, _ => by
    rw [List.map_nil]
    unfold lcLoop
    rw [if_pos (hok l0)]
    simp
  | a :: as, acc, hl, h => by
    obtain ⟨l1, h1, h2⟩ := h a List.mem_cons_self
    have hlen : acc.length < sizeLine := Nat.lt_of_lt_of_le (show acc.length < 16777216 by simp at hl; omega) (by decide)
    rw [List.map_cons]
    unfold lcLoop
    rw [if_pos ⟨hok l0, hlen⟩]
    cases hq : p a with
    | false =>
      rw [hq] at h1
      have e1 : c { (⟨l0, vh⟩ : S) with loc := l0.set i (some (g a)) } = .ok false ⟨l1, vh⟩ := h1
      rw [e1]
      have := lc_gen0 (l := l) (v := v) hok as acc (by simp at hl; omega) (fun b hb => h b (List.mem_cons_of_mem _ hb))
      rw [List.filter_cons, if_neg (by rw [hq]; decide)]
      exact this
    | true =>
      rw [hq] at h1
      obtain ⟨l2, h3⟩ := h2 hq
      have e1 : c { (⟨l0, vh⟩ : S) with loc := l0.set i (some (g a)) } = .ok true ⟨l1, vh⟩ := h1
      rw [e1]
      dsimp only
      rw [h3]
      have := lc_gen0 (l := l) (v := v) hok as (acc ++ [v a]) (by simp at hl ⊢; omega) (fun b hb => h b (List.mem_cons_of_mem _ hb))
      rw [List.filter_cons, if_pos hq, List.map_cons]
      simpa using this
theorem lc_gen {α : Type} {f : M Wk} {i : Nat} {c : M Bool} {e : M D} {l : List (Option D)} {vh : List Cell} {ok : S → Prop} (as : List α) (g v : α → D) (p : α → Bool) (hf : f ⟨l, vh⟩ = .ok ⟨as.map g, ok⟩ ⟨l, vh⟩) (hok : ∀ l, ok ⟨l, vh⟩) (hl : as.length ≤ 16777216)
    (h : ∀ a ∈ as, ∃ l1, c ⟨(l.set i none).set i (some (g a)), vh⟩ = .ok (p a) ⟨l1, vh⟩ ∧ (p a = true → ∃ l2, e ⟨l1, vh⟩ = .ok (v a) ⟨l2, vh⟩)) : lcM f i c e ⟨l, vh⟩ = .ok (.lst ((as.filter p).map v)) ⟨l, vh⟩ := by
  unfold lcM
  rw [bnd_ok hf]
  have := lc_gen0 (l := l) (v := v) hok as [] (by simpa using hl) h
  simpa using this
theorem lc_pure {α : Type} {f : M Wk} {i : Nat} {c : M Bool} {e : M D} {l : List (Option D)} {vh : List Cell} {ok : S → Prop} (as : List α) (g v : α → D) (p : α → Bool) (hf : f ⟨l, vh⟩ = .ok ⟨as.map g, ok⟩ ⟨l, vh⟩) (hok : ∀ l, ok ⟨l, vh⟩) (hl : as.length ≤ 16777216)
    (h1 : ∀ a ∈ as, c ⟨(l.set i none).set i (some (g a)), vh⟩ = .ok (p a) ⟨(l.set i none).set i (some (g a)), vh⟩) (h2 : ∀ a ∈ as, p a = true → e ⟨(l.set i none).set i (some (g a)), vh⟩ = .ok (v a) ⟨(l.set i none).set i (some (g a)), vh⟩) : lcM f i c e ⟨l, vh⟩ = .ok (.lst ((as.filter p).map v)) ⟨l, vh⟩ :=
  lc_gen as g v p hf hok hl fun a ha => ⟨_, h1 a ha, fun q => ⟨_, h2 a ha q⟩⟩
end Fx

/-! Fx: max of a list, list(range), three names in a target -/
namespace Fx
open PySem PySem.Spec PyProof.Rows L2
variable {X : Cx} {W : WX}
def maxZ : List Int → Int
  | [] => 0
  | [a] => a
  | a :: b :: r => max a (maxZ (b :: r))
def maxlM : List D → M D
  | [d] => fun s => match lstOf s d with
    | some ds => match intsOf ds with
      | some ns => if ns = [] then .bad else .ok (.int (maxZ ns)) s
      | none => .bad
    | none => .bad
  | _ => fail
theorem x_maxl {ns : List Int} {s : S} (h : ns ≠ []) : maxlM [.lst (ns.map D.int)] s = .ok (.int (maxZ ns)) s := by
  unfold maxlM lstOf
  dsimp only
  rw [intsOf_map]
  dsimp only
  rw [if_neg h]
/-! for a, b, c in .. -/
def unp3 (i j k : Nat) (d : D) : M Out := fun s => match d with
  | .tup [x, y, z] => .ok .nx { s with loc := ((s.loc.set i (some x)).set j (some y)).set k (some z) }
  | _ => .bad
/-! list(range(n)) -/
def listRan : List D → M Cell
  | [.int n] => fun s => if 0 ≤ n ∧ n ≤ 16777216 then .ok (.lst (ranD 0 n.toNat)) s else .bad
  | _ => fail
theorem dn_listRan {e : Expr} {fs : M D} {p q pos pos2 : Pos} (hm : X.mg "list" = none) (hm2 : X.mg "range" = none) (ha : DE X W e fs) (hc : X.calm = true := by rfl) (hg : Gl X "list" := by rfl) (hg2 : Gl X "range" := by rfl) (he : starEach [e] X.env = (false, eval e X.env) :: starEach [] X.env := by rfl)
    (he2 : starEach [Expr.Call (.Name "range" q) [e] [] pos2] X.env = (false, eval (Expr.Call (.Name "range" q) [e] [] pos2) X.env) :: starEach [] X.env := by rfl) :
    DN X W (.Call (.Name "list" p) [.Call (.Name "range" q) [e] [] pos2] [] pos) (bnd fs fun d => listRan [d]) := by
  obtain ⟨t, pe, r⟩ := ha
  refine ⟨_, pe_listRg hc hg hm (prg_1 hg2 hm2 pe he) he2, fun w H σ s Q R z => ?_⟩
  refine r.bnd R z fun d s1 w1 H1 v l1 R1 r1 p1 => ?_
  cases r1 with
  | int n =>
    have p1 : Post X.K W (pN X.K) w1 H1 σ (if 0 ≤ n ∧ n ≤ 16777216 then Res.ok (Cell.lst (ranD 0 n.toNat)) s1 else .bad) Q := p1
    split at p1
    · next hn =>
      refine ⟨n, rfl, RgOk.of_le (by omega) hn.2 (by omega) hn.1, fun q hq => ?_⟩
      have e1 : rgV 0 n = (List.range n.toNat).map fun i : Nat => V.int (0 + (i : Int)) := by unfold rgV; rw [Int.sub_zero]
      rw [e1]
      refine R1.giveL ?_ p1 hq
      unfold ranD
      have : ∀ ks : List Nat, RepL X.K w1 (ks.map fun i : Nat => V.int (0 + (i : Int))) (ks.map fun i : Nat => D.int (0 + (i : Int))) := fun ks => by
        induction ks with
        | nil => exact .nil
        | cons k r ih => exact .cons (.int _) ih
      exact this _
    · exact p1.elim
  | _ => exact p1.elim
theorem x_intB {b : Bool} {s : S} : intM [.bl b] s = .ok (.int (if b = true then 1 else 0)) s := by cases b <;> rfl
theorem x_intI {i : Int} {s : S} : intM [.int i] s = .ok (.int i) s := nr rfl
end Fx

/-! Fx: list(reversed(a list)) -/
namespace RT
open PySem PySem.Spec PyProof.Rows L2
section
variable {prog : Program} {w : World} {A : Around} {E : Value → Shared → Prop} {s : Shared}
end
section
variable {X : Cx}
end
end RT
namespace Fx
open PySem PySem.Spec PyProof.Rows L2
variable {X : Cx} {W : WX}
end Fx

/-! Fx: C.m(self, ..) of a def read off its class; isinstance of own classes; equal data -/
namespace Fx
open PySem PySem.Spec PyProof.Rows L2
variable {X : Cx} {W : WX}
/-- a def m of the class x, read off the class -/
structure CfQ (P : Program) (wd : World) (K : PySem.W.Frag) (mg : Str → Option Value) (base : Heap) (x m : Str) (k : Nat) (sp : Sp) : Prop where
  ex : ∃ (C f : Addr) (fd : FuncData) (ps : List Str), mg x = some (.ref C) ∧ ClX.CRead K C (.type "type") ∧ PySem.W.findCls K (.ref C) (.type "type") m = some (.val (.ref f)) ∧ PySem.W.keepIn K (.ref f) = true ∧ Binds K fd ps [] ∧ FnOk P wd K mg base CX0 k f fd ps sp
section
variable {C f : Addr} {fd : FuncData} {ps : List Str} {mc : Value} {k : Nat} {sp : Sp} {CX : CXT} {x m : Str} {e : Expr} {es : List Expr} {E : XK} {ds : List Value} {dvs : List V} {t : TA} {p pos apos : Pos}
end
section
variable {α : Type} {P : Pr V α} {sp : Sp} {g : List D → M α} {x m : Str} {k : Nat} {e : Expr} {es : List Expr} {fs : M (List D)} {p pos apos : Pos}
end
structure TopF (K : PySem.W.Frag) (mg : Str → Option Value) (x m q : Str) (st : Stmt) (ps : List Str) : Prop where
  ex : ∃ (C f : Addr) (fd : FuncData), mg x = some (.ref C) ∧ ClX.CRead K C (.type "type") ∧ PySem.W.findCls K (.ref C) (.type "type") m = some (.val (.ref f)) ∧ PySem.W.keepIn K (.ref f) = true ∧ Fun K m q st f fd ∧ Binds K fd ps []
section
variable {P : Program} {wd : World} {K : PySem.W.Frag} {mg : Str → Option Value} {base : Heap} {x m q : Str} {st : Stmt} {N ps : List Str} {k : Nat} {g : M Out}
theorem TopF.fnS (T : TopF K mg x m q st ps) (Sc : FnScope N ps (defScope st)) (hle : ps.length ≤ N.length)
    (body : ∀ (f : Addr) (cdv : Value) (A : Around) (outer : List Env) (s : Shared) (H : Hp) (E : XK), Room k (A.deeper (envOfC q (defScope st) s.heap.objs.size f cdv)) →
      DSs (cxOf CX0 P wd K mg base N q (defScope st) f cdv A outer s H E).nox W0 (defBody st) g) : CfQ P wd K mg base x m (k + 1) (SpS K ps.length (runS N.length g)) :=
  let ⟨C, f, fd, a, a2, a3, a4, F, b⟩ := T.ex
  ⟨C, f, fd, ps, a, a2, a3, a4, b, fn_st F Sc hle fun cdv A outer s H E hr => body f cdv A outer s H E hr⟩
end
/-! ### isinstance(x, T), T an own class -/
structure IsoP (K : PySem.W.Frag) (mg : Str → Option Value) (x T : Str) (b : Bool) : Prop where
  ex : ∃ C CT, clsIn K x C ∧ mg T = some (.ref CT) ∧ PySem.W.findIn K (.ref C) "__class__" = some (some (.builtin "object.__class__")) ∧ PySem.W.specialIn K (.builtin "object.__class__") "__get__" = some (some (.builtin "getset_descriptor.__get__")) ∧
    PySem.W.takesIn K (.builtin "object.__class__") = some true ∧ PySem.W.mroIn K C (.type "object") = some true ∧ PySem.W.kitOne K (.ref C) (.ref CT) = some b
/-! ### equal data -/
mutual
def eqOk : D → Bool
  | .non => true
  | .bl _ => true
  | .int _ => true
  | .str x => PySem.PyData.strOk x
  | .tup xs => eqOkL xs
  | .lst xs => eqOkL xs
  | .cell _ => false
  | .ref _ => false
  | .pr _ _ => false
  | .emp => false
  | .err _ _ _ => false
def eqOkL : List D → Bool
  | [] => true
  | x :: r => eqOk x && eqOkL r
end
mutual
def dpt : D → Nat
  | .tup xs => dptL xs + 1
  | .lst xs => dptL xs + 1
  | .non => 0
  | .bl _ => 0
  | .int _ => 0
  | .str _ => 0
  | .cell _ => 0
  | .ref _ => 0
  | .pr _ _ => 0
  | .emp => 0
  | .err _ _ _ => 0
def dptL : List D → Nat
  | [] => 0
  | x :: r => max (dpt x) (dptL r)
end
mutual
theorem dq_self : ∀ (d : D), eqOk d = true → ∃ p, pyT d = some p ∧ p.canLay0 = true ∧ PyData.eqv p p = true ∧ p.depth = dpt d
  | .non, _ => ⟨.none, rfl, rfl, rfl, rfl⟩
  | .bl b, _ => ⟨.bool b, rfl, rfl, by simp [PyData.eqv], rfl⟩
  | .int i, _ => ⟨.int i, rfl, rfl, by simp [PyData.eqv], rfl⟩
  | .str x, h => ⟨.str x, rfl, h, by simp [PyData.eqv], rfl⟩
  | .tup xs, h => by
    obtain ⟨ps, h1, h2, h3, h4⟩ := dq_selfL xs h
    exact ⟨.tuple ps, by unfold pyT; rw [h1]; rfl, h2, h3, by unfold PyData.depth dpt; rw [h4]⟩
  | .lst xs, h => by
    obtain ⟨ps, h1, h2, h3, h4⟩ := dq_selfL xs h
    exact ⟨.list ps, by unfold pyT; rw [h1]; rfl, h2, h3, by unfold PyData.depth dpt; rw [h4]⟩
  | .cell _, h => by cases h
  | .ref _, h => by cases h
  | .pr _ _, h => by cases h
  | .emp, h => by cases h
  | .err _ _ _, h => by cases h
theorem dq_selfL : ∀ (ds : List D), eqOkL ds = true → ∃ ps, pyL ds = some ps ∧ PyData.canLayAll0 ps = true ∧ PyData.eqvAll ps ps = true ∧ PyData.depthAll ps = dptL ds
  | [], _ => ⟨[], rfl, rfl, rfl, rfl⟩
  | d :: ds, h => by
    have h : (eqOk d && eqOkL ds) = true := h
    rw [Bool.and_eq_true] at h
    obtain ⟨p, a1, a2, a3, a4⟩ := dq_self d h.1
    obtain ⟨ps, b1, b2, b3, b4⟩ := dq_selfL ds h.2
    exact ⟨p :: ps, by unfold pyL; rw [a1, b1], by unfold PyData.canLayAll0; rw [a2, b2]; rfl, by unfold PyData.eqvAll; rw [a3, b3]; rfl, by unfold PyData.depthAll dptL; rw [a4, b4]⟩
end
/-- data that can be compared with itself, not too deep -/
def Eqd (n : Nat) (d : D) : Prop := eqOk d = true ∧ dpt d ≤ n
theorem Eqd.mono {n m : Nat} {d : D} (h : Eqd n d) (l : n ≤ m) : Eqd m d := ⟨h.1, Nat.le_trans h.2 l⟩
theorem eqdL {n : Nat} : ∀ {ds : List D}, (∀ d ∈ ds, Eqd n d) → eqOkL ds = true ∧ dptL ds ≤ n
  | [], _ => ⟨rfl, Nat.zero_le _⟩
  | d :: ds, h => by
    obtain ⟨a1, a2⟩ := h d List.mem_cons_self
    obtain ⟨b1, b2⟩ := eqdL fun e he => h e (List.mem_cons_of_mem _ he)
    exact ⟨by unfold eqOkL; rw [a1, b1]; rfl, by unfold dptL; exact Nat.max_le.mpr ⟨a2, b2⟩⟩
theorem Eqd.tup {n : Nat} {ds : List D} (h : ∀ d ∈ ds, Eqd n d) : Eqd (n + 1) (.tup ds) := ⟨(eqdL h).1, Nat.succ_le_succ (eqdL h).2⟩
theorem Eqd.lst {n : Nat} {ds : List D} (h : ∀ d ∈ ds, Eqd n d) : Eqd (n + 1) (.lst ds) := ⟨(eqdL h).1, Nat.succ_le_succ (eqdL h).2⟩
theorem Eqd.non {n : Nat} : Eqd n .non := ⟨rfl, Nat.zero_le _⟩
theorem Eqd.int {n : Nat} (i : Int) : Eqd n (.int i) := ⟨rfl, Nat.zero_le _⟩
theorem Eqd.bl {n : Nat} (b : Bool) : Eqd n (.bl b) := ⟨rfl, Nat.zero_le _⟩
theorem Eqd.tx {n : Nat} {cs : List Nat} (h : ∀ c ∈ cs, c < 1114112) : Eqd n (.str (tx cs)) := ⟨strOk_tx h, Nat.zero_le _⟩
theorem eqD_self {d : D} {s : S} (h : Eqd 64 d) : eqD d d s = .ok (.bl true) s ∧ neD d d s = .ok (.bl false) s := by
  obtain ⟨p, h1, h2, h3, h4⟩ := dq_self d h.1
  have h5 : pyD s d = some p := by
    cases d with
    | cell n => cases h1
    | _ => exact h1
  have h6 : SeqAt.shaped p = true := by
    unfold SeqAt.shaped
    rw [h2, h4]
    exact decide_eq_true h.2
  unfold eqD neD
  rw [h5]
  dsimp only
  rw [h6, h3]
  exact ⟨rfl, rfl⟩
theorem x_eqSelf {d : D} {s : S} (h : Eqd 64 d) : eqM d d s = .ok (.bl true) s := by
  unfold eqM
  split
  · show Res.ok _ _ = _
    rw [decide_eq_true rfl]
  · exact (eqD_self h).1
theorem x_neSelf {d : D} {s : S} (h : Eqd 64 d) : neM d d s = .ok (.bl false) s := by
  unfold neM
  split
  · show Res.ok _ _ = _
    rw [decide_eq_true rfl]
    rfl
  · exact (eqD_self h).2
theorem pyD_cellL {n : Nat} {ds : List D} {s : S} (h : s.vh[n]? = some (.lst ds)) : pyD s (.cell n) = pyD s (.lst ds) := by
  unfold pyD
  dsimp only
  rw [h]
  rfl
theorem x_eqCSelf {n : Nat} {ds : List D} {s : S} (h : s.vh[n]? = some (.lst ds)) (k : Eqd 64 (.lst ds)) : eqM (.cell n) (.lst ds) s = .ok (.bl true) s := by
  show eqD (.cell n) (.lst ds) s = _
  have := (eqD_self (s := s) k).1
  unfold eqD at this ⊢
  rw [pyD_cellL h]
  exact this
end Fx

/-! Fx: text * int -/
namespace Fx
open PySem PySem.Spec PyProof.Rows L2
variable {X : Cx} {W : WX}
end Fx

/-! Fx: dicts that are walked: locked for one statement or one expression -/
namespace Fx
open PySem PySem.Spec PyProof.Rows L2
variable {X : Cx} {W : WX}
section
variable {K : PySem.W.Frag} {w : Wd} {H : Hp} {σ : L2.St} {s : S}
theorem RS.cellV (R : RS K w H σ s) {i n : Nat} (h : s.loc[i]? = some (some (.cell n))) : ∃ a, w.ρ[n]? = some a := by
  obtain ⟨v, _, r⟩ := R.loc i _ h
  cases r with
  | cell h => exact ⟨_, h⟩
/-- the state locked -/
theorem RS.lock (R : RS K w H σ s) {n : Nat} {a : Addr} {us : List (Key × V)} {kvs : List (Key × D)} (od : Obj) (h : w.ρ[n]? = some a) (hr : RepK K w us kvs) : RS K w (upd H a (.frz od (.dK us))) σ ⟨s.loc, s.vh.set n (.dctL od us kvs)⟩ := R.setCell h ⟨upd_same, hr⟩
end
section
variable {e : Expr} {f : M D} {g : M Cell}
end
/-! ### for k in d -/
end Fx

/-! Fx: sets of texts, made of lists, sorted -/
namespace L2
open PySem PySem.Spec PyProof.Rows
def txOf (e : Int × Value) : Str := match e.2 with
  | .str x _ => x
  | _ => Str.empty
def TGood (w : World) (e : Int × Value) : Prop := ∃ x tk, e.2 = Value.str x tk ∧ e.1 = hashStr w x
/-- at a stands the set of the texts for which T holds, n in all; its table rises and can be walked -/
def SetT (w : World) (h : Heap) (a : Addr) (T : Str → Prop) (n : Nat) : Prop :=
  ∃ ob es ep tb, h.get? a = some ob ∧ ob.ExactSet ∧ ob.data = .set es ep tb ∧ (∀ e ∈ es.toList, TGood w e) ∧ (es.toList.map txOf).Nodup ∧ (∀ x, T x ↔ x ∈ es.toList.map txOf) ∧
    es.size < scanBound ∧ tb.fits es.size = true ∧ es.size = n ∧ Ris tb.place.toList ∧ (w.params.followText "set-order" = true ∨ tb.led = true)
section
variable {P : Program} {w : World} {h h' : Heap} {a : Addr} {T : Str → Prop} {n : Nat}
theorem SetT.at (R : SetT w h a T n) (k : ∀ o, h.get? a = some o → h'.get? a = some o) : SetT w h' a T n := let ⟨ob, es, ep, tb, g, r⟩ := R; ⟨ob, es, ep, tb, k ob g, r⟩
theorem SetT.congr {T' : Str → Prop} (R : SetT w h a T n) (e : ∀ x, T' x ↔ T x) : SetT w h a T' n := by
  have : T' = T := funext fun x => propext (e x)
  rw [this]; exact R
end
section
variable {P : Program} {w : World} {A : Around} {E : Value → Shared → Prop} {s : Shared} {a : Addr} {T : Str → Prop} {n : Nat}
end
section
variable {P : Program} {w : World} {A : Around} {E : Value → Shared → Prop} {s : Shared}
end
section
variable {X : Cx}
end
end L2

/-! Fx: sorted(set(xs)), texts -/
namespace Fx
open PySem PySem.Spec PyProof.Rows L2
variable {X : Cx} {W : WX}
/-- each once -/
def dd : List Str → List Str
  | [] => []
  | x :: r => if x ∈ dd r then dd r else x :: dd r
section
variable {e : Expr} {p pos : Pos}
end
end Fx

/-! Fx: dicts whose keys are trees of tuples -/
namespace Fx
open PySem PySem.Spec PyProof.Rows L2
variable {X : Cx} {W : WX}
open Classical in
noncomputable def dctNR (wd : World) (s : S) : D → Option (Nat × List (NestedKey × D))
  | .cell n => match s.vh[n]? with
    | some (.dctN wd' kvs) => if wd' = wd then some (n, kvs) else none
    | _ => none
  | _ => none
/-- a tree of tuples, at most eight deep -/
def nkey : D → Option NestedKey
  | .tup ds => match nkD (.tup ds) with
    | some q => if q.depth ≤ 8 then some q else none
    | none => none
  | _ => none
def valN (kvs : List (NestedKey × D)) (q : NestedKey) : Option D := (kvs.find? fun kv => decide (kv.1 = q)).map (·.2)
def putN (kvs : List (NestedKey × D)) (q : NestedKey) (d : D) : List (NestedKey × D) := if (valN kvs q).isSome = true then kvs.map (fun kv => if kv.1 = q then (kv.1, d) else kv) else kvs ++ [(q, d)]
def dropN (kvs : List (NestedKey × D)) (q : NestedKey) : List (NestedKey × D) := kvs.filter fun kv => decide (kv.1 ≠ q)
theorem nkey_of {e : D} {q : NestedKey} (h : nkey e = some q) : nkD e = some q ∧ q.depth ≤ 8 ∧ ∃ ds, e = .tup ds := by
  cases e with
  | tup ds =>
    unfold nkey at h
    dsimp only at h
    split at h
    · next q' e1 =>
      split at h
      · next hd => cases h; exact ⟨e1, hd, _, rfl⟩
      · cases h
    · cases h
  | _ => cases h
section
variable {K : PySem.W.Frag} {w : Wd} {H : Hp} {σ : L2.St} {s : S} {v : V} {d : D} {q : NestedKey}
theorem RepN.length : ∀ {xs : NX} {ds : List (NestedKey × D)}, RepN K w xs ds → xs.length = ds.length
  | _, _, .nil => rfl
  | _, _, .cons _ _ _ _ _ t => by rw [List.length_cons, List.length_cons, RepN.length t]
theorem RepN.val (q : NestedKey) : ∀ {xs : NX} {ds : List (NestedKey × D)}, RepN K w xs ds → (valN ds q = none → atKey xs q = none) ∧ ∀ d, valN ds q = some d → ∃ p v, atKey xs q = some p ∧ RelV v p.2 ∧ Rep K w v d
  | _, _, .nil => ⟨fun _ => rfl, fun d h => by cases h⟩
  | _, _, .cons (q := q') hk hq r ru h t => by
    by_cases e : q' = q
    · refine ⟨fun z => ?_, fun d z => ?_⟩
      · simp [valN, List.find?_cons, e] at z
      · simp [valN, List.find?_cons, e] at z
        subst z
        exact ⟨_, _, by simp only [atKey, List.find?_cons, e, decide_true, Option.map_some]; rfl, ru, h⟩
    · obtain ⟨i1, i2⟩ := RepN.val q t
      refine ⟨fun z => ?_, fun d z => ?_⟩
      · have := i1 (by simpa [valN, List.find?_cons, e] using z)
        simpa [atKey, List.find?_cons, e] using this
      · obtain ⟨p, u, h1, h2⟩ := i2 d (by simpa [valN, List.find?_cons, e] using z)
        exact ⟨p, u, by simpa [atKey, List.find?_cons, e] using h1, h2⟩
theorem RepN.isome {xs : NX} {ds : List (NestedKey × D)} (h : RepN K w xs ds) (q : NestedKey) : (atKey xs q).isSome = (valN ds q).isSome := by
  cases e : valN ds q with
  | none => rw [(h.val q).1 e]; rfl
  | some d => obtain ⟨p, _, e2, _⟩ := (h.val q).2 d e; rw [e2]; rfl
theorem RepN.append : ∀ {xs ys : NX} {ds es : List (NestedKey × D)}, RepN K w xs ds → RepN K w ys es → RepN K w (xs ++ ys) (ds ++ es)
  | _, _, _, _, .nil, s => s
  | _, _, _, _, .cons hk hq r ru h t, s => .cons hk hq r ru h (RepN.append t s)
theorem RepN.map {u : Value} (rv : RelV v u) (rd : Rep K w v d) : ∀ {xs : NX} {ds : List (NestedKey × D)}, RepN K w xs ds → RepN K w (xs.map (putAt q u)) (ds.map fun kv => if kv.1 = q then (kv.1, d) else kv)
  | _, _, .nil => .nil
  | _, _, .cons (q := q') hk hq r ru h t => by
    rw [List.map_cons, List.map_cons]
    by_cases e : q' = q
    · unfold putAt
      rw [if_pos e, if_pos e]
      exact .cons hk hq r rv rd (RepN.map rv rd t)
    · rw [if_neg e]
      unfold putAt
      rw [if_neg e]
      exact .cons hk hq r ru h (RepN.map rv rd t)
theorem RepN.put {q : NestedKey} {xs : NX} {ds : List (NestedKey × D)} (t : RepN K w xs ds) {b : Addr} {u : Value} {kd : D} (hk : nkD kd = some q) (hq : q.depth ≤ 8) (r : Rep K w (.ref b) kd) (rv : RelV v u) (rd : Rep K w v d) : RepN K w (storedH xs q b u) (putN ds q d) := by
  unfold storedH putN
  rw [t.isome q]
  split
  · exact RepN.map rv rd t
  · exact RepN.append t (.cons hk hq r rv rd .nil)
theorem RepN.drop (q : NestedKey) : ∀ {xs : NX} {ds : List (NestedKey × D)}, RepN K w xs ds → RepN K w (withoutH xs q) (dropN ds q)
  | _, _, .nil => .nil
  | _, _, .cons (q := q') hk hq r ru h t => by
    have ih := RepN.drop q t
    unfold withoutH dropN at ih ⊢
    by_cases e : q' = q
    · rw [List.filter_cons_of_neg (by simp [e]), List.filter_cons_of_neg (by simp [e])]; exact ih
    · rw [List.filter_cons_of_pos (by simp [e]), List.filter_cons_of_pos (by simp [e])]; exact .cons hk hq r ru h ih
theorem RS.dN {n : Nat} {wd : World} {kvs : List (NestedKey × D)} (R : RS K w H σ s) (r : Rep K w v d) (h : dctNR wd s d = some (n, kvs)) : d = .cell n ∧ ∃ a xs, v = .ref a ∧ w.ρ[n]? = some a ∧ s.vh[n]? = some (.dctN wd kvs) ∧ H a = some (dNO wd a xs) ∧ RepN K w xs kvs := by
  cases r with
  | cell h1 =>
    obtain ⟨c, e, hc⟩ := R.cellOf h1
    unfold dctNR at h
    simp only [e] at h
    cases c with
    | dctN wd' ds =>
      dsimp only at h
      split at h
      · next ew =>
        cases h
        subst ew
        obtain ⟨xs, h2, h3⟩ := hc
        exact ⟨rfl, _, xs, rfl, h1, e, h2, h3⟩
      · cases h
    | _ => simp at h
  | _ => simp [dctNR] at h
end
/-! ### trees of tuples, in the heap -/
section
variable {pins : List (Addr × Obj)} {σ : L2.St} {H : Hp} {s : Shared} {w : Wd}
mutual
theorem nested_of (sub : ∀ a o, w.F a = some o → H a = some o) (I : Inv X pins σ H s) : ∀ {v : V} {d : D} {q : NestedKey} {u : Value}, Rep X.K w v d → nkD d = some q → RelV v u → NestedIs s.heap q u
  | _, _, _, _, .non, h, r => by cases h; cases r; exact .none
  | _, _, _, _, .bl b, h, r => by cases h; cases r; exact .bool rfl
  | _, _, _, _, .int i, h, r => by cases h; obtain ⟨t, rfl⟩ := r; exact .int i t
  | _, _, _, _, .str x, h, r => by cases h; obtain ⟨t, rfl⟩ := r; exact .text x t
  | _, _, _, _, .ref a, h, _ => by cases h
  | _, _, _, _, .pr _ _ _, h, _ => by cases h
  | _, _, _, _, .emp _, h, _ => by cases h
  | _, _, _, _, .err _ _, h, _ => by cases h
  | _, _, _, _, .tup (ds := ds) h1 t, h, r => by
    obtain ⟨its, rv, ⟨o, e1, e2, n, e3⟩, _⟩ := I.tuple (sqT_up sub h1.sq)
    unfold nkD at h
    cases e : nkL ds with
    | none => rw [e] at h; cases h
    | some ks =>
      rw [e] at h
      cases h
      cases r
      exact .tup e1 e2 e3 (nested_all sub I t e rv)
  | _, _, _, _, .lst _ _, h, _ => by cases h
  | _, _, _, _, .cell _, h, _ => by cases h
theorem nested_all (sub : ∀ a o, w.F a = some o → H a = some o) (I : Inv X pins σ H s) : ∀ {vs : List V} {ds : List D} {ks : List NestedKey} {us : List Value}, RepL X.K w vs ds → nkL ds = some ks → Vals vs us → NestedAll s.heap ks us
  | _, _, _, _, .nil, h, r => by cases h; cases r; exact .nil
  | _, _, _, _, .cons (d := d) (ds := ds) h1 t, h, r => by
    unfold nkL at h
    cases e1 : nkD d with
    | none => rw [e1] at h; cases h
    | some k =>
      cases e2 : nkL ds with
      | none => rw [e1, e2] at h; cases h
      | some ks =>
        rw [e1, e2] at h
        cases h
        cases r with
        | cons ra rr => exact .cons (nested_of sub I h1 e1 ra) (nested_all sub I t e2 rr)
end
theorem keyAt_of {z : S} {b : Addr} {kd : D} {q : NestedKey} (R : RS X.K w H σ z) (r : Rep X.K w (.ref b) kd) (hk : nkD kd = some q) (hq : q.depth ≤ 8) : KeyAt X H q b := ⟨hq, fun _ _ _ I => nested_of R.sub I r hk rfl⟩
theorem RepN.keysAt {z : S} (R : RS X.K w H σ z) : ∀ {xs : NX} {ds : List (NestedKey × D)}, RepN X.K w xs ds → ∀ x ∈ xs, KeyAt X H x.1 x.2.1
  | _, _, .nil => fun x h => by cases h
  | _, _, .cons hk hq r ru h t => fun x hx => by
    rcases List.mem_cons.mp hx with e | e
    · rw [e]; exact keyAt_of R r hk hq
    · exact RepN.keysAt R t x e
theorem RS.atN {z : S} {n : Nat} {kvs : List (NestedKey × D)} {v u : V} {d e : D} {q : NestedKey} (R : RS X.K w H σ z) (r : Rep X.K w v d) (re : Rep X.K w u e) (h : dctNR X.w z d = some (n, kvs)) (hk : nkey e = some q) :
    d = .cell n ∧ ∃ a b xs, AtN X H v u a b q xs ∧ w.ρ[n]? = some a ∧ z.vh[n]? = some (.dctN X.w kvs) ∧ RepN X.K w xs kvs ∧ Rep X.K w (.ref b) e ∧ nkD e = some q ∧ q.depth ≤ 8 := by
  obtain ⟨hd, a, xs, rfl, h1, h2, h3, h4⟩ := R.dN r h
  obtain ⟨k1, k2, ds, rfl⟩ := nkey_of hk
  obtain ⟨b, us, rfl, _, _⟩ := R.tuple re (ds := ds) rfl
  exact ⟨hd, a, b, xs, ⟨rfl, rfl, h3, keyAt_of R re k1 k2, h4.keysAt R⟩, h1, h2, h4, re, k1, k2⟩
end
/-! ### the steps -/
noncomputable def nInM (wd : World) (t : Bool) (e d : D) : M D := fun s => match dctNR wd s d, nkey e with
  | some (_, kvs), some q => .ok (.bl ((valN kvs q).isSome == t)) s
  | _, _ => .bad
noncomputable def nPopM (wd : World) (d e : D) : M D := fun s => match dctNR wd s d, nkey e with
  | some (n, kvs), some q => match valN kvs q with
    | some v => .ok v ⟨s.loc, s.vh.set n (.dctN wd (dropN kvs q))⟩
    | none => .bad
  | _, _ => .bad
noncomputable def nPopE (wd : World) (fo fi : M D) : M D := bnd fo fun d s => if (dctNR wd s d).isSome = true then bnd fi (fun e => nPopM wd d e) s else .bad
section
variable {o i value : Expr} {fo fi fv : M D} {pos pos' apos cpos : Pos}
theorem nin_fol {t u : TE} {b : Bool} (r : Fol X.K W (pD X.K) t fi) (h : Fol X.K W (pD X.K) u fo) : Fol X.K W (pD X.K) (tNIn X b t u) (bin (nInM X.w b) fi fo) := fun w H σ s Q R z => by
  refine r.bnd R z fun e s1 w1 H1 v1 l1 R1 r1 p1 => ?_
  refine h.bnd R1 p1 fun d s2 w2 H2 v2 l2 R2 r2 p2 => ?_
  unfold nInM at p2
  split at p2
  · next n kvs q hd hk =>
    obtain ⟨_, a, b, xs, A, h1, h2, h3, _⟩ := R2.atN r2 (Rep.up l2 r1) hd hk
    refine ⟨a, b, q, xs, A, ?_⟩
    rw [h3.isome]
    exact Post.here p2 R2 (Rep.bl _)
  · exact p2.elim
theorem dt_nin (hu : X.A.units + 64 < cLine) (hi : DE X W i fi) (ho : DE X W o fo) (hm : behindInMarks .In o = false := by rfl) : DT X W (.Compare i [.In] [o] pos) (tst (bin (nInM X.w true) fi fo)) := by
  obtain ⟨t, p, r⟩ := hi
  obtain ⟨u, q, h⟩ := ho
  exact ⟨_, pt_cmp (pc_nin (by omega) p q) hm, tst_fol (nin_fol r h)⟩
end
/-! ### equations -/
theorem x_npop {wd : World} {fo fi : M D} {s : S} : nPopE wd fo fi s = (fo s).then' fun d s => if (dctNR wd s d).isSome = true then bnd fi (fun e => nPopM wd d e) s else .bad := nr rfl
end Fx

/-! Fx: extend, range with a step, chained comparisons -/
namespace PySem
open Sem (wp)
end PySem
namespace L2
open PySem PySem.Spec PyProof.Rows
end L2
namespace Fx
open PySem PySem.Spec PyProof.Rows L2
variable {X : Cx} {W : WX}
/-! range(a, b, -1) -/
/-! a op1 b op2 c -/
end Fx

/-! Fx: len(set(xs)) of unlike ints -/
namespace Fx
open PySem PySem.Spec PyProof.Rows L2
variable {X : Cx} {W : WX}
end Fx

/-! Fx: xs[i] = v of a list -/
namespace Fx
open PySem PySem.Spec PyProof.Rows L2
section
variable {prog : Program} {w : World} {A : Around} {E : Value → Shared → Prop} {s : Shared}
end
section
variable {X : Cx} {o i value : Expr} {pos pos' : Pos}
end
def lputM (v d e : D) : M Out := fun s => match d, e with
  | .cell n, .int i => match s.vh[n]? with
    | some (.lst ds) => if 0 ≤ i ∧ i.toNat < ds.length then .ok .nx ⟨s.loc, s.vh.set n (.lst (ds.set i.toNat v))⟩ else .bad
    | _ => .bad
  | _, _ => .bad
def lputS (fo fi fv : M D) : M Out := bnd fv fun v => bnd fo fun d => bnd fi fun e => lputM v d e
section
variable {X : Cx} {W : WX} {o i : Expr} {fo fi : M D} {pos pos' : Pos}
end
/-! equations -/
theorem x_lputS {fo fi fv : M D} {s : S} : lputS fo fi fv s = (fv s).then' fun v => bnd fo fun d => bnd fi fun e => lputM v d e := nr rfl
theorem x_unp2 {i j : Nat} {a b : D} {s : S} : unp2 i j (.tup [a, b]) s = .ok .nx ⟨(s.loc.set i (some a)).set j (some b), s.vh⟩ := nr rfl
theorem x_unp3 {i j k : Nat} {a b c : D} {s : S} : unp3 i j k (.tup [a, b, c]) s = .ok .nx ⟨((s.loc.set i (some a)).set j (some b)).set k (some c), s.vh⟩ := nr rfl
end Fx

/-! Fx: dicts by their methods: get, pop, update; dict(pairs), dict(d), list(d); values, items; reversed -/
namespace Fx
open PySem PySem.Spec PyProof.Rows L2
variable {X : Cx} {W : WX}
/-! ### dict(x) -/
/-! ### list(d) -/
/-! ### d.get(k), d.get(k, x), d.pop(k), d.pop(k, x) -/
def getM (d e : D) (x : D) : M D := fun s => match dctR s d, keyD e with
  | some kvs, some k => .ok ((valA kvs k).getD x) s
  | _, _ => .bad
/-- a dict, then what is done with it -/
def onD (fo : M D) (f : D → M D) : M D := bnd fo fun d s => if (dctR s d).isSome = true then f d s else .bad
def getE1 (fo fk : M D) : M D := onD fo fun d => bnd fk fun e => getM d e .non
def getE2 (fo fk fx : M D) : M D := onD fo fun d => bnd fk fun e => bnd fx fun x => getM d e x
def popDM (d e : D) (x : Option D) : M D := fun s => match d, keyD e with
  | .cell n, some k => match s.vh[n]? with
    | some (.dct kvs) => match valA kvs k, x with
      | some v, _ => .ok v ⟨s.loc, s.vh.set n (.dct (dropA kvs k))⟩
      | none, some x => .ok x s
      | none, none => .bad
    | _ => .bad
  | _, _ => .bad
def popE1 (fo fk : M D) : M D := onD fo fun d => bnd fk fun e => popDM d e none
def popE2 (fo fk fx : M D) : M D := onD fo fun d => bnd fk fun e => bnd fx fun x => popDM d e (some x)
section
variable {o e f : Expr} {fo fe ff : M D} {apos cpos : Pos}
theorem onD_fol {td : TE} {F : D → M D} {Q : V → Hp → Prop} {w : Wd} {H : Hp} {σ : L2.St} {s : S} (r : Fol X.K W (pD X.K) td fo) (R : RS X.K w H σ s) (z : Post X.K W (pD X.K) w H σ (onD fo F s) Q) {G : V → Hp → Prop}
    (h : ∀ d s1 w1 H1 a, Le w H w1 H1 → RS X.K w1 H1 σ s1 → Rep X.K w1 (.ref a) d → IsD H1 a → Post X.K W (pD X.K) w1 H1 σ (F d s1) Q → G (.ref a) H1) : td σ H G := by
  refine r.bnd R z fun d s1 w1 H1 v1 l1 R1 r1 p1 => ?_
  split at p1
  · next hs =>
    obtain ⟨kvs, hk⟩ := Option.isSome_iff_exists.mp hs
    obtain ⟨a, us, e1, h1, h2⟩ := R1.dictR r1 hk
    subst e1
    exact h d s1 w1 H1 a l1 R1 r1 (.inl ⟨us, h1⟩) p1
  · exact p1.elim
theorem pop_at {Q : V → Hp → Prop} {w : Wd} {H : Hp} {σ : L2.St} {s : S} {a : Addr} {y : V} {d e : D} {xo : Option D} {z : V} (R : RS X.K w H σ s) (r : Rep X.K w (.ref a) d) (re : Rep X.K w y e) (rx : ∀ x, xo = some x → Rep X.K w z x) (p : Post X.K W (pD X.K) w H σ (popDM d e xo s) Q) :
    ∃ kvs k, H a = some (.dK kvs) ∧ y = kV k ∧ (∀ v, valV kvs k = some v → Q v (upd H a (.dK (dropK kvs k)))) ∧ (valV kvs k = none → (∃ x, xo = some x) ∧ Q z H) := by
  unfold popDM at p
  split at p
  · next n k hk =>
    split at p
    · next kvs hn =>
      obtain ⟨a', us, e1, h0, h1, h2⟩ := R.dictW r rfl hn
      cases e1
      refine ⟨us, k, h1, key_of re hk, fun v hv => ?_, fun hv => ?_⟩
      · cases ha : valA kvs k with
        | none => rw [(RepK.val (k := k) h2).1 ha] at hv; cases hv
        | some d' =>
          obtain ⟨u, h3, h4⟩ := (RepK.val (k := k) h2).2 d' ha
          rw [h3] at hv
          cases hv
          rw [ha] at p
          exact p w _ _ (Le.write (List.mem_of_getElem? h0)) (R.setCell h0 ⟨_, upd_same, RepK.drop h2⟩) h4
      · cases ha : valA kvs k with
        | some d' => obtain ⟨u, h3, h4⟩ := (RepK.val (k := k) h2).2 d' ha; rw [h3] at hv; cases hv
        | none =>
          rw [ha] at p
          cases xo with
          | none => exact p.elim
          | some x => exact ⟨⟨x, rfl⟩, Post.here p R (rx x rfl)⟩
    · exact p.elim
  · exact p.elim
theorem de_pop1 (ho : DE X W o fo) (he : DE X W e fe) (hbase : attributeBase o "pop" X.env (eval o X.env) = eval o X.env := by rfl)
    (hfew : ((backTo cpos (starEach [e] X.env)).all (fun x => !x.1) && (backToKw cpos (keywordEach [] X.env)).all (fun x => x.1.isSome)
      && decide (([e] : List Expr).length + ([] : List Keyword).length + (if ([] : List Keyword).isEmpty then 0 else 1) < 30)) = true := by rfl)
    (hline : (apos.endLine == cpos.line) = true := by rfl) (htrees : backTo cpos (starEach [e] X.env) = [(false, eval e X.env)] := by rfl) : DE X W (.Call (.Attribute o "pop" apos) [e] [] cpos) (popE1 fo fe) := by
  obtain ⟨t, p, r⟩ := ho
  obtain ⟨u, q, h⟩ := he
  refine ⟨_, pe_dpop1 p q ⟨hbase, hfew, hline, htrees⟩, fun w H σ s Q R z => ?_⟩
  refine onD_fol r R z fun d s1 w1 H1 a l1 R1 r1 hd p1 => ⟨a, rfl, hd, ?_⟩
  refine h.bnd R1 p1 fun e s2 w2 H2 v2 l2 R2 r2 p2 => ?_
  obtain ⟨kvs, k, h1, h2, h3, h4⟩ := pop_at (z := .non) R2 (Rep.up l2 r1) r2 (fun x z => by cases z) p2
  cases hv : valV kvs k with
  | none => obtain ⟨⟨x, hx⟩, _⟩ := h4 hv; cases hx
  | some v => exact ⟨kvs, k, v, h1, h2, hv, h3 v hv⟩
end
/-! ### reversed(xs), walked -/
def revI (d : D) : M Wk := fun s => match d with
  | .tup ds => .ok ⟨ds.reverse, fun _ => True⟩ s
  | d => match lstOf s d with
    | some ds => .ok ⟨ds.reverse, fun s' => lstOf s' d = some ds⟩ s
    | none => .bad
end Fx

/-! Fx: d.update(e); d.values(), d.items(), walked under the lock; equations for dicts -/
namespace Fx
open PySem PySem.Spec PyProof.Rows L2
variable {X : Cx} {W : WX}
/-! ### d.update(e), e another dict -/
def isC (n : Nat) : D → Bool
  | .cell m => m == n
  | _ => false
def updM (d e : D) : M D := fun s => match d, dctR s e with
  | .cell n, some more => match s.vh[n]? with
    | some (.dct kvs) => if (!isC n e && lenOk (kvs.length + more.length)) = true then .ok .non ⟨s.loc, s.vh.set n (.dct (mergeA kvs more))⟩ else .bad
    | _ => .bad
  | _, _ => .bad
def updE (fo fe : M D) : M D := onD fo fun d => bnd fe fun e => updM d e
section
variable {o e : Expr} {fo fe : M D} {apos cpos : Pos}
end
/-! ### for v in d.values(), for k, v in d.items() -/
theorem RepK.at2 {K : PySem.W.Frag} {w : Wd} {us : List (Key × V)} {kvs : List (Key × D)} (h : RepK K w us kvs) : ∀ {i : Nat} {k : Key} {d : D}, kvs[i]? = some (k, d) → ∃ v, us[i]? = some (k, v) ∧ Rep K w v d := by
  induction h with
  | nil => intro i k d h; simp at h
  | cons r t ih =>
    intro i k d h
    cases i with
    | zero => cases h; exact ⟨_, rfl, r⟩
    | succ i => exact ih h
/-! ### equations -/
section
variable {fo fk fx fe : M D} {s : S}
theorem x_onD {F : D → M D} : onD fo F s = (fo s).then' fun d s => if (dctR s d).isSome = true then F d s else .bad := nr rfl
theorem x_getE1 : getE1 fo fk s = onD fo (fun d => bnd fk fun e => getM d e .non) s := nr rfl
theorem x_getE2 : getE2 fo fk fx s = onD fo (fun d => bnd fk fun e => bnd fx fun x => getM d e x) s := nr rfl
theorem x_popE1 : popE1 fo fk s = onD fo (fun d => bnd fk fun e => popDM d e none) s := nr rfl
theorem x_popE2 : popE2 fo fk fx s = onD fo (fun d => bnd fk fun e => bnd fx fun x => popDM d e (some x)) s := nr rfl
theorem x_updE : updE fo fe s = onD fo (fun d => bnd fe fun e => updM d e) s := nr rfl
theorem keyD_int {i : Int} : keyD (.int i) = some (.inl i) := rfl
theorem keyD_str {x : Str} : keyD (.str x) = some (.inr x) := rfl
theorem x_popM {n : Nat} {e v : D} {xo : Option D} {kvs : List (Key × D)} {k : Key} (h : s.vh[n]? = some (.dct kvs)) (hk : keyD e = some k) (hv : valA kvs k = some v) : popDM (.cell n) e xo s = .ok v ⟨s.loc, s.vh.set n (.dct (dropA kvs k))⟩ := by
  unfold popDM
  rw [hk]
  dsimp only
  rw [h]
  dsimp only
  rw [hv]
theorem x_revT {ds : List D} : revI (.tup ds) s = .ok ⟨ds.reverse, fun _ => True⟩ s := nr rfl
theorem x_revL {ds : List D} : revI (.lst ds) s = .ok ⟨ds.reverse, fun _ => True⟩ s := by
  have h : (fun s' : S => lstOf s' (.lst ds) = some ds) = fun _ => True := funext fun s' => propext ⟨fun _ => trivial, fun _ => rfl⟩
  show Res.ok (Wk.mk _ (fun s' : S => lstOf s' (.lst ds) = some ds)) s = _
  rw [h]
theorem x_unpP {i j : Nat} {a b : D} : unp2 i j (.pr a b) s = .ok .nx ⟨(s.loc.set i (some a)).set j (some b), s.vh⟩ := nr rfl
end
/-! ### methods that ask themselves -/
section
variable {P : Program} {wd : World} {K : PySem.W.Frag} {mg : Str → Option Value} {base : Heap} {x m q : Str} {st : Stmt} {ps : List Str} {k : Nat}
theorem TopM.nilN (T : TopM K x m q st ps) : Met P wd K mg base x m k (SpN K ps.length fun _ _ => none) :=
  let ⟨C, f, fd, a, F, M, b⟩ := T.ex
  ⟨C, f, fd, ps, a, M, b, fun _ _ _ _ h => h.1, fun _ _ _ _ _ _ _ _ _ _ _ _ _ h => by obtain ⟨_, _, _, _, _, _, _, _, e, _⟩ := h; cases e⟩
end
/-! ### isinstance(x, (T, U)), own classes -/
section
variable {X : Cx} {W : WX}
end
/-! ### the least of a list of ints -/
section
variable {X : Cx} {W : WX}
def minZ : List Int → Int
  | [] => 0
  | [a] => a
  | a :: b :: r => min a (minZ (b :: r))
def minlM : List D → M D
  | [d] => fun s => match lstOf s d with
    | some ds => match intsOf ds with
      | some ns => if ns = [] then .bad else .ok (.int (minZ ns)) s
      | none => .bad
    | none => .bad
  | _ => fail
theorem x_minl {ns : List Int} {s : S} (h : ns ≠ []) : minlM [.lst (ns.map D.int)] s = .ok (.int (minZ ns)) s := by
  unfold minlM lstOf
  dsimp only
  rw [intsOf_map]
  dsimp only
  rw [if_neg h]
end
end Fx

/-! Fx: defs that may raise -/
namespace Fx
open PySem PySem.Spec PyProof.Rows L2
inductive Rz where
  | ok (d : D) (vh : List Cell)
  | exc (e : Ex) (vh : List Cell)
  | bad
abbrev Xf := List D → List Cell → Rz
/-- what a raise of e asks, where W' is wished of the exceptions as they stand in the heap -/
def LW (K : PySem.W.Frag) (mg : Str → Option Value) (W' : L2.WX) : WX := fun e w H σ => ∀ C, mg e.cls = some (.ref C) →
  (e.fs = [] → W' (.ref C) none σ H) ∧ (e.fs ≠ [] → ∀ d vs, H d = none → RepF K w vs e.fs → W' (.ref C) (some d) σ (upd H d (.xd vs)))
/-- the same, whatever the slots -/
def LE (K : PySem.W.Frag) (mg : Str → Option Value) (E : XK) : WX := LW K mg fun c d _ H => E c d H
def SpX (K : PySem.W.Frag) (mg : Str → Option Value) (n : Nat) (F : Xf) : Sp := fun vs H Q E => vs.length = n ∧ ∃ w σ s ds, RS K w H σ s ∧ RepL K w vs ds ∧ match F ds s.vh with
  | .ok d vh => ∀ w' H' v, Le w H w' H' → RS K w' H' σ ⟨s.loc, vh⟩ → Rep K w' v d → Q v H'
  | .exc e vh => ∀ w' H', Le w H w' H' → RS K w' H' σ ⟨s.loc, vh⟩ → LE K mg E e w' H' σ
  | .bad => False
noncomputable def runXS (n : Nat) (g : M Out) : Xf := fun ds vh => match g (initS n ds vh) with
  | .ok (.rt d) s => .ok d s.vh
  | .ok .nx s => .ok .non s.vh
  | .exc e s => .exc e s.vh
  | _ => .bad
def okP (o : Option D) (vh : List Cell) : Rz := match o with
  | some d => .ok d vh
  | none => .bad
open Classical in
noncomputable def runXP (n : Nat) (g : M Out) : Xf := fun ds vh => match g (initS n ds vh) with
  | .ok (.rt d) s => okP (fin vh s d) vh
  | .ok .nx s => okP (fin vh s .non) vh
  | .exc e s => if s.vh.take vh.length = vh ∧ (e.fs.all fun kv => nc vh.length kv.2) = true then .exc e vh else .bad
  | _ => .bad
def okW (o : Option (D × List Cell)) : Rz := match o with
  | some (d, vh) => .ok d vh
  | none => .bad
noncomputable def runXW (n : Nat) (g : M Out) : Xf := fun ds vh => match g (initS n ds vh) with
  | .ok (.rt d) s => okW (finW vh.length s d)
  | .ok .nx s => okW (finW vh.length s .non)
  | .exc e s => match finW vh.length s .non with
    | some (_, vh') => if (e.fs.all fun kv => nc vh.length kv.2) = true then .exc e vh' else .bad
    | none => .bad
  | _ => .bad
section
variable {P : Program} {wd : World} {K : PySem.W.Frag} {mg : Str → Option Value} {base : Heap} {x qual : Str} {st : Stmt} {f : Addr} {fd : FuncData} {N ps : List Str} {k : Nat} {g : M Out}
theorem fnX_S (F : Fun K x qual st f fd) (Sc : FnScope N ps (defScope st)) (hle : ps.length ≤ N.length)
    (body : ∀ (cdv : Value) (A : Around) (outer : List Env) (s : Shared) (H : Hp) (E : XK), Room k (A.deeper (envOfC qual (defScope st) s.heap.objs.size f cdv)) →
      DSs (cxOf (L2.CX P wd) P wd K mg base N qual (defScope st) f cdv A outer s H E) (LE K mg E) (defBody st) g) : FnOk P wd K mg base (L2.CX P wd) (k + 1) f fd ps (SpX K mg ps.length (runXS N.length g)) := by
  refine F.okX Sc (fun vs H Q E h => h.1) fun cdv A outer s H vs Q E hr h => ?_
  obtain ⟨t, p, r⟩ := body cdv A outer s H E hr
  obtain ⟨hl, w, σ, z, ds, R, rv, m⟩ := h
  refine ⟨t, p, r w H _ (initS N.length ds z.vh) _ (start_ok (ps := ps) R rv) ?_⟩
  show PostS K (LE K mg E) w H (g (initS N.length ds z.vh)) _
  unfold runXS at m
  have back : ∀ {s1 : S} {w' H' σ'}, Le w H w' H' → RS K w' H' σ' s1 → RS K w' H' σ ⟨z.loc, s1.vh⟩ := fun {s1 w' H' σ'} l R' => R'.other (l := z.loc) R.len fun i d hi => by
    obtain ⟨v, h1, h2⟩ := R.loc i d hi
    exact ⟨v, h1, Rep.up l h2⟩
  cases hg : g (initS N.length ds z.vh) with
  | bad => rw [hg] at m; exact m.elim
  | exc e s1 => rw [hg] at m; exact fun w' H' σ' l R' => m w' H' l (back l R')
  | ok o s1 =>
    rw [hg] at m
    cases o with
    | brk => exact m.elim
    | cnt => exact m.elim
    | rt d0 => exact fun w' H' σ' v l R' rv => m w' H' v l (back l R') rv
    | nx => exact fun w' H' σ' l R' => m w' H' .non l (back l R') .non
theorem nc_fields {b : Nat} {w : Wd} {H : Hp} : ∀ {vs : List (Str × V)} {ds : List (Str × D)}, RepF K w vs ds → (ds.all fun kv => nc b kv.2) = true → RepF K (w.fall b H) vs ds
  | _, _, .nil, _ => .nil
  | _, _, .cons h t, c => by
    rw [List.all_cons, Bool.and_eq_true] at c
    exact .cons (nc_rep h c.1) (nc_fields t c.2)
theorem cut_fields {b : Nat} {w : Wd} : ∀ {vs : List (Str × V)} {ds : List (Str × D)}, RepF K w vs ds → (ds.all fun kv => nc b kv.2) = true → RepF K (w.cut b) vs ds := fun h c => cut_repF h c
theorem fnX_P (F : Fun K x qual st f fd) (Sc : FnScope N ps (defScope st)) (hle : ps.length ≤ N.length)
    (body : ∀ (cdv : Value) (A : Around) (outer : List Env) (s : Shared) (H : Hp) (E : XK), Room k (A.deeper (envOfC qual (defScope st) s.heap.objs.size f cdv)) →
      DSs (cxOf (L2.CX P wd) P wd K mg base N qual (defScope st) f cdv A outer s H E) (LE K mg E) (defBody st) g) : FnOk P wd K mg base (L2.CX P wd) (k + 1) f fd ps (SpX K mg ps.length (runXP N.length g)) := by
  refine F.okX Sc (fun vs H Q E h => h.1) fun cdv A outer s H vs Q E hr h => ?_
  obtain ⟨t, p, r⟩ := body cdv A outer s H E hr
  obtain ⟨hl, w, σ, z, ds, R, rv, m⟩ := h
  refine ⟨t, p, r w H _ (initS N.length ds z.vh) _ (start_ok (ps := ps) R rv) ?_⟩
  show PostS K (LE K mg E) w H (g (initS N.length ds z.vh)) _
  unfold runXP at m
  have fin_ok : ∀ {d0 : D} {s1 : S}, (match okP (fin z.vh s1 d0) z.vh with
      | .ok d vh => ∀ w' H' v, Le w H w' H' → RS K w' H' σ ⟨z.loc, vh⟩ → Rep K w' v d → Q v H'
      | .exc e vh => ∀ w' H', Le w H w' H' → RS K w' H' σ ⟨z.loc, vh⟩ → LE K mg E e w' H' σ
      | .bad => False) → ∀ w' H' σ' v, Le w H w' H' → RS K w' H' σ' s1 → Rep K w' v d0 → Q v H' := fun {d0 s1} e w' H' σ' v l R' rv => by
    cases hf : fin z.vh s1 d0 with
    | none => rw [hf] at e; exact e.elim
    | some d =>
      rw [hf] at e
      unfold fin at hf
      split at hf
      · next hp =>
        obtain ⟨l2, R2⟩ := RS.back R l R' hp rfl
        exact e _ _ _ l2 R2 (thaw_rep R' 8 rv hf)
      · cases hf
  cases hg : g (initS N.length ds z.vh) with
  | bad => rw [hg] at m; exact m.elim
  | exc e s1 =>
    rw [hg] at m
    dsimp only at m
    intro w' H' σ' l R'
    by_cases hp : s1.vh.take z.vh.length = z.vh ∧ (e.fs.all fun kv => nc z.vh.length kv.2) = true
    · rw [if_pos hp] at m
      obtain ⟨h1, h2⟩ := hp
      obtain ⟨l2, R2⟩ := RS.back R l R' h1 rfl
      have := m _ _ l2 R2
      intro C hC
      exact ⟨(this C hC).1, fun hne d vs hd rf => (this C hC).2 hne d vs hd (nc_fields rf h2)⟩
    · rw [if_neg hp] at m; exact m.elim
  | ok o s1 =>
    rw [hg] at m
    cases o with
    | brk => exact m.elim
    | cnt => exact m.elim
    | rt d0 => exact fun w' H' σ' v l R' rv => fin_ok m w' H' σ' v l R' rv
    | nx => exact fun w' H' σ' l R' => fin_ok m w' H' σ' .non l R' .non
theorem fnX_W (F : Fun K x qual st f fd) (Sc : FnScope N ps (defScope st)) (hle : ps.length ≤ N.length)
    (body : ∀ (cdv : Value) (A : Around) (outer : List Env) (s : Shared) (H : Hp) (E : XK), Room k (A.deeper (envOfC qual (defScope st) s.heap.objs.size f cdv)) →
      DSs (cxOf (L2.CX P wd) P wd K mg base N qual (defScope st) f cdv A outer s H E) (LE K mg E) (defBody st) g) : FnOk P wd K mg base (L2.CX P wd) (k + 1) f fd ps (SpX K mg ps.length (runXW N.length g)) := by
  refine F.okX Sc (fun vs H Q E h => h.1) fun cdv A outer s H vs Q E hr h => ?_
  obtain ⟨t, p, r⟩ := body cdv A outer s H E hr
  obtain ⟨hl, w, σ, z, ds, R, rv, m⟩ := h
  refine ⟨t, p, r w H _ (initS N.length ds z.vh) _ (start_ok (ps := ps) R rv) ?_⟩
  show PostS K (LE K mg E) w H (g (initS N.length ds z.vh)) _
  unfold runXW at m
  have cut : ∀ {d0 : D} {s1 : S} {d : D} {vh : List Cell}, finW z.vh.length s1 d0 = some (d, vh) → ∀ w' H' σ', Le w H w' H' → RS K w' H' σ' s1 → (∀ v, Rep K w' v d0 → Rep K (w'.cut z.vh.length) v d) ∧ Le w H (w'.cut z.vh.length) H' ∧ RS K (w'.cut z.vh.length) H' σ ⟨z.loc, vh⟩ := fun {d0 s1 d vh} e w' H' σ' l R' => by
    unfold finW at e
    split at e
    · next h1 =>
      split at e
      · next h2 =>
        split at e
        · next h3 =>
          cases e
          rw [List.all_eq_true] at h2
          obtain ⟨l2, R2⟩ := RS.cut R l R' rfl h1 h2
          exact ⟨fun v rv => cut_rep rv h3, l2, R2⟩
        · cases e
      · cases e
    · cases e
  have fin_ok : ∀ {d0 : D} {s1 : S}, (match okW (finW z.vh.length s1 d0) with
      | .ok d vh => ∀ w' H' v, Le w H w' H' → RS K w' H' σ ⟨z.loc, vh⟩ → Rep K w' v d → Q v H'
      | .exc e vh => ∀ w' H', Le w H w' H' → RS K w' H' σ ⟨z.loc, vh⟩ → LE K mg E e w' H' σ
      | .bad => False) → ∀ w' H' σ' v, Le w H w' H' → RS K w' H' σ' s1 → Rep K w' v d0 → Q v H' := fun {d0 s1} e w' H' σ' v l R' rv => by
    cases hf : finW z.vh.length s1 d0 with
    | none => rw [hf] at e; exact e.elim
    | some p =>
      obtain ⟨d, vh⟩ := p
      rw [hf] at e
      obtain ⟨a, b, c⟩ := cut hf w' H' σ' l R'
      exact e _ _ _ b c (a v rv)
  cases hg : g (initS N.length ds z.vh) with
  | bad => rw [hg] at m; exact m.elim
  | exc e s1 =>
    rw [hg] at m
    dsimp only at m
    intro w' H' σ' l R'
    cases hf : finW z.vh.length s1 .non with
    | none => rw [hf] at m; exact m.elim
    | some p =>
      obtain ⟨d, vh⟩ := p
      rw [hf] at m
      dsimp only at m
      by_cases h2 : (e.fs.all fun kv => nc z.vh.length kv.2) = true
      · rw [if_pos h2] at m
        obtain ⟨a, b, c⟩ := cut hf w' H' σ' l R'
        have := m _ _ b c
        intro C hC
        exact ⟨(this C hC).1, fun hne d vs hd rf => (this C hC).2 hne d vs hd (cut_fields rf h2)⟩
      · rw [if_neg h2] at m; exact m.elim
  | ok o s1 =>
    rw [hg] at m
    cases o with
    | brk => exact m.elim
    | cnt => exact m.elim
    | rt d0 => exact fun w' H' σ' v l R' rv => fin_ok m w' H' σ' v l R' rv
    | nx => exact fun w' H' σ' l R' => fin_ok m w' H' σ' .non l R' .non
end
/-! ### calls of such defs -/
structure FnX (P : Program) (wd : World) (K : PySem.W.Frag) (mg : Str → Option Value) (base : Heap) (x : Str) (n k : Nat) (F : Xf) : Prop where
  ex : ∃ (f : Addr) (fd : FuncData) (ps : List Str), mg x = some (.ref f) ∧ PySem.W.keepIn K (.ref f) = true ∧ Binds K fd ps [] ∧ FnOk P wd K mg base (L2.CX P wd) k f fd ps (SpX K mg n F)
structure MetX (P : Program) (wd : World) (K : PySem.W.Frag) (mg : Str → Option Value) (base : Heap) (x m : Str) (n k : Nat) (F : Xf) : Prop where
  ex : ∃ (C f : Addr) (fd : FuncData) (ps : List Str), clsIn K x C ∧ Meth K C m f ∧ Binds K fd ps [] ∧ FnOk P wd K mg base (L2.CX P wd) k f fd ps (SpX K mg n F)
def rzM (r : Rz) : M D := fun s => match r with
  | .ok d vh => .ok d ⟨s.loc, vh⟩
  | .exc e vh => .exc e ⟨s.loc, vh⟩
  | .bad => .bad
def callX (n : Nat) (F : Xf) (ds : List D) : M D := fun s => if ds.length = n then rzM (F ds s.vh) s else .bad
section
variable {X : Cx} {W' : L2.WX} {n k : Nat} {F : Xf} {x m : Str} {e o : Expr} {es : List Expr} {fo : M D} {fs : M (List D)} {p pos apos : Pos}
theorem ansX {w : Wd} {H : Hp} {σ : L2.St} {s : S} {vs : List V} {ds : List D} {Q : V → Hp → Prop} (R : RS X.K w H σ s) (r : RepL X.K w vs ds) (z : Post X.K (LW X.K X.mg W') (pD X.K) w H σ (callX n F ds s) Q) : SpX X.K X.mg n F vs H Q (WE W' σ) := by
  unfold callX at z
  split at z
  · next hl =>
    refine ⟨(RepL.length r).trans hl, w, σ, s, ds, R, r, ?_⟩
    unfold rzM at z
    cases hF : F ds s.vh with
    | ok d vh => rw [hF] at z; exact fun w' H' v l R' r' => z w' H' v l R' r'
    | exc e vh => rw [hF] at z; exact fun w' H' l R' => z w' H' l R'
    | bad => rw [hF] at z; exact z.elim
  · exact z.elim
theorem de_callX (h : FnX X.prog X.w X.K X.mg X.base x n k F) (tk : L2.Takes X W') (hr : Room k X.A) (ha : DA X (LW X.K X.mg W') (e :: es) fs) (hg : Gl X x := by rfl) (hdb : (x == ("__debug__" : Str)) = false := by decide)
    (he : starEach (e :: es) X.env = (false, eval e X.env) :: starEach es X.env := by rfl) (hpl : (backTo pos (starEach es X.env)).any (·.1) = false := by rfl) : DE X (LW X.K X.mg W') (.Call (.Name x p) (e :: es) [] pos) (bnd fs (callX n F)) := by
  obtain ⟨f, fd, ps, hm, hk, hb, G⟩ := h.ex
  obtain ⟨t, q, r⟩ := ha
  exact ⟨_, pe_callS G hr hg hm hk hb (fun σ => passAt tk σ) q hdb he hpl, fun w H σ s Q R z => r.bnd R z fun ds s1 w1 H1 vs l1 R1 r1 p1 => ansX R1 r1 p1⟩
/-- o.m(e, ..), what is let out told by the slots -/
def tMethS (C : Addr) (m : Str) (sp : Sp) (E : L2.St → XK) (ta : TE) (t : TA) : TE := fun σ H Q => ta σ H fun x H1 => ∃ a dx fs, x = .ref a ∧ H1 a = some (.ins C dx fs) ∧ fs.lookup m = none ∧ t σ H1 fun vs H2 => sp (.ref a :: vs) H2 Q (E σ)
theorem pe_methS {CX : CXT} {f C : Addr} {fd : FuncData} {ps : List Str} {sp : Sp} {E : L2.St → XK} {ta : TE} {t : TA} {pl : Sem Bool} (he : PE X o ta) (c : Cls X.K C) (hm : Meth X.K C m f) (G : FnOk X.prog X.w X.K X.mg X.base CX k f fd ps sp) (hr : Room k X.A) (hb : Binds X.K fd ps []) (hx : ∀ σ, PassesAt CX X σ (E σ)) (ha : PA X (e :: es) t)
    (hst : starEach (e :: es) X.env = (false, eval e X.env) :: starEach es X.env := by rfl) (hpl : (backTo pos (starEach es X.env)).any (·.1) = false := by rfl)
    (ht : eval (.Call (.Attribute o m apos) (e :: es) [] pos) X.env = (do
      let ov ← eval o X.env
      standAt apos.atName
      let (f, first) ← holding [ov] (getMethod ov m pl)
      callWith pos f first (backTo pos (starEach (e :: es) X.env)) (backToKw pos (keywordEach [] X.env))) := by rfl) :
    PE X (.Call (.Attribute o m apos) (e :: es) [] pos) (tMethS C m sp E ta t) := by
  refine ⟨fun pins s σ H Q I h => PySem.W.methodCall_KW (pl := pl) (thn (he.run pins s σ H _ I h) fun u s1 ⟨x, H1, I1, rx, a, dx, fs, ex, ea, l, q⟩ => ?_) ht⟩
  subst ex
  obtain rfl : u = Value.ref a := rx
  exact getmeth_ok I1 ea c hm l (PySem.W.callWith_K (first := [.ref a]) (h₀ := X.base) I.ok.mod.kin hm.kp (thn (ha.run pos pins s1 σ H1 _ I1 q) fun us s2 ⟨vs, H2, I2, r, q2⟩ => ⟨I2.kIn, run_fnS (us := .ref a :: us) (vs := .ref a :: vs) G hr hb (hx σ) I2 (.cons rfl r) q2⟩) hst hpl)
theorem de_metX (hc : ClsP X.K x) (h : MetX X.prog X.w X.K X.mg X.base x m n k F) (tk : L2.Takes X W') (hr : Room k X.A) (ho : DE X (LW X.K X.mg W') o fo) (ha : DA X (LW X.K X.mg W') (e :: es) fs) {pl : Sem Bool}
    (hst : starEach (e :: es) X.env = (false, eval e X.env) :: starEach es X.env := by rfl) (hpl : (backTo pos (starEach es X.env)).any (·.1) = false := by rfl)
    (ht : eval (.Call (.Attribute o m apos) (e :: es) [] pos) X.env = (do
      let ov ← eval o X.env
      standAt apos.atName
      let (f, first) ← holding [ov] (getMethod ov m pl)
      callWith pos f first (backTo pos (starEach (e :: es) X.env)) (backToKw pos (keywordEach [] X.env))) := by rfl) :
    DE X (LW X.K X.mg W') (.Call (.Attribute o m apos) (e :: es) [] pos) (metM x m fo fs (callX n F)) := by
  obtain ⟨C, f, fd, ps, hC, hm, hb, G⟩ := h.ex
  obtain ⟨to, po, ro⟩ := ho
  obtain ⟨t, q, r⟩ := ha
  refine ⟨_, pe_methS (pl := pl) po (hc C hC) hm G hr hb (fun σ => passAt tk σ) q hst hpl ht, fun w H σ s Q R z => ?_⟩
  refine ro.bnd R z fun d s1 w1 H1 v l1 R1 r1 p1 => ?_
  split at p1
  · next gs hgs =>
    split at p1
    · next hl =>
      obtain ⟨n, a, C', dx, vs, e0, e1, h1, h2, h3, h4, h5⟩ := R1.obj r1 hgs
      cases hC.eq h3
      refine ⟨a, dx, vs, e1, h4, RepF.lookN h5 hl, ?_⟩
      refine r.bnd R1 p1 fun ds s2 w2 H2 us l2 R2 r2 p2 => ?_
      rw [← e1]
      exact ansX R2 (.cons (r1.up l2) r2) p2
    · exact p1.elim
  · exact p1.elim
end
end Fx

/-! Fx: raise -/
namespace Fx
open PySem PySem.Spec PyProof.Rows L2
/-- a class of errors without an own __init__ -/
structure Xc0 (K : PySem.W.Frag) (mg : Str → Option Value) (x : Str) : Prop where
  ex : ∃ C, mg x = some (.ref C) ∧ PySem.W.excIn K C [.type "ValueError", .type "Exception", .type "BaseException", .type "object"] "ValueError.__new__" = true ∧ PySem.W.keepIn K (.ref C) = true ∧
    PySem.W.subIn K (.ref C) (.type "BaseException") = some true ∧ PySem.W.typeIn K (.ref C) = some (.type "type")
section
variable {X : Cx} {W' : L2.WX} {x : Str} {C : Addr} {p pos pos' : Pos}
theorem pmk_own0 (q : PySem.W.excIn X.K C [.type "ValueError", .type "Exception", .type "BaseException", .type "object"] "ValueError.__new__" = true) (gC : X.mg x = some (.ref C)) (kC : PySem.W.keepIn X.K (.ref C) = true) (r : Raises X (.ref C)) (hg : Gl X x)
    (hdb : (x == ("__debug__" : Str)) = false := by decide) : PMk X (.Call (.Name x p) [] [] pos) (fun _ H Q => Q (.ref C) none H) := by
  intro pins s σ H Q I h
  refine wpAny_Call_Name_kw (ld_glob I hg gC ?_ hdb)
  refine PySem.W.callWith_K0 (first := []) I.kIn kC ?_
  show wpAny _ _ (call (.ref C) []) _ _ _
  obtain ⟨bm, N, nm, qn, bs, hdct, sn, sub, ab, col, dd, k0, k1, k2, k3, k5, mN, hC, hN, hni, T⟩ := exc_obj I.kIn q
  exact wpAny_call_exc_subT PySem.F.excBase_ValueError T hC hN hni (fun h' e hm => mk_of I hm r h (I.hok.gone hm.new)) (by show 0 ≤ sizeLine; omega)
def raiseM (x : Str) (ns : List Str) (ds : List D) : M Out := fun s => if ds.length = ns.length then .exc ⟨x, (ns.zip ds).reverse⟩ s else .bad
theorem ds_raise0 (q : Xc0 X.K X.mg x) (tk : L2.Takes X W') (hc : X.calm = true := by rfl) (hg : Gl X x := by rfl) (hdb : (x == ("__debug__" : Str)) = false := by decide) : DS X (LW X.K X.mg W') (.Raise (some (.Call (.Name x p) [] [] pos)) none pos') (raiseM x [] []) := by
  obtain ⟨C, gC, e1, e2, e3, e4⟩ := q.ex
  refine ⟨_, ps_raise hc tk (pmk_own0 e1 gC e2 (raises_own e3 e4) hg hdb), fun w H σ s D R z => ?_⟩
  have z : PostS X.K (LW X.K X.mg W') w H (.exc ⟨x, []⟩ s) D := z
  exact (z w H σ (Le.refl w H) R C gC).1 rfl
end
/-! ### errors that keep what they are made of -/
def SpE (K : PySem.W.Frag) (ns : List Str) : Sp := fun vs H Q _ => ∃ (a C : Addr) (us : List V), vs = .ref a :: us ∧ us.length = ns.length ∧ H a = some (exo a C none) ∧ OexC K C ∧ (∀ f ∈ ns, PySem.W.findIn K (.ref C) f = some none) ∧
  ∀ d, H d = none → d ≠ a → Q .non (upd (upd H d (exd d (ns.zip us).reverse)) a (exo a C (some d)))
structure Xc1 (P : Program) (wd : World) (K : PySem.W.Frag) (mg : Str → Option Value) (base : Heap) (x : Str) (ns : List Str) (k : Nat) : Prop where
  ex : ∃ (C fI : Addr) (fd : FuncData) (ps : List Str), mg x = some (.ref C) ∧ OexC K C ∧ (∀ f ∈ ns, PySem.W.findIn K (.ref C) f = some none) ∧ PySem.W.findIn K (.ref C) "__init__" = some (some (.ref fI)) ∧ PySem.W.typeIn K (.ref fI) = some (.type "function") ∧ Binds K fd ps [] ∧
    FnOk P wd K mg base CX0 k fI fd ps (SpE K ns)
section
variable {P : Program} {wd : World} {K : PySem.W.Frag} {mg : Str → Option Value} {base : Heap} {qual n m : Str} {st : Stmt} {f : Addr} {fd : FuncData} {N ps : List Str} {k : Nat}
theorem sv {us : List V} {N : List Str} {i : Nat} {v : V} (h : us[i]? = some v) : (start N us)[i]? = some (some v) := by
  have hi := (List.getElem?_eq_some_iff.mp h).1
  show (us.map some ++ _)[i]? = _
  rw [List.getElem?_append_left (by rw [List.length_map]; exact hi), List.getElem?_map, h]
  rfl
theorem init1 (F : Fun K "__init__" qual st f fd) (Sc : FnScope N ps (defScope st)) (h2 : ps.length = 2)
    (body : ∀ (cdv : Value) (A : Around) (outer : List Env) (s : Shared) (H : Hp) (E : XK), PSs (cxOf CX0 P wd K mg base N qual (defScope st) f cdv A outer s H E).nox (defBody st) (tOst K n (tVar 0) (tVar 1))) : FnOk P wd K mg base CX0 (k + 1) f fd ps (SpE K [n]) := by
  refine F.ok Sc (fun vs H Q E h => ?_) fun cdv A outer s H vs Q E hr h => ?_
  · obtain ⟨a, C, us, e, l, _⟩ := h
    rw [e, List.length_cons, l, h2]; rfl
  · obtain ⟨a, C, us, e, l, ea, T, hf, q⟩ := h
    subst e
    cases us with
    | nil => cases l
    | cons y r =>
      cases r with
      | cons _ _ => cases l
      | nil =>
        exact ⟨_, body cdv A outer s H E, y, sv rfl, .ref a, sv rfl, a, C, rfl, T, hf n List.mem_cons_self, .inl ⟨ea, fun dx hd hne => q dx hd hne⟩⟩
end
section
variable {X : Cx} {W' : L2.WX} {x : Str} {ns : List Str} {k : Nat} {e : Expr} {es : List Expr} {fs : M (List D)} {p pos pos' : Pos}
theorem repF_zip {K : PySem.W.Frag} {w : Wd} : ∀ {ns : List Str} {vs : List V} {ds : List D}, RepL K w vs ds → RepF K w (ns.zip vs) (ns.zip ds)
  | [], _, _, _ => .nil
  | _ :: _, _, _, .nil => .nil
  | _ :: ns, _, _, .cons h t => .cons h (repF_zip t)
theorem repF_app {K : PySem.W.Frag} {w : Wd} : ∀ {vs us : List (Str × V)} {ds es : List (Str × D)}, RepF K w vs ds → RepF K w us es → RepF K w (vs ++ us) (ds ++ es)
  | _, _, _, _, .nil, s => s
  | _, _, _, _, .cons h t, s => .cons h (repF_app t s)
theorem repF_rev {K : PySem.W.Frag} {w : Wd} : ∀ {vs : List (Str × V)} {ds : List (Str × D)}, RepF K w vs ds → RepF K w vs.reverse ds.reverse
  | _, _, .nil => .nil
  | _, _, .cons h t => by
    rw [List.reverse_cons, List.reverse_cons]
    exact repF_app (repF_rev t) (.cons h .nil)
theorem ds_raise1 (q : Xc1 X.prog X.w X.K X.mg X.base x ns k) (hn : ns ≠ []) (hn2 : ns.length ≤ 10) (tk : L2.Takes X W') (hr : Room (k + 1) X.A) (ha : DA X (LW X.K X.mg W') (e :: es) fs) (hc : X.calm = true := by rfl) (hg : Gl X x := by rfl) (hdb : (x == ("__debug__" : Str)) = false := by decide)
    (he : starEach (e :: es) X.env = (false, eval e X.env) :: starEach es X.env := by rfl) (hpl : (backTo pos (starEach es X.env)).any (·.1) = false := by rfl) : DS X (LW X.K X.mg W') (.Raise (some (.Call (.Name x p) (e :: es) [] pos)) none pos') (bnd fs (raiseM x ns)) := by
  obtain ⟨C, fI, fd, ps, gC, T, hno, iC, tI, hb, G⟩ := q.ex
  obtain ⟨t, qa, r⟩ := ha
  refine ⟨_, ps_raise hc tk (pmk_oex T iC tI G hr hb .nil pass0 hg gC qa hdb he hpl), fun w H σ s D R z => ?_⟩
  refine r.bndS R z fun ds s1 w1 H1 vs l1 R1 r1 p1 => ?_
  unfold raiseM at p1
  split at p1
  · next hl =>
    have hv : vs.length = ns.length := (RepL.length r1).trans hl
    refine ⟨by omega, fun a ha => ⟨a, C, vs, by rw [List.append_nil], hv, upd_same, T, hno, fun d hd hne => ?_⟩⟩
    have hd1 : H1 d = none := by rw [upd_ne hne] at hd; exact hd
    refine ⟨rfl, d, (ns.zip vs).reverse, upd_same, by rw [upd_ne hne, upd_same], hd1, ?_⟩
    have eH : upd (del (upd (upd (upd H1 a (exo a C none)) d (exd d (ns.zip vs).reverse)) a (exo a C (some d))) a) d (.xd (ns.zip vs).reverse) = upd H1 d (.xd (ns.zip vs).reverse) := by
      funext b
      by_cases h1 : b = d
      · subst h1; rw [upd_same, upd_same]
      · rw [upd_ne h1, upd_ne h1]
        by_cases h2 : b = a
        · subst h2; rw [del_same, ha]
        · rw [del_ne h2, upd_ne h2, upd_ne h1, upd_ne h2]
    rw [eH]
    have hne : (⟨x, (ns.zip ds).reverse⟩ : Ex).fs ≠ [] := fun z => by
      have z : (ns.zip ds).reverse = [] := z
      have z2 := congrArg List.length z
      rw [List.length_reverse, List.length_zip, hl, Nat.min_self] at z2
      exact hn (List.length_eq_zero_iff.mp z2)
    have p1 : PostS X.K (LW X.K X.mg W') w1 H1 (.exc ⟨x, (ns.zip ds).reverse⟩ s1) D := p1
    exact (p1 w1 H1 σ (Le.refl w1 H1) R1 C gC).2 hne d _ hd1 (repF_rev (repF_zip r1))
  · exact p1.elim
end
end Fx

/-! Fx: try .. except -/
namespace Fx
open PySem PySem.Spec PyProof.Rows L2
/-- the caught error, as the world knows it -/
structure XAt (K : PySem.W.Frag) (mg : Str → Option Value) (cls : Value) (d : Option Addr) (e : Ex) (w : Wd) : Prop where
  cl : ∃ C, mg e.cls = some (.ref C) ∧ cls = .ref C
  fs : (e.fs = [] ∧ d = none) ∨ ∃ dd vs, d = some dd ∧ w.F dd = some (.xd vs) ∧ RepF K w vs e.fs
theorem XAt.up {K : PySem.W.Frag} {mg : Str → Option Value} {cls : Value} {d : Option Addr} {e : Ex} {w w' : Wd} {H H' : Hp} (h : XAt K mg cls d e w) (l : Le w H w' H') : XAt K mg cls d e w' :=
  ⟨h.cl, h.fs.imp id fun ⟨dd, vs, a, b, c⟩ => ⟨dd, vs, a, l.le.2 _ _ b, c.upW l.le⟩⟩
/-- what an own class of errors must say, so that isinstance asks its instances rightly -/
structure ExcQ (K : PySem.W.Frag) (C : Addr) : Prop where
  cl : (PySem.W.clsIn K C).isSome = true
  hg : PySem.W.findIn K (.ref C) "__getattribute__" = some (some (.builtin "BaseException.__getattribute__"))
  hk : PySem.W.findIn K (.ref C) "__getattr__" = some none
  hs : PySem.W.subIn K (.ref C) (.type "BaseException") = some true
  ha : PySem.W.findIn K (.ref C) "__class__" = some (some (.builtin "object.__class__"))
  hn : PySem.W.specialIn K (.builtin "object.__class__") "__get__" = some (some (.builtin "getset_descriptor.__get__"))
  ht : PySem.W.takesIn K (.builtin "object.__class__") = some true
  hm : PySem.W.mroIn K C (.type "object") = some true
/-- e.f, errors of the class x -/
structure XcF (K : PySem.W.Frag) (mg : Str → Option Value) (x f : Str) : Prop where
  ex : ∃ C, mg x = some (.ref C) ∧ XfC K C ∧ PySem.W.findIn K (.ref C) f = some none
/-- isinstance(e, T), errors of the class x -/
structure XcI (K : PySem.W.Frag) (mg : Str → Option Value) (x T : Str) (b : Bool) : Prop where
  ex : ∃ C CT, mg x = some (.ref C) ∧ mg T = some (.ref CT) ∧ ExcQ K C ∧ PySem.W.kitOne K (.ref C) (.ref CT) = some b
/-- .. T a class of the language -/
structure XcB (K : PySem.W.Frag) (mg : Str → Option Value) (x : Str) (T : String) (b : Bool) : Prop where
  ex : ∃ C, mg x = some (.ref C) ∧ ExcQ K C ∧ PySem.W.kitOne K (.ref C) (.type T) = some b
/-- except T, errors of the class x -/
structure XcP (K : PySem.W.Frag) (mg : Str → Option Value) (x T : Str) (b : Bool) : Prop where
  ex : ∃ C CT, mg x = some (.ref C) ∧ mg T = some (.ref CT) ∧ PySem.W.exmOne K (.ref C) (.ref CT) = some b
inductive Tab (P : Str → Bool → Prop) : List (Str × Bool) → Prop
  | nil : Tab P []
  | cons {x : Str} {b : Bool} {r : List (Str × Bool)} (h : P x b) (t : Tab P r) : Tab P ((x, b) :: r)
theorem Tab.at {P : Str → Bool → Prop} : ∀ {r : List (Str × Bool)} {x : Str} {b : Bool}, Tab P r → r.lookup x = some b → P x b
  | _, _, _, .nil, e => by cases e
  | _, x, b, .cons (x := y) (b := c) (r := r) h t, e => by
    rw [List.lookup_cons] at e
    by_cases k : x = y
    · subst k
      rw [beq_self_eq_true] at e
      cases e
      exact h
    · rw [beq_eq_false_iff_ne.mpr k] at e
      exact Tab.at t e
section
variable {X : Cx} {a : Addr} {oe : Obj} {cls : Value} {d : Option Addr} {e : Ex} {pn : List (Addr × Obj)} {i : Nat} {ex b : Expr} {es rest : List Expr} {p p2 pos : Pos} {n : Str} {v u : S → Option D} {vs : S → Option (List D)}
end
/-! ### the statement -/
def tryM (f : M Out) (tab : List (Str × Bool)) (su : Ex → M Out) : M Out := fun s => match f s with
  | .exc e s' => match tab.lookup e.cls with
    | some true => su e s'
    | some false => .exc e s'
    | none => .bad
  | r => r
/-- what is let out, told to the machine -/
def OutW (K : PySem.W.Frag) (mg : Str → Option Value) (W : WX) (Wout : L2.WX) : Prop := ∀ e w H σ C, mg e.cls = some (.ref C) → W e w H σ →
  (e.fs = [] → Wout (.ref C) none σ H) ∧ (e.fs ≠ [] → ∀ d vs, H d = none → RepF K w vs e.fs → Wout (.ref C) (some d) σ (upd H d (.xd vs)))
theorem outW0 {K : PySem.W.Frag} {mg : Str → Option Value} {Wout : L2.WX} : OutW K mg W0 Wout := fun _ _ _ _ _ _ h => h.elim
section
variable {X : Cx} {W : WX} {Wout : L2.WX} {body : List Stmt} {f : M Out} {T n y : Str} {tab : List (Str × Bool)} {i j : Nat} {ex : Expr} {v : Ex → S → Option D} {np p' p2 pos pos' : Pos}
end
end Fx

/-! Fx: defs that may raise, by the text; the classes of errors -/
namespace Fx
open PySem PySem.Spec PyProof.Rows L2
section
variable {P : Program} {wd : World} {K : PySem.W.Frag} {mg : Str → Option Value} {base : Heap} {x m q : Str} {st : Stmt} {N ps : List Str} {k : Nat} {g : M Out}
theorem Top.fnXS (T : Top K mg x st ps) (Sc : FnScope N ps (defScope st)) (hle : ps.length ≤ N.length)
    (body : ∀ (f : Addr) (cdv : Value) (A : Around) (outer : List Env) (s : Shared) (H : Hp) (E : XK), Room k (A.deeper (envOfC x (defScope st) s.heap.objs.size f cdv)) →
      DSs (cxOf (L2.CX P wd) P wd K mg base N x (defScope st) f cdv A outer s H E) (LE K mg E) (defBody st) g) : FnX P wd K mg base x ps.length (k + 1) (runXS N.length g) :=
  let ⟨f, fd, F, m, b, _⟩ := T.ex
  ⟨f, fd, ps, m, F.kp, b, fnX_S F Sc hle fun cdv A outer s H E hr => body f cdv A outer s H E hr⟩
theorem Top.fnXP (T : Top K mg x st ps) (Sc : FnScope N ps (defScope st)) (hle : ps.length ≤ N.length)
    (body : ∀ (f : Addr) (cdv : Value) (A : Around) (outer : List Env) (s : Shared) (H : Hp) (E : XK), Room k (A.deeper (envOfC x (defScope st) s.heap.objs.size f cdv)) →
      DSs (cxOf (L2.CX P wd) P wd K mg base N x (defScope st) f cdv A outer s H E) (LE K mg E) (defBody st) g) : FnX P wd K mg base x ps.length (k + 1) (runXP N.length g) :=
  let ⟨f, fd, F, m, b, _⟩ := T.ex
  ⟨f, fd, ps, m, F.kp, b, fnX_P F Sc hle fun cdv A outer s H E hr => body f cdv A outer s H E hr⟩
theorem Top.fnXW (T : Top K mg x st ps) (Sc : FnScope N ps (defScope st)) (hle : ps.length ≤ N.length)
    (body : ∀ (f : Addr) (cdv : Value) (A : Around) (outer : List Env) (s : Shared) (H : Hp) (E : XK), Room k (A.deeper (envOfC x (defScope st) s.heap.objs.size f cdv)) →
      DSs (cxOf (L2.CX P wd) P wd K mg base N x (defScope st) f cdv A outer s H E) (LE K mg E) (defBody st) g) : FnX P wd K mg base x ps.length (k + 1) (runXW N.length g) :=
  let ⟨f, fd, F, m, b, _⟩ := T.ex
  ⟨f, fd, ps, m, F.kp, b, fnX_W F Sc hle fun cdv A outer s H E hr => body f cdv A outer s H E hr⟩
theorem TopM.fnXS (T : TopM K x m q st ps) (Sc : FnScope N ps (defScope st)) (hle : ps.length ≤ N.length)
    (body : ∀ (f : Addr) (cdv : Value) (A : Around) (outer : List Env) (s : Shared) (H : Hp) (E : XK), Room k (A.deeper (envOfC q (defScope st) s.heap.objs.size f cdv)) →
      DSs (cxOf (L2.CX P wd) P wd K mg base N q (defScope st) f cdv A outer s H E) (LE K mg E) (defBody st) g) : MetX P wd K mg base x m ps.length (k + 1) (runXS N.length g) :=
  let ⟨C, f, fd, a, F, M, b⟩ := T.ex
  ⟨C, f, fd, ps, a, M, b, fnX_S F Sc hle fun cdv A outer s H E hr => body f cdv A outer s H E hr⟩
theorem TopM.fnXP (T : TopM K x m q st ps) (Sc : FnScope N ps (defScope st)) (hle : ps.length ≤ N.length)
    (body : ∀ (f : Addr) (cdv : Value) (A : Around) (outer : List Env) (s : Shared) (H : Hp) (E : XK), Room k (A.deeper (envOfC q (defScope st) s.heap.objs.size f cdv)) →
      DSs (cxOf (L2.CX P wd) P wd K mg base N q (defScope st) f cdv A outer s H E) (LE K mg E) (defBody st) g) : MetX P wd K mg base x m ps.length (k + 1) (runXP N.length g) :=
  let ⟨C, f, fd, a, F, M, b⟩ := T.ex
  ⟨C, f, fd, ps, a, M, b, fnX_P F Sc hle fun cdv A outer s H E hr => body f cdv A outer s H E hr⟩
theorem TopM.fnXW (T : TopM K x m q st ps) (Sc : FnScope N ps (defScope st)) (hle : ps.length ≤ N.length)
    (body : ∀ (f : Addr) (cdv : Value) (A : Around) (outer : List Env) (s : Shared) (H : Hp) (E : XK), Room k (A.deeper (envOfC q (defScope st) s.heap.objs.size f cdv)) →
      DSs (cxOf (L2.CX P wd) P wd K mg base N q (defScope st) f cdv A outer s H E) (LE K mg E) (defBody st) g) : MetX P wd K mg base x m ps.length (k + 1) (runXW N.length g) :=
  let ⟨C, f, fd, a, F, M, b⟩ := T.ex
  ⟨C, f, fd, ps, a, M, b, fnX_W F Sc hle fun cdv A outer s H E hr => body f cdv A outer s H E hr⟩
end
section
variable {P : Program} {wd : World} {K : PySem.W.Frag} {mg : Str → Option Value} {base : Heap} {x m q : Str} {st : Stmt} {ps : List Str} {n j k : Nat} {F : Xf}
theorem FnX.mono (h : FnX P wd K mg base x n j F) (l : j ≤ k) : FnX P wd K mg base x n k F := let ⟨f, fd, ps, a, b, c, d⟩ := h.ex; ⟨f, fd, ps, a, b, c, d.mono l⟩
theorem MetX.mono (h : MetX P wd K mg base x m n j F) (l : j ≤ k) : MetX P wd K mg base x m n k F := let ⟨C, f, fd, ps, a, b, c, d⟩ := h.ex; ⟨C, f, fd, ps, a, b, c, d.mono l⟩
theorem Top.nilX (T : Top K mg x st ps) : FnX P wd K mg base x ps.length k (fun _ _ => .bad) :=
  let ⟨f, fd, F, m, b, _⟩ := T.ex
  ⟨f, fd, ps, m, F.kp, b, fun _ _ _ _ h => h.1, fun _ _ _ _ _ _ _ _ _ _ _ _ _ h => by obtain ⟨_, _, _, _, _, _, _, e⟩ := h; exact e.elim⟩
theorem Top.nilN (T : Top K mg x st ps) : FnQ P wd K mg base x k (SpN K ps.length fun _ _ => none) :=
  let ⟨f, fd, F, m, b, _⟩ := T.ex
  ⟨f, fd, ps, m, F.kp, b, fun _ _ _ _ h => h.1, fun _ _ _ _ _ _ _ _ _ _ _ _ _ h => by obtain ⟨_, _, _, _, _, _, _, _, e, _⟩ := h; cases e⟩
theorem TopM.nilX (T : TopM K x m q st ps) : MetX P wd K mg base x m ps.length k (fun _ _ => .bad) :=
  let ⟨C, f, fd, a, F, M, b⟩ := T.ex
  ⟨C, f, fd, ps, a, M, b, fun _ _ _ _ h => h.1, fun _ _ _ _ _ _ _ _ _ _ _ _ _ h => by obtain ⟨_, _, _, _, _, _, _, e⟩ := h; exact e.elim⟩
end
/-- an own class of errors with an __init__ that keeps ns -/
structure TopE (K : PySem.W.Frag) (mg : Str → Option Value) (x q : Str) (st : Stmt) (ps ns : List Str) : Prop where
  ex : ∃ (C f : Addr) (fd : FuncData), mg x = some (.ref C) ∧ OexC K C ∧ (∀ n ∈ ns, PySem.W.findIn K (.ref C) n = some none) ∧ PySem.W.findIn K (.ref C) "__init__" = some (some (.ref f)) ∧ PySem.W.typeIn K (.ref f) = some (.type "function") ∧ Fun K "__init__" q st f fd ∧ Binds K fd ps []
section
variable {P : Program} {wd : World} {K : PySem.W.Frag} {mg : Str → Option Value} {base : Heap} {x q n m : Str} {st : Stmt} {N ps : List Str}
theorem TopE.mk1 (T : TopE K mg x q st ps [n]) (Sc : FnScope N ps (defScope st)) (h2 : ps.length = 2)
    (body : ∀ (f : Addr) (cdv : Value) (A : Around) (outer : List Env) (s : Shared) (H : Hp) (E : XK), PSs (cxOf CX0 P wd K mg base N q (defScope st) f cdv A outer s H E).nox (defBody st) (tOst K n (tVar 0) (tVar 1))) : Xc1 P wd K mg base x [n] 1 :=
  let ⟨C, f, fd, a, O, hn, hi, ht, F, b⟩ := T.ex
  ⟨C, f, fd, ps, a, O, hn, hi, ht, b, init1 F Sc h2 fun cdv A outer s H E => body f cdv A outer s H E⟩
theorem xc0_mk {h : Heap} (X : K.In h) (G : h.Ns mainGlobals mg) {C : Addr} (a : PySem.W.nsIn K mainGlobals x = some (some (.ref C))) (e1 : PySem.W.excIn K C [.type "ValueError", .type "Exception", .type "BaseException", .type "object"] "ValueError.__new__" = true) (e2 : PySem.W.keepIn K (.ref C) = true)
    (e3 : PySem.W.subIn K (.ref C) (.type "BaseException") = some true) (e4 : PySem.W.typeIn K (.ref C) = some (.type "type")) : Xc0 K mg x := ⟨C, PySem.W.mg_of X G a, e1, e2, e3, e4⟩
theorem topE_mk {h : Heap} (X : K.In h) (G : h.Ns mainGlobals mg) {ns : List Str} {C f : Addr} {nm : Str} {qn : Str} {Nn : Addr} {bs bm : List Value} {sn : List Str} {sub : List Value} {ab : Bool} {col : Option Bool} {dd : Option Addr} {m0 m1 m2 m3 m5 : Option Value} {oc : Value} {od an : Option Addr} {osl : Array (Option Value)} {kV doc pm cdv ct : Value}
    (a : PySem.W.nsIn K mainGlobals x = some (some (.ref C))) (xL : K.lookup C = some (excClassObj nm qn C Nn bs bm true sn sub ab col dd m0 m1 m2 m3 m5 "ValueError.__new__")) (rv : PySem.HandSPX.refsVE bm = true) (sa : PySem.W.findIn K (.ref C) "__setattr__" = some (some (.builtin "object.__setattr__")))
    (e3 : PySem.W.subIn K (.ref C) (.type "BaseException") = some true) (e4 : PySem.W.typeIn K (.ref C) = some (.type "type")) (e2 : PySem.W.keepIn K (.ref C) = true) (hn : ∀ n ∈ ns, PySem.W.findIn K (.ref C) n = some none) (fi : PySem.W.findIn K (.ref C) "__init__" = some (some (.ref f))) (ft : PySem.W.typeIn K (.ref f) = some (.type "function"))
    (l : K.lookup f = some ⟨oc, od, .func (PySem.W.fnOf "__init__" q (defArgs st) (defBody st) (defScope st) .none kV doc pm an cdv ct), osl⟩) (c : PySem.W.codeIn K cdv q = true) (k : PySem.W.keepIn K (.ref f) = true)
    (b : ∀ (kV doc pm : Value) (an : Option Addr) (cdv ct : Value) (us : List Value), us.length = ps.length → bindArgs (PySem.W.fnOf "__init__" q (defArgs st) (defBody st) (defScope st) .none kV doc pm an cdv ct) ⟨us, []⟩ = pure (ps.zip us)) : TopE K mg x q st ps ns :=
  have F := fun_mk (st := st) l c k
  ⟨C, f, _, PySem.W.mg_of X G a, ⟨⟨_, _, _, _, _, _, _, _, _, _, _, _, _, _, _, xL, rv⟩, sa, e3, e4, e2⟩, hn, fi, ft, F, F.binds b⟩
theorem xcF_mk {h : Heap} (X : K.In h) (G : h.Ns mainGlobals mg) {f : Str} {C : Addr} (a : PySem.W.nsIn K mainGlobals x = some (some (.ref C))) (ga : PySem.W.findIn K (.ref C) "__getattribute__" = some (some (.builtin "BaseException.__getattribute__"))) (gg : PySem.W.findIn K (.ref C) "__getattr__" = some none)
    (e3 : PySem.W.subIn K (.ref C) (.type "BaseException") = some true) (hd : PySem.W.hasDictIn K C = true) (hf : PySem.W.findIn K (.ref C) f = some none) : XcF K mg x f := ⟨C, PySem.W.mg_of X G a, ⟨ga, gg, e3, hd⟩, hf⟩
theorem excQ_mk {C : Addr} (ga : PySem.W.findIn K (.ref C) "__getattribute__" = some (some (.builtin "BaseException.__getattribute__"))) (gg : PySem.W.findIn K (.ref C) "__getattr__" = some none) (e3 : PySem.W.subIn K (.ref C) (.type "BaseException") = some true) (hd : PySem.W.hasDictIn K C = true)
    (k1 : PySem.W.findIn K (.ref C) "__class__" = some (some (.builtin "object.__class__"))) (k2 : PySem.W.specialIn K (.builtin "object.__class__") "__get__" = some (some (.builtin "getset_descriptor.__get__"))) (k3 : PySem.W.takesIn K (.builtin "object.__class__") = some true) (k4 : PySem.W.mroIn K C (.type "object") = some true) : ExcQ K C :=
  ⟨by obtain ⟨cd, hc, _⟩ := PySem.W.any_some hd; rw [hc]; rfl, ga, gg, e3, k1, k2, k3, k4⟩
theorem xcI_mk {h : Heap} (X : K.In h) (G : h.Ns mainGlobals mg) {T : Str} {b : Bool} {C CT : Addr} (a : PySem.W.nsIn K mainGlobals x = some (some (.ref C))) (aT : PySem.W.nsIn K mainGlobals T = some (some (.ref CT))) (Q : ExcQ K C) (k : PySem.W.kitOne K (.ref C) (.ref CT) = some b) : XcI K mg x T b := ⟨C, CT, PySem.W.mg_of X G a, PySem.W.mg_of X G aT, Q, k⟩
theorem xcP_mk {h : Heap} (X : K.In h) (G : h.Ns mainGlobals mg) {T : Str} {b : Bool} {C CT : Addr} (a : PySem.W.nsIn K mainGlobals x = some (some (.ref C))) (aT : PySem.W.nsIn K mainGlobals T = some (some (.ref CT))) (e3 : PySem.W.subIn K (.ref CT) (.type "BaseException") = some true) (hd : PySem.W.hasDictIn K CT = true)
    (e4 : PySem.W.typeIn K (.ref CT) = some (.type "type")) (s : PySem.W.subIn K (.ref C) (.ref CT) = some b) : XcP K mg x T b := ⟨C, CT, PySem.W.mg_of X G a, PySem.W.mg_of X G aT, PySem.W.exm_ref e3 hd e4 s⟩
end
/-! ### equations -/
section
variable {α : Type} {n i j : Nat} {F : Xf} {ds : List D} {s : S} {e : Ex} {d : D} {vh : List Cell} {x : Str} {fo : M D} {fs : M (List D)}
def rzR (r : Rz) (s : S) : Res D := rzM r s
theorem x_callX : callX n F ds s = if ds.length = n then rzR (F ds s.vh) s else .bad := nr rfl
theorem x_rzO : rzR (.ok d vh) s = .ok d ⟨s.loc, vh⟩ := nr rfl
theorem x_rzE : rzR (.exc e vh) s = .exc e ⟨s.loc, vh⟩ := nr rfl
theorem x_raise {ns : List Str} : raiseM x ns ds s = if ds.length = ns.length then .exc ⟨x, (ns.zip ds).reverse⟩ s else .bad := nr rfl
def tryR (tab : List (Str × Bool)) (su : Ex → M Out) : Res Out → Res Out
  | .exc e s' => match tab.lookup e.cls with
    | some true => su e s'
    | some false => .exc e s'
    | none => .bad
  | r => r
theorem x_try {f : M Out} {tab : List (Str × Bool)} {su : Ex → M Out} : tryM f tab su s = tryR tab su (f s) := by
  unfold tryM tryR
  cases f s <;> rfl
theorem x_tryO {tab : List (Str × Bool)} {su : Ex → M Out} {o : Out} : tryR tab su (.ok o s) = .ok o s := nr rfl
theorem x_tryE {tab : List (Str × Bool)} {su : Ex → M Out} (h : tab.lookup e.cls = some true) : tryR tab su (.exc e s) = su e s := by unfold tryR; dsimp only; rw [h]
end
theorem runXS_ok {n : Nat} {g : M Out} {ds : List D} {vh vh2 : List Cell} {d : D} (h : ∃ l, g (initS n ds vh) = .ok (.rt d) ⟨l, vh2⟩) : runXS n g ds vh = .ok d vh2 := by
  obtain ⟨l, h⟩ := h
  unfold runXS
  rw [h]
theorem runXS_nx {n : Nat} {g : M Out} {ds : List D} {vh vh2 : List Cell} (h : ∃ l, g (initS n ds vh) = .ok .nx ⟨l, vh2⟩) : runXS n g ds vh = .ok .non vh2 := by
  obtain ⟨l, h⟩ := h
  unfold runXS
  rw [h]
theorem runXS_ex {n : Nat} {g : M Out} {ds : List D} {vh vh2 : List Cell} {e : Ex} (h : ∃ l, g (initS n ds vh) = .exc e ⟨l, vh2⟩) : runXS n g ds vh = .exc e vh2 := by
  obtain ⟨l, h⟩ := h
  unfold runXS
  rw [h]
theorem runXP_ex {n : Nat} {g : M Out} {ds : List D} {vh more : List Cell} {e : Ex} (h : ∃ l, g (initS n ds vh) = .exc e ⟨l, vh ++ more⟩) (hn : (e.fs.all fun kv => nc vh.length kv.2) = true) : runXP n g ds vh = .exc e vh := by
  obtain ⟨l, h⟩ := h
  unfold runXP
  rw [h]
  dsimp only
  rw [if_pos ⟨by rw [List.take_left'] ; rfl, hn⟩]
end Fx

/-! Fx: list * int -/
namespace Fx
open PySem PySem.Spec PyProof.Rows L2
variable {X : Cx} {W : WX}
/-! ### sorted(d), a dict with ints as keys, any number of them -/
end Fx

/-! Fx: data that differ are unequal -/
namespace Fx
open PySem PySem.Spec PyProof.Rows L2
mutual
/-- data without truths -/
def nbD : D → Bool
  | .non => true
  | .bl _ => false
  | .int _ => true
  | .str _ => true
  | .tup xs => nbL xs
  | .lst xs => nbL xs
  | .cell _ => false
  | .ref _ => false
  | .pr _ _ => false
  | .emp => false
  | .err _ _ _ => false
def nbL : List D → Bool
  | [] => true
  | x :: r => nbD x && nbL r
end
mutual
theorem dq_ne : ∀ (d e : D) (p q : PyData), nbD d = true → nbD e = true → pyT d = some p → pyT e = some q → d ≠ e → PyData.eqv p q = false
  | .non, .non, _, _, _, _, _, _, n => absurd rfl n
  | .non, .int _, _, _, _, _, h1, h2, _ => by cases h1; cases h2; rfl
  | .non, .str _, _, _, _, _, h1, h2, _ => by cases h1; cases h2; rfl
  | .non, .tup xs, p, q, _, _, h1, h2, _ => by
    cases h1
    unfold pyT at h2
    cases e : pyL xs with
    | none => rw [e] at h2; cases h2
    | some y => rw [e] at h2; cases h2; rfl
  | .non, .lst xs, p, q, _, _, h1, h2, _ => by
    cases h1
    unfold pyT at h2
    cases e : pyL xs with
    | none => rw [e] at h2; cases h2
    | some y => rw [e] at h2; cases h2; rfl
  | .int _, .non, _, _, _, _, h1, h2, _ => by cases h1; cases h2; rfl
  | .int i, .int j, _, _, _, _, h1, h2, n => by
    cases h1; cases h2
    have : i ≠ j := fun e => n (by rw [e])
    simp [PyData.eqv, this]
  | .int _, .str _, _, _, _, _, h1, h2, _ => by cases h1; cases h2; rfl
  | .int _, .tup xs, p, q, _, _, h1, h2, _ => by
    cases h1
    unfold pyT at h2
    cases e : pyL xs with
    | none => rw [e] at h2; cases h2
    | some y => rw [e] at h2; cases h2; rfl
  | .int _, .lst xs, p, q, _, _, h1, h2, _ => by
    cases h1
    unfold pyT at h2
    cases e : pyL xs with
    | none => rw [e] at h2; cases h2
    | some y => rw [e] at h2; cases h2; rfl
  | .str _, .non, _, _, _, _, h1, h2, _ => by cases h1; cases h2; rfl
  | .str _, .int _, _, _, _, _, h1, h2, _ => by cases h1; cases h2; rfl
  | .str x, .str y, _, _, _, _, h1, h2, n => by
    cases h1; cases h2
    have : x ≠ y := fun e => n (by rw [e])
    simp [PyData.eqv, this]
  | .str _, .tup xs, p, q, _, _, h1, h2, _ => by
    cases h1
    unfold pyT at h2
    cases e : pyL xs with
    | none => rw [e] at h2; cases h2
    | some y => rw [e] at h2; cases h2; rfl
  | .str _, .lst xs, p, q, _, _, h1, h2, _ => by
    cases h1
    unfold pyT at h2
    cases e : pyL xs with
    | none => rw [e] at h2; cases h2
    | some y => rw [e] at h2; cases h2; rfl
  | .tup xs, e, p, q, a, b, h1, h2, n => by
    unfold pyT at h1
    cases hx : pyL xs with
    | none => rw [hx] at h1; cases h1
    | some y =>
      rw [hx] at h1
      cases h1
      cases e with
      | non => cases h2; rfl
      | int _ => cases h2; rfl
      | str _ => cases h2; rfl
      | bl _ => cases b
      | cell _ => cases b
      | ref _ => cases b
      | pr _ _ => cases b
      | emp => cases b
      | err _ _ _ => cases b
      | lst zs =>
        unfold pyT at h2
        cases hz : pyL zs with
        | none => rw [hz] at h2; cases h2
        | some w => rw [hz] at h2; cases h2; rfl
      | tup zs =>
        unfold pyT at h2
        cases hz : pyL zs with
        | none => rw [hz] at h2; cases h2
        | some w =>
          rw [hz] at h2
          cases h2
          exact dq_neL xs zs y w a b hx hz fun e => n (by rw [e])
  | .lst xs, e, p, q, a, b, h1, h2, n => by
    unfold pyT at h1
    cases hx : pyL xs with
    | none => rw [hx] at h1; cases h1
    | some y =>
      rw [hx] at h1
      cases h1
      cases e with
      | non => cases h2; rfl
      | int _ => cases h2; rfl
      | str _ => cases h2; rfl
      | bl _ => cases b
      | cell _ => cases b
      | ref _ => cases b
      | pr _ _ => cases b
      | emp => cases b
      | err _ _ _ => cases b
      | tup zs =>
        unfold pyT at h2
        cases hz : pyL zs with
        | none => rw [hz] at h2; cases h2
        | some w => rw [hz] at h2; cases h2; rfl
      | lst zs =>
        unfold pyT at h2
        cases hz : pyL zs with
        | none => rw [hz] at h2; cases h2
        | some w =>
          rw [hz] at h2
          cases h2
          exact dq_neL xs zs y w a b hx hz fun e => n (by rw [e])
  | .bl _, _, _, _, a, _, _, _, _ => by cases a
  | .cell _, _, _, _, a, _, _, _, _ => by cases a
  | .ref _, _, _, _, a, _, _, _, _ => by cases a
  | .pr _ _, _, _, _, a, _, _, _, _ => by cases a
  | .emp, _, _, _, a, _, _, _, _ => by cases a
  | .err _ _ _, _, _, _, a, _, _, _, _ => by cases a
  | .non, .bl _, _, _, _, b, _, _, _ => by cases b
  | .non, .cell _, _, _, _, b, _, _, _ => by cases b
  | .non, .ref _, _, _, _, b, _, _, _ => by cases b
  | .non, .pr _ _, _, _, _, b, _, _, _ => by cases b
  | .non, .emp, _, _, _, b, _, _, _ => by cases b
  | .non, .err _ _ _, _, _, _, b, _, _, _ => by cases b
  | .int _, .bl _, _, _, _, b, _, _, _ => by cases b
  | .int _, .cell _, _, _, _, b, _, _, _ => by cases b
  | .int _, .ref _, _, _, _, b, _, _, _ => by cases b
  | .int _, .pr _ _, _, _, _, b, _, _, _ => by cases b
  | .int _, .emp, _, _, _, b, _, _, _ => by cases b
  | .int _, .err _ _ _, _, _, _, b, _, _, _ => by cases b
  | .str _, .bl _, _, _, _, b, _, _, _ => by cases b
  | .str _, .cell _, _, _, _, b, _, _, _ => by cases b
  | .str _, .ref _, _, _, _, b, _, _, _ => by cases b
  | .str _, .pr _ _, _, _, _, b, _, _, _ => by cases b
  | .str _, .emp, _, _, _, b, _, _, _ => by cases b
  | .str _, .err _ _ _, _, _, _, b, _, _, _ => by cases b
theorem dq_neL : ∀ (xs ys : List D) (ps qs : List PyData), nbL xs = true → nbL ys = true → pyL xs = some ps → pyL ys = some qs → xs ≠ ys → PyData.eqvAll ps qs = false
  | [], [], _, _, _, _, _, _, n => absurd rfl n
  | [], y :: ys, ps, qs, _, _, h1, h2, _ => by
    cases h1
    unfold pyL at h2
    split at h2
    · cases h2; rfl
    · cases h2
  | x :: xs, [], ps, qs, _, _, h1, h2, _ => by
    cases h2
    unfold pyL at h1
    split at h1
    · cases h1; rfl
    · cases h1
  | x :: xs, y :: ys, ps, qs, a, b, h1, h2, n => by
    have a : (nbD x && nbL xs) = true := a
    have b : (nbD y && nbL ys) = true := b
    rw [Bool.and_eq_true] at a b
    unfold pyL at h1 h2
    split at h1
    · next p1 ps1 e1 e2 =>
      cases h1
      split at h2
      · next q1 qs1 e3 e4 =>
        cases h2
        show (PyData.eqv p1 q1 && PyData.eqvAll ps1 qs1) = false
        rcases Classical.em (x = y) with z | z
        · have : xs ≠ ys := fun e => n (by rw [z, e])
          rw [dq_neL xs ys ps1 qs1 a.2 b.2 e2 e4 this, Bool.and_false]
        · rw [dq_ne x y p1 q1 a.1 b.1 e1 e3 z, Bool.false_and]
      · cases h2
    · cases h1
end
/-! a, b, c, d = t -/
section
variable {X : Cx}
end
end Fx

/-! lists of instances: the same ones at every place make equal lists -/
namespace L2
open PySem PySem.Spec
section
variable {X : Cx}
end
end L2
namespace Fx
open PySem PySem.Spec L2
section
variable {X : Cx} {K : PySem.W.Frag} {w : Wd} {H : Hp} {σ : L2.St} {s : S}
end
end Fx

/-! Fx: zip of a tuple and a list -/
namespace Fx
open PySem PySem.Spec PyProof.Rows L2
variable {X : Cx} {W : WX}
/-- the cells of such a zip at turn i -/
structure ZipMAt (z TI TO i1 i2 a b : Addr) (i : Nat) (h : Heap) : Prop where
  zp : IsZip h z TI TO .none
  ti : IsTupOf2 h TI (.ref i1) (.ref i2)
  to : ∃ x y, IsTupOf2 h TO x y
  t1 : h.IsTupleIter i1 a i
  t2 : h.IsListIter i2 b i
theorem five {c z TI TO i1 i2 : Addr} (h : c ∈ [z, TI, TO, i1, i2]) : c = z ∨ c = TI ∨ c = TO ∨ c = i1 ∨ c = i2 := by simpa using h
end Fx

/-! Fx: sorted(a tuple of texts) -/
namespace Fx
open PySem PySem.Spec PyProof.Rows L2
variable {X : Cx} {W : WX}
/-! ### a > b, texts -/
end Fx

/-! Fx: sorted(a dict of ints, reverse=True) -/
namespace Fx
open PySem PySem.Spec PyProof.Rows L2
variable {X : Cx} {W : WX}
end Fx

/-! Fx: sorted(d.items()), d a dict of texts -/
namespace Fx
open PySem PySem.Spec PyProof.Rows L2
variable {X : Cx} {W : WX}
/-- an item of a dict as a tuple of its own -/
structure It where
  k : Str
  a : Addr
  o : Obj
  v : V
/-! many tuples and a list, laid at once -/
def putF : Hp → List It → Hp
  | H, i :: is => putF (upd H i.a (.frz i.o (.tup [.str i.k, i.v]))) is
  | H, [] => H
/-! ### the rule -/
/-! ### as a reading -/
/-! a, b, c = a list -/
/-! what sorted(d.items()) is -/
end Fx

/-! Fx: a dict that stands in a list, locked while it is walked; a place of a list or of a dict is set -/
namespace Fx
open PySem PySem.Spec PyProof.Rows L2
variable {X : Cx} {W : WX}
/-- the cell at place k of the list in slot i -/
def plC (i k : Nat) (s : S) : Option Nat := match s.loc[i]? with
  | some (some (.cell m)) => match s.vh[m]? with
    | some (.lst ds) => match ds[k]? with
      | some (.cell n) => some n
      | _ => none
    | _ => none
  | some (some (.tup ds)) => match ds[k]? with
    | some (.cell n) => some n
    | _ => none
  | some (some (.lst ds)) => match ds[k]? with
    | some (.cell n) => some n
    | _ => none
  | _ => none
theorem RepL.atD {K : PySem.W.Frag} {w : Wd} {vs : List V} {ds : List D} (h : RepL K w vs ds) : ∀ {k : Nat} {d : D}, ds[k]? = some d → ∃ v, Rep K w v d := by
  induction ds generalizing vs with
  | nil => intro k d e; simp at e
  | cons x ds ih =>
    cases h with
    | cons r t =>
      intro k d e
      cases k with
      | zero => cases e; exact ⟨_, r⟩
      | succ k => exact ih t e
theorem RS.plC {K : PySem.W.Frag} {w : Wd} {H : Hp} {σ : L2.St} {s : S} (R : RS K w H σ s) {i k n : Nat} (h : plC i k s = some n) : ∃ a, w.ρ[n]? = some a := by
  unfold Fx.plC at h
  split at h
  · next m hm =>
    split at h
    · next ds hd =>
      split at h
      · next q hq =>
        cases h
        obtain ⟨b, hb⟩ := R.cellV hm
        obtain ⟨vs, _, rl⟩ := R.cells m b _ hb hd
        obtain ⟨v, r⟩ := rl.atD hq
        cases r with
        | cell h => exact ⟨_, h⟩
      · cases h
    · cases h
  · next ds hd =>
    split at h
    · next q hq =>
      cases h
      obtain ⟨v, _, r⟩ := R.loc i _ hd
      cases r with
      | tup _ rl =>
        obtain ⟨v, r⟩ := rl.atD hq
        cases r with
        | cell h => exact ⟨_, h⟩
    · cases h
  · next ds hd =>
    split at h
    · next q hq =>
      cases h
      obtain ⟨v, _, r⟩ := R.loc i _ hd
      cases r with
      | lst _ rl =>
        obtain ⟨v, r⟩ := rl.atD hq
        cases r with
        | cell h => exact ⟨_, h⟩
    · cases h
  · cases h
end Fx

/-! Fx: d.setdefault(k, x) -/
namespace L2
open PySem PySem.Spec PyProof.Rows
section
variable {X : Cx} {o e f : Expr} {td ty tx : TE} {apos cpos : Pos}
end
end L2
namespace Fx
open PySem PySem.Spec PyProof.Rows L2
variable {X : Cx} {W : WX}
section
variable {o e f : Expr} {fo fe ff : M D} {apos cpos : Pos}
end
/-! ### equations -/
end Fx

/-! Fx: xs.remove(text) -/
namespace L2
open PySem PySem.Spec PyProof.Rows
section
variable {X : Cx}
end
end L2
namespace Fx
open PySem PySem.Spec PyProof.Rows L2
variable {X : Cx} {W : WX}
end Fx

/-! Fx: {} that stands by itself and is never written; lists of unlike length -/
namespace L2
open PySem PySem.Spec PyProof.Rows
section
variable {X : Cx}
end
end L2
namespace Fx
open PySem PySem.Spec L2
variable {X : Cx} {W : WX}
/-- {} that no one writes to -/
def frzE (m : M Cell) : M D := bnd m fun c => match c with
  | .dct [] => ret .emp
  | _ => fail
theorem frzE_fol {t : TE} {f : M Cell} (r : Fol X.K W (pN X.K) t f) : Fol X.K W (pD X.K) t (frzE f) := fun w H σ s Q R z => by
  refine r w H σ s Q R ?_
  unfold frzE bnd at z
  cases hf : f s with
  | bad => rw [hf] at z; exact z.elim
  | exc x s1 => rw [hf] at z; exact z
  | ok c s1 =>
    rw [hf] at z
    rintro w1 H1 _ l1 R1 ⟨q, rfl, N⟩
    cases c with
    | lst _ => exact z.elim
    | obj _ _ => exact z.elim
    | dctL _ _ _ => exact z.elim
    | dctN _ _ => exact z.elim
    | dct kvs =>
      cases kvs with
      | cons _ _ => exact z.elim
      | nil =>
        obtain ⟨vs, h1, h2⟩ := N.c
        cases h2
        exact z _ _ _ (l1.frz N.n N.f) (R1.frz h1 N.f N.r) (.emp upd_same)
theorem de_frzE {a : Expr} {f : M Cell} (h : DN X W a f) : DE X W a (frzE f) := let ⟨t, p, r⟩ := h; ⟨t, p, frzE_fol r⟩
theorem x_frzE {s : S} : frzE (ret (.dct [])) s = .ok .emp s := nr rfl
end Fx

/-! Fx: a new dict that is walked at once; a dict != {} -/
namespace L2
open PySem PySem.Spec PyProof.Rows
section
variable {X : Cx}
end
end L2
namespace Fx
open PySem PySem.Spec L2
variable {X : Cx} {W : WX}
/-! ### for k in d, d new and known to no one else -/
/-! ### d != {} -/
end Fx

/-! Fx: all(list of truths), any(list of truths); list.pop(i), i from nought on -/
namespace Fx
open PySem PySem.Spec PyProof.Rows L2
variable {X : Cx} {W : WX}
/-! list.pop(i) -/
end Fx

/-! Fx: two except clauses, the first with a name -/
namespace L2
open PySem PySem.Spec PyProof.Rows
section
variable {X : Cx} {x n x2 : Str} {c c2 : Value} {i : Nat} {body suite suite2 : List Stmt} {b₀ b₁ : Stmt} {np pos pos' np2 pos2 : Pos} {tb : WX → TS} {ts ts2 : Addr → Value → Option Addr → TS} {Wout : WX}
end
end L2
namespace Fx
open PySem PySem.Spec PyProof.Rows L2
section
variable {X : Cx} {W : WX} {Wout : L2.WX} {body : List Stmt} {f : M Out} {T n y T2 : Str} {tab tab2 : List (Str × Bool)} {i j : Nat} {ex : Expr} {v : Ex → S → Option D} {np p' p2 pos pos' np2 pos2 : Pos} {b₁ : Stmt} {suite2 : List Stmt} {su2 : M Out}
end
/-! ### equations -/
section
variable {s : S} {e : Ex} {o : Out} {tab tab2 : List (Str × Bool)} {su : Ex → M Out} {su2 f : M Out}
end
end Fx

/-! Fx: an error that is kept behind its try -/
namespace L2K
open PySem PySem.Spec PyProof.Rows L2
section
variable {pins : List (Addr × Obj)} {X : Cx} {σ : L2.St} {H : Hp} {s : Shared}
/-- an object that stands in the heap, and that nobody tracks, is tracked from here on -/
theorem track {ad : Addr} {eo : Obj} {fs : Array Value} {φ : Heap → Prop} (J : Inv X pins σ H s) (hget : s.heap.get? ad = some eo) (hdat : eo.data = .fields fs) (hno : H ad = none) (hL : ad ≠ X.env.locals) (hnew : X.s_0.heap.get? ad = none)
    (hpin : ∀ q ∈ X.pn ++ pins, q.1 ≠ ad) (ok : ObjOk X.prog X.w (upd H ad (.ext φ)) s.heap ad (.ext φ)) : Inv X pins σ (upd H ad (.ext φ)) s := by
  have away : ∀ {b : Addr} {u : HO}, H b = some u → upd H ad (.ext φ) b = some u := fun {b u} q => (upd_ne (ne_of_none q hno)).trans q
  have un : Un X.fs X.ex X.H_0 (upd H ad (.ext φ)) X.s_0.heap s.heap := by
    have B := J.base
    constructor
    · exact B.keep
    · exact B.slot
    · intro b u q n z
      have hb : b ≠ ad := fun t => by
        subst t
        rw [hnew] at q
        cases q
      exact (upd_ne hb).trans (B.free b u q n z)
    · exact B.there
    · exact fun b xs q => away (B.tups b xs q)
    · exact fun b o u q => away (B.frzs b o u q)
    · intro b ps q
      obtain ⟨m, z⟩ := B.tbls b ps q
      exact ⟨m, away z⟩
  refine ⟨J.ok, J.os, J.bare, un, J.loc, J.cell, (upd_ne hL.symm).trans J.free, fun x c q => ?_, fun q hq => ?_, J.hok.laidN (fun _ _ z => z) hno ok, J.len⟩
  · have hb : c ≠ ad := fun t => by
      obtain ⟨v, ob, h1, h2⟩ := J.cell x c q
      rw [t, hget] at h1
      cases h1
      rw [hdat] at h2
      cases h2
    exact (upd_ne hb).trans (J.freeC x c q)
  · obtain ⟨z1, z2, z3, z4, z5⟩ := J.pin q hq
    exact ⟨z1, (upd_ne (hpin q hq)).trans z2, z3, z4, z5⟩
end
/-- what is wished of an error in the air, where the clause keeps it in the slot j -/
def wKeep (K : PySem.W.Frag) (c : Value) (i j : Nat) (Wout : L2.WX) (D : Ends) : L2.WX := fun cls d σ H =>
  ∃ b, PySem.W.exmOne K cls c = some b ∧ (b = true → ∀ ad, H ad = none → D.nx (((σ.set i (some (.ref ad))).set j (some (.ref ad))).set i none) (upd H ad (Fx.ExK cls d ad))) ∧ (b = false → Wout cls d σ H)
/-- the clause's suite: the error goes into the slot j -/
def tKeep (i j : Nat) : TS := fun D σ H => ∃ v, σ[i]? = some (some v) ∧ D.nx (σ.set j (some v)) H
section
variable {X : Cx} {x n : Str} {c : Value} {i j : Nat} {body su : List Stmt} {su0 : Stmt} {np pos hpos : Pos} {tb : L2.WX → TS} {Wout : L2.WX}
theorem ps_try_keep (hst : X.stack = X.env :: X.outer) (hfm : X.env.frame = some X.env.locals) (hex : X.ex = []) (hnd : X.N.Nodup) (hat : X.N[i]? = some n) (hloc : X.env.kindOf n = some .local) (hnm : Names X x c) (tk : L2.Takes X Wout)
    (hbody : ∀ (W : L2.WX) (pn : List (Addr × Obj)) (xe : Value → Shared → Prop), L2.Takes (X.tr pn xe) W → PassesOwn (model X.prog X.w) X.A X.env xe → PSs (X.tr pn xe) body (tb W))
    (hsuite : ∀ (ad : Addr) (eo : Obj) (pn : List (Addr × Obj)), PSs (X.suite ad ((ad, eo) :: pn)) (su0 :: su) (tKeep i j)) :
    PS X (.Try body [.ExceptHandler (some (.Name x np)) (some n) (su0 :: su) hpos] [] [] pos) fun D σ H => tb (wKeep X.K c i j Wout D) D σ H := by
  constructor
  intro pins st τ H0 D I0 hpre
  have hall := I0.ok
  have frames : X.A.frames = some (X.env :: X.outer) := hall.frames.trans (congrArg some hst)
  have stepOut : L2.Takes (X.tr (X.pn ++ pins) fun e s₁ => wpAny (model X.prog X.w) X.A (noteFrame e X.env) (fun _ s₂ => wpAny (model X.prog X.w) X.A (setFlight e none) (fun _ s₃ =>
      wpAny (model X.prog X.w) X.A (handleBy e X.env [.ExceptHandler (some (.Name x np)) (some n) (su0 :: su) hpos]) (SP X pins D) X.xe s₃) X.xe s₂) X.xe s₁) (wKeep X.K c i j Wout D) := by
    intro u air hair
    obtain ⟨ad, Gr, cut, pins1, τ1, H1, cls, d, hu, J0, ground, slots, sky, adNo, osEq, bare, b, hexm, caught, missed⟩ := hair
    subst hu
    have J1 : Inv X pins τ1 H1 cut := J0.ofTry hall
    have sky1 : Sky Gr (X.env :: X.outer) ad (Zc cls d) X.env.locals air.heap := by
      rw [← hst]
      exact sky
    show wpAny (model X.prog X.w) X.A (noteFrame (.ref ad) X.env) _ _ _
    refine Sky.land Zc.steady frames hfm sky1 fun heapA flyA upA => ?_
    have JA : Inv X pins τ1 H1 { air with heap := heapA } := J1.landed ground flyA.1 (slots.trans upA) osEq bare
    obtain ⟨eoA, fsA, getA, zA, datA⟩ := flyA.there
    -- the error is none of the frames
    have offFrames : ad ∉ frs (X.env :: X.outer) := by
      intro hm
      obtain ⟨_, ob, q, hnf⟩ := flyA.2.2.1.mem hm
      rw [getA] at q
      cases q
      exact hnf _ datA
    have offLocals : ad ≠ X.env.locals := fun z => offFrames (List.mem_filterMap.mpr ⟨X.env, List.mem_cons_self, hfm.trans (congrArg some z.symm)⟩)
    have offFs : ad ∉ X.fs := by
      intro hm
      obtain ⟨en, hen, q⟩ := List.mem_filterMap.mp hm
      exact offFrames (List.mem_filterMap.mpr ⟨en, List.mem_cons_of_mem _ hen, q⟩)
    -- it was not there before
    have notCut : cut.heap.get? ad = none := by
      cases q : cut.heap.get? ad with
      | none => rfl
      | some ob =>
        have z := ground ad ob q (by rw [hst]; exact offFrames)
        rw [flyA.2.1] at z
        cases z
    have notOld : X.s_0.heap.get? ad = none := by
      cases q : X.s_0.heap.get? ad with
      | none => rfl
      | some ob =>
        obtain ⟨ob2, z⟩ := J1.base.there ad ob q (by rw [hex]; exact List.not_mem_nil)
        rw [notCut] at z
        cases z
    have notPin : ∀ q ∈ X.pn ++ pins, q.1 ≠ ad := fun q hq z => by
      have := (J1.pin q hq).1
      rw [z, notCut] at this
      cases this
    have SA := JA.suite getA datA adNo offLocals offFs
    refine wpAny_handleBy_cons (codeAny_handlers_test ?_) (fun z => nomatch z)
    have looks : PySem.W.Looks (model X.prog X.w) heapA (typeOf (.ref ad)) cls := fun _ _ _ _ kk q => wpAny_typeOf_ref (kk _ _ getA) (by rw [zA.1]; exact q)
    have named : ∀ {Q E : Value → Shared → Prop}, Q c { air with heap := heapA } → wpAny (model X.prog X.w) (X.A.mark (some (.ref ad))) (eval (.Name x np) X.env) Q E { air with heap := heapA } := by
      intro Q E q
      rcases hnm with ⟨g1, g2, g3 | ⟨g3, g4, g5⟩⟩
      · exact ld_glob (X := X.suite ad ((ad, eoA) :: (X.pn ++ pins))) SA g1 g3 q g2
      · exact ld_blt (X := X.suite ad ((ad, eoA) :: (X.pn ++ pins))) SA g1 g3 g4 q g5 g2
    refine named ((PySem.W.exm_one (M := model X.prog X.w) JA.kIn looks hexm).here ?_)
    cases b with
    | false =>
      show wpAny _ X.A (handleBy (.ref ad) X.env []) _ _ _
      refine wpAny_handleBy_nil ?_
      obtain ⟨_, _, _, eo, fs, tr, _, _, q1, _, q2, q3, _⟩ := id flyA
      unfold PySem.passOn
      refine wpAny_bind (wpAny_field q1 q2 q3 ?_)
      rw [if_neg (show ¬ ((Value.ref tr == Value.none) = true) by simp)]
      have go : wpAny (model X.prog X.w) X.A (setFlight (.ref ad) X.env.frame) (fun _ s4 => wpAny (model X.prog X.w) X.A (throw (.ref ad) : Sem Flow) (SP X pins D) X.xe s4) X.xe { air with heap := heapA } := by
        rw [hfm]
        refine HandSPX.setFlight_upZ flyA fun heapB heldB upB => wpAny_throw (tk _ _ ?_)
        exact ⟨ad, Gr, cut, pins, τ1, H1, cls, d, rfl, J1, ground, (slots.trans upA).trans upB, .inr (.inr (hst ▸ heldB)), adNo, osEq, bare, missed rfl⟩
      first
        | exact wpAny_bind go
        | exact wpAny_bind (wpAny_pure (wpAny_bind go))
    | true =>
      refine codeAny_handlers_suite_as (HandSPX.lands_againZ flyA fun heapB flyB upB => ?_)
      obtain ⟨eoB, fsB, getB, zB, datB⟩ := flyB.there
      have SB := (J1.landed ground flyB.1 ((slots.trans upA).trans upB) osEq bare : Inv X pins τ1 H1 { air with heap := heapB }).suite getB datB adNo offLocals offFs
      refine store_ok (X := X.suite ad ((ad, eoB) :: (X.pn ++ pins))) (v := .ref ad) SB hnd hat (.inl hloc) rfl (fun sC SC => ?_) (.inr hloc)
      let DD : Ends := { nx := fun σ6 H6 => σ6 = (τ1.set i (some (.ref ad))).set j (some (.ref ad)) ∧ H6 = H1, rt := fun _ _ => False, bk := fun _ _ => False, ct := fun _ _ => False }
      have hil : i < τ1.length := by
        rw [J1.len]
        exact (List.getElem?_eq_some_iff.mp hat).1
      refine wpAny_mono ((hsuite ad eoB (X.pn ++ pins)).run [] sC _ H1 DD SC ⟨.ref ad, List.getElem?_set_self hil, rfl, rfl⟩) (fun fl s6 post => ?_) (fun _ _ z => z.elim)
      cases fl with
      | next =>
        obtain ⟨σ6, H6, S6, e1, e2⟩ := post
        subst e1 e2
        obtain ⟨p1, p2, p3, p4, p5⟩ := S6.pin (ad, eoB) (List.mem_append_left _ List.mem_cons_self)
        have JK : Inv X pins ((τ1.set i (some (.ref ad))).set j (some (.ref ad))) (upd H6 ad (Fx.ExK cls d ad)) s6 := track (S6.unsuite hall) p1 datB adNo offLocals notOld notPin
          ⟨⟨eoB, fsB, p1, zB.1, zB.2, datB⟩, ⟨eoB, p1⟩, fun _ _ ⟨o, v, q, r⟩ kk => ⟨o, v, kk o q, r⟩⟩
        exact gone_ok JK hnd hat hloc fun s7 J7 => ⟨_, _, J7, caught rfl ad adNo⟩
      | brk =>
        obtain ⟨_, _, _, z⟩ := post
        exact z.elim
      | cont =>
        obtain ⟨_, _, _, z⟩ := post
        exact z.elim
      | ret u =>
        obtain ⟨_, _, _, _, _, z⟩ := post
        exact z.elim
  refine wpAny_Try_except (wpAny_mono ((hbody _ (X.pn ++ pins) _ stepOut PassesOwn.looking).run [] st τ H0 D (I0.toTry _) hpre) (fun fl sE post => ?_) fun _ _ z => z)
  cases fl with
  | next =>
    obtain ⟨τ2, H2, J2, q⟩ := post
    exact wpAny_execs_nil ⟨τ2, H2, J2.ofTry hall, q⟩
  | brk =>
    obtain ⟨τ2, H2, J2, q⟩ := post
    exact ⟨τ2, H2, J2.ofTry hall, q⟩
  | cont =>
    obtain ⟨τ2, H2, J2, q⟩ := post
    exact ⟨τ2, H2, J2.ofTry hall, q⟩
  | ret u =>
    obtain ⟨vv, τ2, H2, J2, r, q⟩ := post
    exact ⟨vv, τ2, H2, J2.ofTry hall, r, q⟩
end
end L2K
namespace Fx
open PySem PySem.Spec PyProof.Rows L2
/-! ### the readings of a kept error -/
section
variable {K : PySem.W.Frag}
theorem RepF.split {w : Wd} : ∀ {vs : List (Str × V)} {fs : List (Str × D)}, RepF K w vs fs → (fs.map (·.1)).zip (vs.map (·.2)) = vs ∧ RepL K w (vs.map (·.2)) (fs.map (·.2)) ∧ (fs.map (·.1)).length = (vs.map (·.2)).length
  | _, _, .nil => ⟨rfl, .nil, rfl⟩
  | _, _, .cons (k := k) (v := v) h t => by
    obtain ⟨a, b, c⟩ := t.split
    refine ⟨?_, .cons h b, congrArg (· + 1) c⟩
    rw [List.map_cons, List.map_cons, List.zip_cons_cons, a]
theorem RepL.zipL {w : Wd} {f : Str} {d : D} : ∀ {ks : List Str} {vs : List V} {ds : List D}, RepL K w vs ds → (ks.zip ds).lookup f = some d → ∃ v, (ks.zip vs).lookup f = some v ∧ Rep K w v d
  | [], _, _, _, e => by cases e
  | _ :: _, _, _, .nil, e => by cases e
  | k :: ks, _, _, .cons (v := v) (d := d') (vs := vs) (ds := ds) h t, e => by
    have e : ((k, d') :: ks.zip ds).lookup f = some d := e
    show ∃ u, ((k, v) :: ks.zip vs).lookup f = some u ∧ _
    rw [List.lookup_cons] at e ⊢
    by_cases q : f = k
    · subst q
      rw [beq_self_eq_true] at e ⊢
      cases e
      exact ⟨v, rfl, h⟩
    · rw [beq_eq_false_iff_ne.mpr q] at e ⊢
      exact RepL.zipL t e
end
/-- a class of errors, as the top names it -/
structure XcK (K : PySem.W.Frag) (mg : Str → Option Value) (x : Str) : Prop where
  ex : ∃ C, mg x = some (.ref C) ∧ PySem.W.nsIn K mainGlobals x = some (some (.ref C))
theorem xcK_mk {K : PySem.W.Frag} {mg : Str → Option Value} {h : Heap} (X : K.In h) (G : h.Ns mainGlobals mg) {x : Str} {C : Addr} (a : PySem.W.nsIn K mainGlobals x = some (some (.ref C))) : XcK K mg x := ⟨C, PySem.W.mg_of X G a, a⟩
section
variable {X : Cx} {pins : List (Addr × Obj)} {σ : L2.St} {H : Hp} {s : Shared} {W : WX}
theorem instAt_of {a C : Addr} {d : Option Addr} (I : Inv X pins σ H s) (ha : H a = some (ExK (.ref C) d a)) (hd : d = none ∨ ∃ dd vs, d = some dd ∧ H dd = some (.xd vs)) : ∃ oe od, PySem.W.InstAt s.heap a oe C od := by
  obtain ⟨⟨oe, us, h1, h2, h3, h4⟩, _, _⟩ := (I.hok a _ ha : ObjOk X.prog X.w H s.heap a (ExK (.ref C) d a))
  refine ⟨oe, ?_⟩
  rcases hd with rfl | ⟨dd, vs, rfl, ea⟩
  · obtain ⟨oc, od, oda, osl⟩ := oe
    dsimp only at h2 h3 h4
    subst h2 h3 h4
    exact ⟨none, h1, rfl, rfl, trivial⟩
  · obtain ⟨mA, hns, _⟩ := (I.hok dd _ ea : ObjOk X.prog X.w H s.heap dd (.xd vs))
    obtain ⟨od, ho, _⟩ := lookIn_ns hns
    exact ⟨some od, h1, h2, by unfold PySem.W.notCls; rw [h4] <;> rfl, by rw [h3]; exact ho⟩
/-- isinstance of a kept error -/
def rIsE (K : PySem.W.Frag) : List V → Hp → VK → Prop := fun xs H Q => ∃ (a C : Addr) (d : Option Addr) (c : V) (cv : Value) (b : Bool), xs = [.ref a, c] ∧ (∀ u, RelV c u → u = cv) ∧ ExcQ K C ∧ PySem.W.kitOne K (.ref C) cv = some b ∧ H a = some (ExK (.ref C) d a) ∧ (d = none ∨ ∃ dd vs, d = some dd ∧ H dd = some (.xd vs)) ∧ Q (.bl b) H
theorem call_isE : CallR X (.builtin "isinstance") (rIsE X.K) := by
  intro pins s σ H xs vals Q I r h
  obtain ⟨a, C, d, c, cv, b, rfl, hcv, T, e, ha, hd, q⟩ := h
  cases r with
  | cons rx rr =>
    cases rr with
    | cons rt rr =>
      cases rr
      cases rx
      have ec := hcv _ rt
      subst ec
      obtain ⟨oe, od, J⟩ := instAt_of I ha hd
      exact PySem.W.kia_one (PySem.W.kitx_exc T.cl T.hg T.hk T.hs T.ha T.hn T.ht T.hm) I.kIn J e (fun z => nomatch z) fun tk => ⟨.bl b, H, I.kept (t' := tk) fun _ _ z => z, rfl, q⟩
/-- e.f of a kept error -/
def tXE (K : PySem.W.Frag) (f : Str) (te : TE) : TE := fun σ H Q => te σ H fun x H1 => ∃ (a C dd : Addr) (fs : List (Str × V)) (v : V), x = .ref a ∧ H1 a = some (ExK (.ref C) (some dd) a) ∧ XfC K C ∧ PySem.W.findIn K (.ref C) f = some none ∧ H1 dd = some (.xd fs) ∧ fs.lookup f = some v ∧ Q v H1
theorem pe_xE {e : Expr} {te : TE} {pos : Pos} {f : Str} (he : PE X e te) (hb : attributeBase e f X.env (eval e X.env) = eval e X.env := by rfl) : PE X (.Attribute e f pos) (tXE X.K f te) := by
  constructor
  intro pins s σ H Q I h
  refine attr_of hb (thn (he.run pins s σ H _ I h) fun u s1 got => ?_)
  obtain ⟨x, H1, I1, rx, a, C, dd, fs, v, ex, ha, T, hno, ea, l, q⟩ := got
  subst ex
  cases rx
  obtain ⟨⟨oe, us, h1, h2, h3, h4⟩, _, _⟩ := (I1.hok a _ ha : ObjOk X.prog X.w H1 s1.heap a (ExK (.ref C) (some dd) a))
  obtain ⟨mA, hns, hr⟩ := (I1.hok dd _ ea : ObjOk X.prog X.w H1 s1.heap dd (.xd fs))
  obtain ⟨od, ho, hlk⟩ := lookIn_ns hns
  obtain ⟨u, hu, ru⟩ := RelO.some_of (v := v) (o := mA f) (l ▸ hr f)
  have J : PySem.W.InstAt s1.heap a oe C (some od) := ⟨h1, h2, by unfold PySem.W.notCls; rw [h4] <;> rfl, by rw [h3]; exact ho⟩
  have own := PySem.W.findObj_own (K := X.K) (C := C) (name := f) T.hdC hno rfl (by rw [hlk, hu])
  exact HandSPX.exc_get I1.kIn J T.ga T.gg T.exC own (handed_of ru) ⟨v, H1, I1.tok _, ru, q⟩
end
/-! ### the functions on data -/
def errD (e : Ex) : D := .err e.cls (e.fs.map (·.1)) (e.fs.map (·.2))
def suK (i j : Nat) (e : Ex) : M Out := fun s => if i < s.loc.length then .ok .nx ⟨(s.loc.set i none).set j (some (errD e)), s.vh⟩ else .bad
def isE (tab : List (Str × Bool)) (d : D) : M D := match d with
  | .err x _ _ => (match tab.lookup x with
    | some b => ret (.bl b)
    | none => fail)
  | _ => fail
def fldE (tab : List (Str × Bool)) (f : Str) (d : D) : M D := match d with
  | .err x ks ds => if (tab.lookup x).isSome = true then (match (ks.zip ds).lookup f with
    | some v => ret v
    | none => fail) else fail
  | _ => fail
section
variable {X : Cx} {W : WX} {Wout : L2.WX} {body : List Stmt} {f : M Out} {T n y : Str} {tab : List (Str × Bool)} {i j : Nat} {np p' p2 p3 pos pos' : Pos}
theorem ds_try_keep (hW : OutW X.K X.mg W Wout) (tk : L2.Takes X Wout) (hT : Tab (fun x b => XcP X.K X.mg x T b) tab) (hK : Tab (fun x _ => XcK X.K X.mg x) tab) (hTn : ∃ C, X.mg T = some (.ref C)) (hij : i ≠ j)
    (hb : ∀ (W' : L2.WX) (pn : List (Addr × Obj)) (xe : Value → Shared → Prop), L2.Takes (X.tr pn xe) W' → PassesOwn (model X.prog X.w) X.A X.env xe → DSs (X.tr pn xe) (LW X.K X.mg W') body f)
    (hN : X.N.Nodup) (hs : X.stack = X.env :: X.outer := by rfl) (hf : X.env.frame = some X.env.locals := by rfl) (hex : X.ex = [] := by rfl) (hi : X.N[i]? = some n := by rfl) (hln : X.env.kindOf n = some .local := by rfl) (hg : Gl X T := by rfl) (hdT : (T == ("__debug__" : Str)) = false := by decide)
    (hv : Vis X.env.scope n := by first | exact Or.inl rfl | exact Or.inr (Or.inl rfl) | exact Or.inr (Or.inr rfl)) (hd : (n == ("__debug__" : Str)) = false := by decide) (hcd : (n == ("__classdict__" : Str)) = false := by decide)
    (hj : X.N[j]? = some y := by rfl) (hx : Loc X.env.scope y := by first | exact Or.inl rfl | exact Or.inr rfl) (hf2 : X.fn y = true ∨ X.env.scope.names.lookup y = some .local := by first | exact .inl rfl | exact .inr rfl) (hsw : swapsWith (.Name n p3) (some (.Name y p')) p2.line X.env = pure false := by rfl) :
    DS X W (.Try body [.ExceptHandler (some (.Name T np)) (some n) [.Assign [.Name y p'] (.Name n p3) p2] pos'] [] [] pos) (tryM f tab (suK i j)) := by
  obtain ⟨CT, hCT⟩ := hTn
  let tF : L2.WX → TS := fun W' D σ H => ∃ w s, RS X.K w H σ s ∧ PostS X.K (LW X.K X.mg W') w H (f s) D
  refine ⟨_, L2K.ps_try_keep (tb := tF) (c := .ref CT) (i := i) (j := j) hs hf hex hN hi hln ⟨hg, hdT, .inl hCT⟩ tk (fun W' pn xe t po => ?_) (fun a oe pn => ?_), fun w H σ s D R z => ?_⟩
  · obtain ⟨t2, p, r⟩ := hb W' pn xe t po
    exact ⟨fun pins s σ H D I ⟨w, z, R, P⟩ => p.run pins s σ H D I (r w H σ z D R P)⟩
  · exact ⟨fun pins s σ H D I ⟨v, h1, h2⟩ => (pss_one (ps_set (X := X.suite a ((a, oe) :: pn)) (i := j) hN hj hx (pe_var (X := X.suite a ((a, oe) :: pn)) (i := i) hi hv hd hcd) hsw hf2)).run pins s σ H D I ⟨v, h1, h2⟩⟩
  · refine ⟨w, s, R, ?_⟩
    unfold tryM at z
    cases hfs : f s with
    | bad => rw [hfs] at z; exact z.elim
    | ok o s1 => rw [hfs] at z; cases o <;> exact z
    | exc e s1 =>
      rw [hfs] at z
      dsimp only at z
      intro w' H' σ' l R' C hC
      cases ht : tab.lookup e.cls with
      | none => rw [ht] at z; exact z.elim
      | some b =>
        rw [ht] at z
        obtain ⟨C2, CT2, c1, c2, hexm⟩ := (hT.at ht).ex
        rw [hC] at c1; cases c1
        rw [hCT] at c2; cases c2
        obtain ⟨C3, c3, hns⟩ := (hK.at ht).ex
        rw [hC] at c3; cases c3
        cases b with
        | false =>
          have := hW e w' H' σ' C hC (z w' H' σ' l R')
          exact ⟨fun h0 => ⟨false, hexm, (fun h => nomatch h), fun _ => this.1 h0⟩, fun h0 d vs hd rf => ⟨false, hexm, (fun h => nomatch h), fun _ => this.2 h0 d vs hd rf⟩⟩
        | true =>
          dsimp only at z
          unfold suK at z
          by_cases hil0 : i < s1.loc.length
          rotate_left
          · rw [if_neg hil0] at z; exact z.elim
          rw [if_pos hil0] at z
          have key : ∀ (w2 : Wd) (H2 : Hp) (d : Option Addr) (a : Addr) (vs : List V), Le w H w2 H2 → RS X.K w2 H2 σ' s1 → ((e.fs.map (·.1) = [] ∧ vs = [] ∧ d = none) ∨ ∃ dd, d = some dd ∧ w2.F dd = some (.xd ((e.fs.map (·.1)).zip vs)) ∧ (e.fs.map (·.1)).length = vs.length) → RepL X.K w2 vs (e.fs.map (·.2)) → H2 a = none →
              D.nx (((σ'.set i (some (.ref a))).set j (some (.ref a))).set i none) (upd H2 a (ExK (.ref C) d a)) := fun w2 H2 d a vs l2 R2 hx rl ha => by
            have fr := R2.fresh ha
            have ll := Le.lay (w := w2) (o := ExK (.ref C) d a) ha fr.1
            have RL := R2.lay (o := ExK (.ref C) d a) ha
            have ru : Rep X.K (w2.frz a (ExK (.ref C) d a)) (.ref a) (errD e) := .err ⟨C, d, hns, upd_same, hx.imp id fun ⟨dd, q1, q2, q3⟩ => ⟨dd, q1, ll.le.2 _ _ q2, q3⟩⟩ (rl.upW ll.le)
            have R3 : RS X.K (w2.frz a (ExK (.ref C) d a)) (upd H2 a (ExK (.ref C) d a)) (σ'.set i (some (.ref a))) ⟨s1.loc.set i none, s1.vh⟩ := RL.other (l := s1.loc.set i none) (by rw [List.length_set, List.length_set]; exact RL.len) fun k dd hk => by
              by_cases hik : k = i
              · subst hik
                rw [List.getElem?_set_self'] at hk
                cases h5 : s1.loc[k]? with
                | none => rw [h5] at hk; cases hk
                | some _ => rw [h5] at hk; cases hk
              · rw [List.getElem?_set_ne (fun z => hik z.symm)] at hk
                rw [List.getElem?_set_ne (fun z => hik z.symm)]
                exact RL.loc k dd hk
            have R5 := R3.set (i := j) ru
            refine z _ _ _ (l2.trans ll) (R5.other (l := (s1.loc.set i none).set j (some (errD e))) (by rw [List.length_set]; exact R5.len) fun k dd hk => ?_)
            by_cases hik : k = i
            · subst hik
              rw [List.getElem?_set_ne (fun z => hij z.symm), List.getElem?_set_self'] at hk
              cases h5 : s1.loc[k]? with
              | none => rw [h5] at hk; cases hk
              | some _ => rw [h5] at hk; cases hk
            · rw [List.getElem?_set_ne (fun z => hik z.symm)]
              exact R5.loc k dd hk
          refine ⟨fun h0 => ⟨true, hexm, fun _ a ha => key w' H' none a [] l R' (.inl ⟨by rw [h0]; rfl, rfl, rfl⟩) (by rw [h0]; exact .nil) ha, fun h => nomatch h⟩, fun h0 d vs hd rf => ⟨true, hexm, fun _ a ha => ?_, fun h => nomatch h⟩⟩
          have fr := R'.fresh hd
          have ll := Le.lay (w := w') (o := .xd vs) hd fr.1
          obtain ⟨q1, q2, q3⟩ := (rf.upW ll.le).split
          exact key _ _ (some d) a (vs.map (·.2)) (l.trans ll) (R'.lay hd) (.inr ⟨d, rfl, by rw [q1]; exact upd_same, q3⟩) q2 ha
end
section
variable {X : Cx} {W : WX} {T U V' : Str} {e : Expr} {f : M D} {tab tab2 tab3 : List (Str × Bool)} {p pa pb pc tpos pos : Pos} {kk : Nat}
theorem errAt_in {K : PySem.W.Frag} {F H : Hp} (sub : ∀ a o, F a = some o → H a = some o) {a : Addr} {x : Str} {ks : List Str} {vs : List V} {C : Addr} (h : ErrAt K F a x ks vs) (hC : PySem.W.nsIn K mainGlobals x = some (some (.ref C))) : ∃ d, H a = some (ExK (.ref C) d a) ∧ (d = none ∨ ∃ dd us, d = some dd ∧ H dd = some (.xd us)) ∧ ∀ f u, (ks.zip vs).lookup f = some u → ∃ dd, d = some dd ∧ H dd = some (.xd (ks.zip vs)) := by
  obtain ⟨C', d, h1, h2, h3⟩ := h
  rw [hC] at h1
  cases h1
  refine ⟨d, sub _ _ h2, ?_, fun f u z => ?_⟩
  · rcases h3 with ⟨_, _, h⟩ | ⟨dd, q1, q2, _⟩
    · exact .inl h
    · exact .inr ⟨dd, _, q1, sub _ _ q2⟩
  · rcases h3 with ⟨h, _, _⟩ | ⟨dd, q1, q2, _⟩
    · rw [h] at z; cases z
    · exact ⟨dd, q1, sub _ _ q2⟩
theorem de_isE (hT : Tab (fun x b => XcI X.K X.mg x T b) tab) (hK : Tab (fun x _ => XcK X.K X.mg x) tab) (hTn : ∃ CT, X.mg T = some (.ref CT)) (hi : X.mg "isinstance" = none) (h : DE X W e f) (hg : Gl X "isinstance" := by rfl) (hg2 : Gl X T := by rfl) (hd : (T == ("__debug__" : Str)) = false := by decide)
    (hst : starEach [e, .Name T pa] X.env = (false, eval e X.env) :: starEach [.Name T pa] X.env := by rfl) (hst2 : starEach [.Name T pa] X.env = (false, eval (.Name T pa) X.env) :: starEach [] X.env := by rfl)
    (hpl : (backTo pos (starEach [.Name T pa] X.env)).any (·.1) = false := by rfl) :
    DE X W (.Call (.Name "isinstance" p) [e, .Name T pa] [] pos) (bnd f (isE tab)) := by
  obtain ⟨CT, hm⟩ := hTn
  obtain ⟨t, q, k⟩ := h
  refine ⟨_, pe_callB call_isE hg hi (by decide +kernel) (pa_cons q (pa_cons (pe_glob (v := .ref CT) hg2 hm rfl hd) pa_nil hst2) hst) (by decide) (by decide) hst hpl, fun w H σ s Q R z => ?_⟩
  refine k.bnd R z fun d s1 w1 H1 v l1 R1 r1 p1 => ?_
  unfold isE at p1
  cases r1 with
  | @err a x ks vs ds hE _ =>
    dsimp only at p1
    cases ht : tab.lookup x with
    | none => rw [ht] at p1; exact p1.elim
    | some b =>
      rw [ht] at p1
      obtain ⟨C, CT2, c1, c2, TQ, hk⟩ := (hT.at ht).ex
      rw [hm] at c2
      cases c2
      obtain ⟨C2, c3, hns⟩ := (hK.at ht).ex
      rw [c1] at c3
      cases c3
      obtain ⟨d, e1, e2, _⟩ := errAt_in R1.sub hE hns
      exact ⟨a, C, d, .ref CT, .ref CT, b, rfl, fun _ h => h, TQ, hk, e1, e2, Post.here p1 R1 (Rep.bl _)⟩
  | _ => exact p1.elim
/-- e.f of a kept error -/
theorem de_fldE {fl : Str} (hF : Tab (fun x _ => XcF X.K X.mg x fl) tab) (hK : Tab (fun x _ => XcK X.K X.mg x) tab) (h : DE X W e f) (hb : attributeBase e fl X.env (eval e X.env) = eval e X.env := by rfl) : DE X W (.Attribute e fl pos) (bnd f (fldE tab fl)) := by
  obtain ⟨t, q, k⟩ := h
  refine ⟨_, pe_xE q hb, fun w H σ s Q R z => ?_⟩
  refine k.bnd R z fun d s1 w1 H1 v l1 R1 r1 p1 => ?_
  unfold fldE at p1
  cases r1 with
  | @err a x ks vs ds hE rl =>
    dsimp only at p1
    cases ht : tab.lookup x with
    | none => rw [ht] at p1; exact p1.elim
    | some b =>
      rw [ht] at p1
      have p1 : Post X.K W (pD X.K) w1 H1 σ ((match (ks.zip ds).lookup fl with
        | some v => ret v
        | none => fail : M D) s1) Q := p1
      cases hl : (ks.zip ds).lookup fl with
      | none => rw [hl] at p1; exact p1.elim
      | some y =>
        rw [hl] at p1
        obtain ⟨C, c1, TQ, hno⟩ := (hF.at ht).ex
        obtain ⟨C2, c3, hns⟩ := (hK.at ht).ex
        rw [c1] at c3
        cases c3
        obtain ⟨d, e1, e2, e3⟩ := errAt_in R1.sub hE hns
        obtain ⟨u, l2, r2⟩ := rl.zipL hl
        obtain ⟨dd, q1, q2⟩ := e3 fl u l2
        subst q1
        exact ⟨a, C, dd, _, u, rfl, e1, TQ, hno, q2, l2, Post.here p1 R1 r2⟩
  | _ => exact p1.elim
end
/-! ### equations -/
section
variable {s : S} {x : Str} {ks : List Str} {ds : List D} {tab : List (Str × Bool)} {ts : List (List (Str × Bool))} {b : Bool} {f : Str} {v : D} {bs : List Bool}
theorem x_isE (h : tab.lookup x = some b) : isE tab (.err x ks ds) s = .ok (.bl b) s := by
  unfold isE
  dsimp only
  rw [h]
  rfl
theorem x_isEt (h : tab.lookup x = some true) : isE tab (.err x ks ds) s = .ok (.bl true) s := x_isE h
theorem x_isEf (h : tab.lookup x = some false) : isE tab (.err x ks ds) s = .ok (.bl false) s := x_isE h
theorem x_suK {i j : Nat} {e : Ex} (hi : i < s.loc.length) : suK i j e s = .ok .nx ⟨(s.loc.set i none).set j (some (errD e)), s.vh⟩ := by
  unfold suK
  rw [if_pos hi]
theorem x_isErr : isM (.err x ks ds) .non s = .ok (.bl false) s := nr rfl
theorem x_isnErr : isnotM (.err x ks ds) .non s = .ok (.bl true) s := nr rfl
theorem x_fldE (h : (tab.lookup x).isSome = true) (k : (ks.zip ds).lookup f = some v) : fldE tab f (.err x ks ds) s = .ok v s := by
  unfold fldE
  dsimp only
  rw [if_pos h, k]
  rfl
end
end Fx

/-! Fx: lists that are alike, {} among what they hold -/
namespace L2K
open PySem PySem.Spec PyProof.Rows L2
section
variable {σ : L2.St} {H : Hp} {s : Shared} {X : Cx} {pins : List (Addr × Obj)}
/-- an empty dict is one for every kind of keys -/
theorem emp_kind {P Q : Program} {u v : World} {h : Heap} {ad : Addr} (e : h.DictOf (mixKind P u) ad []) : h.DictOf (mixKind Q v) ad [] := by
  obtain ⟨ob, es, ep, h1, h2, h3, _, h5, _⟩ := e
  have nil : es.toList = [] := by
    cases q : es.toList with
    | nil => rfl
    | cons x r => rw [q] at h5; cases h5
  refine ⟨ob, es, ep, h1, h2, h3, fun x hx => ?_, by rw [nil]; exact .nil, List.Pairwise.nil⟩
  have := Array.mem_toList_iff.mpr hx
  rw [nil] at this
  cases this
theorem emp_eq {ad bd : Addr} {A : Around} (I : Inv X pins σ H s) (ha : H ad = some (.dK [])) (hb : H bd = some (.dK [])) (hu : A.in1.units < cLine) : SeqAt.EqAt A s (.ref ad) (.ref bd) true := by
  by_cases same : ad = bd
  · rw [same]
    exact SeqAt.EqAt.same _
  obtain ⟨_, ya, va, ra, da⟩ := (I.hok ad _ ha : ObjOk X.prog X.w H s.heap ad (.dK []))
  obtain ⟨_, yb, vb, rb, db⟩ := (I.hok bd _ hb : ObjOk X.prog X.w H s.heap bd (.dK []))
  cases ra
  cases rb
  exact SeqAt.EqAt.of_refs same fun prog w E Q q => PySem.W.keq_eq (knd := mixKind prog w) (ka := []) (kb := []) (r := true) ya yb (emp_kind da) (emp_kind db) (by first | exact hu | exact Nat.lt_of_le_of_lt (Nat.le_succ _) hu | simpa using hu) (fun _ => .nil) q
/-- equal as data, or both {} -/
inductive Al (K : PySem.W.Frag) (H : Hp) : V → V → Prop
  | emp {ad bd : Addr} : H ad = some (.dK []) → H bd = some (.dK []) → Al K H (.ref ad) (.ref bd)
  | dat {x y : V} {p q : PyData} : Dp K H x p → Dp K H y q → SeqAt.shaped p = true → SeqAt.shaped q = true → PyData.eqv p q = true → Al K H x y
theorem al_eq {x y : V} {v u : Value} {A : Around} (I : Inv X pins σ H s) (h : Al X.K H x y) (rx : RelV x v) (ry : RelV y u) (hu : A.units + 65 < cLine) : SeqAt.EqAt A s v u true := by
  have hin : A.in1.units = A.units + 1 := rfl
  cases h with
  | emp ha hb =>
    cases rx
    cases ry
    exact emp_eq I ha hb (by omega)
  | dat h1 h2 s1 s2 e =>
    obtain ⟨_, r1⟩ := Dp.reads I _ _ _ h1 rx
    obtain ⟨_, r2⟩ := Dp.reads I _ _ _ h2 ry
    have := PySem.W.keq_at (A := A) r1 r2 s1 s2 (by omega)
    rw [e] at this
    exact this.of_in1
theorem vals_at : ∀ {xs : List V} {us : List Value}, Vals xs us → ∀ (j : Nat) (h : j < us.length), ∃ x, xs[j]? = some x ∧ RelV x us[j]
  | _, _, .nil, j, h => by cases h
  | _, _, .cons r t, 0, h => ⟨_, rfl, r⟩
  | _, _, .cons r t, j + 1, h => by
    obtain ⟨x, h1, h2⟩ := vals_at t j (by simpa using h)
    exact ⟨x, h1, h2⟩
/-- two lists, alike place by place, are equal -/
def rEqT (K : PySem.W.Frag) : R2 := fun x y H Q => ∃ ad bd xs ys, x = .ref ad ∧ y = .ref bd ∧ SqL K H ad xs ∧ SqL K H bd ys ∧ xs.length = ys.length ∧ (∀ (j : Nat) a b, xs[j]? = some a → ys[j]? = some b → Al K H a b) ∧ Q (.bl true) H
theorem op_eqT (hu : X.A.units + 66 < cLine) : OpR X (compareOp .Eq) (rEqT X.K) := by
  intro pins s σ H x y v u Q I rx ry h
  obtain ⟨ad, bd, xs, ys, rfl, rfl, h1, h2, hl, al, q⟩ := h
  cases rx
  cases ry
  obtain ⟨its, rv, hl1, _⟩ := I.list h1
  obtain ⟨its', rv', hl2, _⟩ := I.list h2
  have l1 := rv.length
  have l2 := rv'.length
  have hin : X.A.in1.units = X.A.units + 1 := rfl
  have k := SeqAt.RcAt.lists (A := X.A) (e := fun _ => true) hl1.isList hl2.isList (by rw [List.size_toArray, List.size_toArray]; omega) (by omega) fun j z1 z2 => by
    rw [List.size_toArray] at z1 z2
    obtain ⟨a, e1, r1⟩ := vals_at rv j z1
    obtain ⟨b, e2, r2⟩ := vals_at rv' j z2
    exact al_eq (A := X.A.in1) I (al j a b e1 e2) r1 r2 (by omega)
  have hall : ((List.range its.toArray.size).all fun _ => true) = true := List.all_eq_true.mpr fun _ _ => rfl
  rw [hall] at k
  exact k _ _ _ _ ⟨.bl true, H, I, rfl, q⟩
end
end L2K
namespace Fx
open PySem PySem.Spec L2 L2K
variable {X : Cx} {W : WX}
def alikeD (d e : D) : Bool := match d, e with
  | .emp, .emp => true
  | d, e => match pyT d, pyT e with
    | some p, some q => SeqAt.shaped p && (SeqAt.shaped q && PyData.eqv p q)
    | _, _ => false
def alikeL : List D → List D → Bool
  | [], [] => true
  | d :: ds, e :: es => alikeD d e && alikeL ds es
  | _, _ => false
theorem alikeD_al {K : PySem.W.Frag} {w : Wd} {H : Hp} (sub : ∀ a o, w.F a = some o → H a = some o) {v u : V} {d e : D} (r : Rep K w v d) (q : Rep K w u e) (h : alikeD d e = true) : Al K H v u := by
  unfold alikeD at h
  split at h
  · cases r with
    | emp h1 =>
      cases q with
      | emp h2 => exact .emp (sub _ _ h1) (sub _ _ h2)
  · split at h
    · next p1 q1 e1 e2 =>
      rw [Bool.and_eq_true, Bool.and_eq_true] at h
      exact .dat (dp_of sub r e1) (dp_of sub q e2) h.1 h.2.1 h.2.2
    · cases h
theorem alikeL_al {K : PySem.W.Frag} {w : Wd} {H : Hp} (sub : ∀ a o, w.F a = some o → H a = some o) : ∀ {vs us : List V} {ds es : List D}, RepL K w vs ds → RepL K w us es → alikeL ds es = true → vs.length = us.length ∧ ∀ (j : Nat) a b, vs[j]? = some a → us[j]? = some b → Al K H a b
  | _, _, _, _, .nil, .nil, _ => ⟨rfl, fun j a b e => by cases e⟩
  | _, _, _, _, .nil, .cons _ _, h => by cases h
  | _, _, _, _, .cons _ _, .nil, h => by cases h
  | _, _, _, _, .cons r t, .cons r' t', h => by
    have h : (alikeD _ _ && alikeL _ _) = true := h
    rw [Bool.and_eq_true] at h
    obtain ⟨h1, h2⟩ := alikeL_al sub t t' h.2
    refine ⟨congrArg (· + 1) h1, fun j a b ea eb => ?_⟩
    cases j with
    | zero =>
      cases ea
      cases eb
      exact alikeD_al sub r r' h.1
    | succ j => exact h2 j a b ea eb
def eqTM (d e : D) : M D := fun s => match lstOf s d, lstOf s e with
  | some xs, some ys => if alikeL xs ys = true then .ok (.bl true) s else .bad
  | _, _ => .bad
theorem rop_eqT : ROp X (rEqT X.K) eqTM := by
  intro W w H σ s x y d e Q R rx ry p
  unfold eqTM at p
  split at p
  · next xs ys h1 h2 =>
    split at p
    · next k =>
      obtain ⟨a, vs, e1, s1, r1⟩ := R.list rx h1
      obtain ⟨b, us, e2, s2, r2⟩ := R.list ry h2
      obtain ⟨q1, q2⟩ := alikeL_al R.sub r1 r2 k
      exact ⟨a, b, vs, us, e1, e2, s1, s2, q1, q2, Post.here p R (Rep.bl _)⟩
    · exact p.elim
  · exact p.elim
/-- ==, of data, or of lists that are alike -/
def eqBM (d e : D) : M D := altM (eqM d e) (eqTM d e)
theorem op_eqB (hu : X.A.units + 66 < cLine) : OpR X (compareOp .Eq) (fun x y H Q => (rEq x y H Q ∨ rEqD X.K x y H Q) ∨ rEqT X.K x y H Q) := opr_or (op_eqA (by omega)) (op_eqT hu)
theorem rop_eqB : ROp X (fun x y H Q => (rEq x y H Q ∨ rEqD X.K x y H Q) ∨ rEqT X.K x y H Q) eqBM := rop_alt rop_eq rop_eqT
/-- a list equals itself, {} in it or not -/
def SmE (d : D) : Prop := (eqOk d = true ∧ dpt d ≤ 60) ∨ d = .emp
theorem alike_self : ∀ {xs : List D}, (∀ x ∈ xs, SmE x) → alikeL xs xs = true
  | [], _ => rfl
  | x :: xs, h => by
    have h2 := alike_self fun y hy => h y (List.mem_cons_of_mem _ hy)
    show (alikeD x x && alikeL xs xs) = true
    rw [h2, Bool.and_true]
    rcases h x List.mem_cons_self with ⟨a, b⟩ | rfl
    · obtain ⟨p, q1, q2, q3, q4⟩ := dq_self x a
      have q5 : SeqAt.shaped p = true := by
        unfold SeqAt.shaped
        rw [q2, q4]
        exact decide_eq_true (by omega)
      unfold alikeD
      split
      · rfl
      · rw [q1]
        dsimp only
        rw [q5, q3]
        rfl
    · rfl
theorem x_eqBC {n m : Nat} {xs : List D} {s : S} (h1 : s.vh[n]? = some (.lst xs)) (h2 : s.vh[m]? = some (.lst xs)) (h : ∀ x ∈ xs, SmE x) : eqBM (.cell n) (.cell m) s = .ok (.bl true) s := by
  have a : eqTM (.cell n) (.cell m) s = .ok (.bl true) s := by
    unfold eqTM lstOf
    dsimp only
    rw [h1, h2]
    dsimp only
    rw [if_pos (alike_self h)]
  by_cases all : ∀ x ∈ xs, eqOk x = true ∧ dpt x ≤ 60
  · have k : Eqd 64 (.lst xs) := Eqd.mono (Eqd.lst (n := 60) all) (by decide)
    have b : eqM (.cell n) (.cell m) s = .ok (.bl true) s := by
      show eqD (.cell n) (.cell m) s = _
      have := (eqD_self (s := s) k).1
      unfold eqD at this ⊢
      rw [pyD_cellL h1, pyD_cellL h2]
      exact this
    unfold eqBM altM
    rw [b]
  · have noP : pyL xs = none := by
      cases q : pyL xs with
      | none => rfl
      | some ps =>
        refine absurd (fun x hx => ?_) all
        rcases h x hx with h | rfl
        · exact h
        · exfalso
          clear all a h1 h2 h
          induction xs generalizing ps with
          | nil => cases hx
          | cons y ys ih =>
            unfold pyL at q
            rcases List.mem_cons.mp hx with e | e
            · rw [← e] at q
              have : pyT D.emp = none := rfl
              rw [this] at q
              cases q
            · cases e1 : pyT y with
              | none => rw [e1] at q; cases q
              | some p =>
                cases e2 : pyL ys with
                | none => rw [e1, e2] at q; cases q
                | some ps2 => exact ih _ e2 e
    have b : eqM (.cell n) (.cell m) s = .bad := by
      show eqD (.cell n) (.cell m) s = _
      unfold eqD
      rw [pyD_cellL h1]
      have : pyD s (.lst xs) = none := by
        show pyT (.lst xs) = none
        unfold pyT
        rw [noP]
        rfl
      rw [this]
    unfold eqBM altM
    rw [b]
    exact a
end Fx
namespace Fx
open PySem L2
theorem units_of2 {A : Around} {k : Nat} (hr : Room k A) : A.units + 66 < cLine := by have := hr.un; omega
end Fx

/-! ### the text, by gen.py -/
namespace Wktwigtable_k71_names
open PySem PySem.Spec PyProof.Rows L2 Fx
def topS (i : Nat) : Stmt := PySem.Challenge.pw_twigtable_k71_names.main.body.getD i (.Pass ⟨0, 0, 0, 0⟩)
structure Txt (K : PySem.W.Frag) (mg : Str → Option Value) : Prop where
  cl_Pages : ClsP K "Pages"
  cl_Makes : ClsP K "Makes"
  cl_Shelf : ClsP K "Shelf"
  na_Pages_coming : NoA K "Pages" "coming"
  na_Pages_known : NoA K "Pages" "known"
  na_Pages_standing : NoA K "Pages" "standing"
  na_Makes_count : NoA K "Makes" "count"
  na_Makes_kin : NoA K "Makes" "kin"
  na_Makes_states : NoA K "Makes" "states"
  na_Shelf_makes : NoA K "Shelf" "makes"
  na_Shelf_pages : NoA K "Shelf" "pages"
  na_Shelf_titles : NoA K "Shelf" "titles"
  e0_BadWord : Xc0 K mg "BadWord"
  xk_NoName : XcK K mg "NoName"
  xk_NoMake : XcK K mg "NoMake"
  xk_BadWord : XcK K mg "BadWord"
  xn_NoName : ∃ C, mg "NoName" = some (.ref C)
  xn_NoMake : ∃ C, mg "NoMake" = some (.ref C)
  xn_BadWord : ∃ C, mg "BadWord" = some (.ref C)
  xn_TableError : ∃ C, mg "TableError" = some (.ref C)
  xp_BadWord_TableError : XcP K mg "BadWord" "TableError" true
  xp_NoMake_TableError : XcP K mg "NoMake" "TableError" true
  xp_NoName_TableError : XcP K mg "NoName" "TableError" true
  xi_NoName_NoName : XcI K mg "NoName" "NoName" true
  xi_NoMake_NoName : XcI K mg "NoMake" "NoName" false
  xi_BadWord_NoName : XcI K mg "BadWord" "NoName" false
  xi_NoName_NoMake : XcI K mg "NoName" "NoMake" false
  xi_NoMake_NoMake : XcI K mg "NoMake" "NoMake" true
  xi_BadWord_NoMake : XcI K mg "BadWord" "NoMake" false
  xi_NoName_BadWord : XcI K mg "NoName" "BadWord" false
  xi_NoMake_BadWord : XcI K mg "NoMake" "BadWord" false
  xi_BadWord_BadWord : XcI K mg "BadWord" "BadWord" true
  xf_NoName_word : XcF K mg "NoName" "word"
  xf_NoMake_number : XcF K mg "NoMake" "number"
  b_bool : mg "bool" = none
  b_int : mg "int" = none
  b_isinstance : mg "isinstance" = none
  b_len : mg "len" = none
  b_list : mg "list" = none
  b_max : mg "max" = none
  b_range : mg "range" = none
  b_set : mg "set" = none
  b_sorted : mg "sorted" = none
  b_str : mg "str" = none
  b_tuple : mg "tuple" = none
  b_zip : mg "zip" = none
  c_LETTERS : ∃ t, mg "LETTERS" = some (.str "abcdefghijklmnopqrstuvwxyz" t)
abbrev s_NoMake_init : Stmt := inClass (topS 6) 0
theorem sc_NoMake_init : FnScope ["self", "number"] ["self", "number"] (defScope s_NoMake_init) := ⟨rfl, rfl, rfl, by decide +kernel, rfl, by decide +kernel, by decide +kernel⟩
theorem oke_NoMake {P : Program} {wd : World} {K : PySem.W.Frag} {mg : Str → Option Value} {base : Heap} (F : TopE K mg "NoMake" "NoMake.__init__" s_NoMake_init ["self", "number"] ["number"]) : Xc1 P wd K mg base "NoMake" ["number"] 1 :=
  F.mk1 sc_NoMake_init rfl fun f cdv A outer s H E => pss_one (ps_ost (pe_var (i := 0) rfl (Or.inl rfl)) (pe_var (i := 1) rfl (Or.inl rfl)))
abbrev s_NoName_init : Stmt := inClass (topS 7) 0
theorem sc_NoName_init : FnScope ["self", "word"] ["self", "word"] (defScope s_NoName_init) := ⟨rfl, rfl, rfl, by decide +kernel, rfl, by decide +kernel, by decide +kernel⟩
theorem oke_NoName {P : Program} {wd : World} {K : PySem.W.Frag} {mg : Str → Option Value} {base : Heap} (F : TopE K mg "NoName" "NoName.__init__" s_NoName_init ["self", "word"] ["word"]) : Xc1 P wd K mg base "NoName" ["word"] 1 :=
  F.mk1 sc_NoName_init rfl fun f cdv A outer s H E => pss_one (ps_ost (pe_var (i := 0) rfl (Or.inl rfl)) (pe_var (i := 1) rfl (Or.inl rfl)))
abbrev s_Pages_init : Stmt := inClass (topS 9) 0
theorem sc_Pages_init : FnScope ["self"] ["self"] (defScope s_Pages_init) := ⟨rfl, rfl, rfl, by decide +kernel, rfl, by decide +kernel, by decide +kernel⟩
noncomputable def g_Pages_init : M Out :=
    (seqM (fldS "Pages" "standing" (getL 0) (ownM (ret (.dct []))))
    (seqM (fldS "Pages" "known" (getL 0) (ownM (ret (.dct []))))
    (fldS "Pages" "coming" (getL 0) (ret (.int 0)))))
noncomputable def F_Pages_init : Sf := runS 1 g_Pages_init
theorem ok_Pages_init {P : Program} {wd : World} {K : PySem.W.Frag} {mg : Str → Option Value} {base : Heap} (T : Txt K mg) {x : Str} (F : TopI K mg x "Pages.__init__" s_Pages_init ["self"])  : MkQ P wd K mg base x 1 (SpS K 1 F_Pages_init) :=
  F.fnS sc_Pages_init (by decide) fun f cdv A outer s H E hr =>
    ((dss_cons (ds_fld T.cl_Pages T.na_Pages_standing (de_v 0) (de_own dn_dict0))
    (dss_cons (ds_fld T.cl_Pages T.na_Pages_known (de_v 0) (de_own dn_dict0))
    (dss_one (ds_fld T.cl_Pages T.na_Pages_coming (de_v 0) de_int)))) : DSs _ W0 (defBody s_Pages_init) g_Pages_init)
abbrev s_Pages_numbers : Stmt := inClass (topS 9) 4
theorem sc_Pages_numbers : FnScope ["self"] ["self"] (defScope s_Pages_numbers) := ⟨rfl, rfl, rfl, by decide +kernel, rfl, by decide +kernel, by decide +kernel⟩
noncomputable def g_Pages_numbers : M Out :=
    (retM (frzM (bnd (consM (bnd (getL 0) (fldM "Pages" "standing")) (ret [])) sortedM)))
noncomputable def F_Pages_numbers : Pf := runP 1 g_Pages_numbers
theorem ok_Pages_numbers {P : Program} {wd : World} {K : PySem.W.Frag} {mg : Str → Option Value} {base : Heap} (T : Txt K mg) {x : Str} (F : TopM K x "numbers" "Pages.numbers" s_Pages_numbers ["self"])  : Met P wd K mg base x "numbers" 1 (SpP K 1 F_Pages_numbers) :=
  F.fnP sc_Pages_numbers (by decide) fun f cdv A outer s H E hr =>
    ((dss_one (ds_ret (de_frz (dn_sorted (units_of hr) T.b_sorted (da_cons (de_fld T.cl_Pages T.na_Pages_standing (de_v 0)) da_nil))))) : DSs _ W0 (defBody s_Pages_numbers) g_Pages_numbers)
abbrev s_is_word : Stmt := topS 12
theorem sc_is_word : FnScope ["thing", "sign"] ["thing"] (defScope s_is_word) := ⟨rfl, rfl, rfl, by decide +kernel, rfl, by decide +kernel, by decide +kernel⟩
noncomputable def b_is_word_1 : M Out :=
    (ifM (tst (bin ninAM (getL 1) (ret (.str "abcdefghijklmnopqrstuvwxyz")))) (retM (ret (.bl false))) (ret .nx))
noncomputable def g_is_word : M Out :=
    (seqM (ifM (orT (notT (tst (bnd (getL 0) (isaM "str")))) (orT (tst (bin ltAM (bnd (consM (getL 0) (ret [])) lenM) (ret (.int 1)))) (tst (bin gtM (bnd (consM (getL 0) (ret [])) lenM) (ret (.int 12)))))) (retM (ret (.bl false))) (ret .nx))
    (seqM (forM (bnd (getL 0) seqI) (setL 1) b_is_word_1)
    (retM (ret (.bl true)))))
noncomputable def F_is_word : Pf := runP 2 g_is_word
theorem ok_is_word {P : Program} {wd : World} {K : PySem.W.Frag} {mg : Str → Option Value} {base : Heap} (T : Txt K mg) (F : Top K mg "is_word" s_is_word ["thing"])  :
    FnP P wd K mg base "is_word" 1 1 F_is_word :=
  F.fn sc_is_word (by decide) fun f cdv A outer s H E hr =>
    ((dss_cons (ds_if (dt_w (dw_or (dt_not (dt_val (de_isa "str" T.b_isinstance T.b_str (de_v 0) (by decide +kernel)))) (dw_or (dt_cmp (op_ltA (units_of hr)) rop_ltA (de_len T.b_len (da_cons (de_v 0) da_nil)) de_int) (dw_or1 (dt_cmp op_gt rop_gt (de_len T.b_len (da_cons (de_v 0) da_nil)) de_int))))) (dss_one (ds_ret de_bl)) dss_nil)
    (dss_cons (ds_for PassesOwn.never rfl (di_seq (de_v 0)) (dg_name sc_is_word.nd) (dss_one (ds_if (dt_ninA (units_of hr) (de_v 1) (de_gS' T.c_LETTERS)) (dss_one (ds_ret de_bl)) dss_nil)))
    (dss_one (ds_ret de_bl)))) : DSs _ W0 (defBody s_is_word) g_is_word)
abbrev s_no_table : Stmt := topS 14
theorem sc_no_table : FnScope [] [] (defScope s_no_table) := ⟨rfl, rfl, rfl, by decide +kernel, rfl, by decide +kernel, by decide +kernel⟩
noncomputable def g_no_table : M Out :=
    (retM (tupM (consM (tupM (ret [])) (consM (ret .non) (ret [])))))
noncomputable def F_no_table : Pf := runP 0 g_no_table
theorem ok_no_table {P : Program} {wd : World} {K : PySem.W.Frag} {mg : Str → Option Value} {base : Heap} (T : Txt K mg) (F : Top K mg "no_table" s_no_table [])  :
    FnP P wd K mg base "no_table" 0 1 F_no_table :=
  F.fn sc_no_table (by decide) fun f cdv A outer s H E hr =>
    ((dss_one (ds_ret (de_tup (da_cons (de_tup da_nil) (da_cons de_non da_nil))))) : DSs _ W0 (defBody s_no_table) g_no_table)
abbrev s_Makes_init : Stmt := inClass (topS 16) 0
theorem sc_Makes_init : FnScope ["self"] ["self"] (defScope s_Makes_init) := ⟨rfl, rfl, rfl, by decide +kernel, rfl, by decide +kernel, by decide +kernel⟩
noncomputable def g_Makes_init : M Out :=
    (seqM (fldS "Makes" "kin" (getL 0) (ownM (dspM (pairM (ret (.int 0)) (tupM (ret [])) (ret [])))))
    (seqM (fldS "Makes" "states" (getL 0) (ownM (dspM (pairM (ret (.int 0)) (callP 0 F_no_table []) (ret [])))))
    (fldS "Makes" "count" (getL 0) (ret (.int 1)))))
noncomputable def F_Makes_init : Sf := runS 1 g_Makes_init
theorem ok_Makes_init {P : Program} {wd : World} {K : PySem.W.Frag} {mg : Str → Option Value} {base : Heap} (T : Txt K mg) {x : Str} (F : TopI K mg x "Makes.__init__" s_Makes_init ["self"]) (c_no_table : FnP P wd K mg base "no_table" 0 1 F_no_table) : MkQ P wd K mg base x 2 (SpS K 1 F_Makes_init) :=
  F.fnS sc_Makes_init (by decide) fun f cdv A outer s H E hr =>
    ((dss_cons (ds_fld T.cl_Makes T.na_Makes_kin (de_v 0) (de_own (dn_disp (dp_cons de_int (de_tup da_nil) dp_nil))))
    (dss_cons (ds_fld T.cl_Makes T.na_Makes_states (de_v 0) (de_own (dn_disp (dp_cons de_int (fn_call0 c_no_table.q ans_P (hr.mono (by decide))) dp_nil))))
    (dss_one (ds_fld T.cl_Makes T.na_Makes_count (de_v 0) de_int)))) : DSs _ W0 (defBody s_Makes_init) g_Makes_init)
abbrev s_Makes_need : Stmt := inClass (topS 16) 1
theorem sc_Makes_need : FnScope ["self", "number"] ["self", "number"] (defScope s_Makes_need) := ⟨rfl, rfl, rfl, by decide +kernel, rfl, by decide +kernel, by decide +kernel⟩
noncomputable def g_Makes_need : M Out :=
    (seqM (ifM (tst (bin ninAM (getL 1) (bnd (getL 0) (fldM "Makes" "kin")))) fail (ret .nx))
    (retM (getL 1)))
noncomputable def F_Makes_need : Pf := runP 2 g_Makes_need
theorem ok_Makes_need {P : Program} {wd : World} {K : PySem.W.Frag} {mg : Str → Option Value} {base : Heap} (T : Txt K mg) {x : Str} (F : TopM K x "need" "Makes.need" s_Makes_need ["self", "number"])  : Met P wd K mg base x "need" 1 (SpP K 2 F_Makes_need) :=
  F.fnP sc_Makes_need (by decide) fun f cdv A outer s H E hr =>
    ((dss_cons (ds_if (dt_ninA (units_of hr) (de_v 1) (de_fld T.cl_Makes T.na_Makes_kin (de_v 0))) (dss_one ds_never) dss_nil)
    (dss_one (ds_ret (de_v 1)))) : DSs _ W0 (defBody s_Makes_need) g_Makes_need)
abbrev s_Makes_made : Stmt := inClass (topS 16) 2
theorem sc_Makes_made : FnScope ["self", "elders", "table", "some", "elder", "number"] ["self", "elders", "table"] (defScope s_Makes_made) := ⟨rfl, rfl, rfl, by decide +kernel, rfl, by decide +kernel, by decide +kernel⟩
noncomputable def b_Makes_made_1 : M Out :=
    (dropM (metM "Makes" "need" (getL 0) (consM (getL 4) (ret [])) (callP 2 F_Makes_need)))
noncomputable def g_Makes_made : M Out :=
    (seqM (asgM (frzM (bnd (getL 1) sortSetM)) (setL 3))
    (seqM (ifM (orT (tst (bin ltAM (bnd (consM (getL 3) (ret [])) lenM) (ret (.int 1)))) (tst (bin gtM (bnd (consM (getL 3) (ret [])) lenM) (ret (.int 2))))) fail (ret .nx))
    (seqM (forM (bnd (getL 3) seqI) (setL 4) b_Makes_made_1)
    (seqM (asgM (bnd (getL 0) (fldM "Makes" "count")) (setL 5))
    (seqM (dputS (bnd (getL 0) (fldM "Makes" "kin")) (getL 5) (bnd (consM (getL 3) (ret [])) tupleM))
    (seqM (dputS (bnd (getL 0) (fldM "Makes" "states")) (getL 5) (getL 2))
    (seqM (fldS "Makes" "count" (getL 0) (bin addM (getL 5) (ret (.int 1))))
    (retM (getL 5)))))))))
noncomputable def F_Makes_made : Sf := runS 6 g_Makes_made
theorem ok_Makes_made {P : Program} {wd : World} {K : PySem.W.Frag} {mg : Str → Option Value} {base : Heap} (T : Txt K mg) {x : Str} (F : TopM K x "made" "Makes.made" s_Makes_made ["self", "elders", "table"]) (m_Makes_need : Met P wd K mg base "Makes" "need" 1 (SpP K 2 F_Makes_need)) : Met P wd K mg base x "made" 2 (SpS K 3 F_Makes_made) :=
  F.fnS sc_Makes_made (by decide) fun f cdv A outer s H E hr =>
    ((dss_cons (ds_set 3 (de_frz (dn_sortSet T.b_sorted T.b_set (de_v 1))) sc_Makes_made.nd)
    (dss_cons (ds_if (dt_w (dw_or (dt_cmp (op_ltA (units_of hr)) rop_ltA (de_len T.b_len (da_cons (de_v 3) da_nil)) de_int) (dw_or1 (dt_cmp op_gt rop_gt (de_len T.b_len (da_cons (de_v 3) da_nil)) de_int)))) (dss_one ds_never) dss_nil)
    (dss_cons (ds_for PassesOwn.never rfl (di_seq (de_v 3)) (dg_name sc_Makes_made.nd) (dss_one (ds_expr (met_call T.cl_Makes m_Makes_need ans_P (hr.mono (by decide)) (de_v 0) (da_cons (de_v 4) da_nil)))))
    (dss_cons (ds_set 5 (de_fld T.cl_Makes T.na_Makes_count (de_v 0)) sc_Makes_made.nd)
    (dss_cons (ds_dput (hu_of hr) (de_fld T.cl_Makes T.na_Makes_kin (de_v 0)) (de_v 5) (de_callT call_tupleC rc_tuple T.b_tuple (da_cons (de_v 3) da_nil) (by decide +kernel)))
    (dss_cons (ds_dput (hu_of hr) (de_fld T.cl_Makes T.na_Makes_states (de_v 0)) (de_v 5) (de_v 2))
    (dss_cons (ds_fld T.cl_Makes T.na_Makes_count (de_v 0) (de_add (de_v 5) de_int))
    (dss_one (ds_ret (de_v 5)))))))))) : DSs _ W0 (defBody s_Makes_made) g_Makes_made)
abbrev s_Makes_numbers : Stmt := inClass (topS 16) 6
theorem sc_Makes_numbers : FnScope ["self"] ["self"] (defScope s_Makes_numbers) := ⟨rfl, rfl, rfl, by decide +kernel, rfl, by decide +kernel, by decide +kernel⟩
noncomputable def g_Makes_numbers : M Out :=
    (retM (frzM (bnd (consM (bnd (getL 0) (fldM "Makes" "kin")) (ret [])) sortedM)))
noncomputable def F_Makes_numbers : Pf := runP 1 g_Makes_numbers
theorem ok_Makes_numbers {P : Program} {wd : World} {K : PySem.W.Frag} {mg : Str → Option Value} {base : Heap} (T : Txt K mg) {x : Str} (F : TopM K x "numbers" "Makes.numbers" s_Makes_numbers ["self"])  : Met P wd K mg base x "numbers" 1 (SpP K 1 F_Makes_numbers) :=
  F.fnP sc_Makes_numbers (by decide) fun f cdv A outer s H E hr =>
    ((dss_one (ds_ret (de_frz (dn_sorted (units_of hr) T.b_sorted (da_cons (de_fld T.cl_Makes T.na_Makes_kin (de_v 0)) da_nil))))) : DSs _ W0 (defBody s_Makes_numbers) g_Makes_numbers)
abbrev s_Shelf_init : Stmt := inClass (topS 18) 0
theorem sc_Shelf_init : FnScope ["self"] ["self"] (defScope s_Shelf_init) := ⟨rfl, rfl, rfl, by decide +kernel, rfl, by decide +kernel, by decide +kernel⟩
noncomputable def g_Shelf_init : M Out :=
    (seqM (fldS "Shelf" "pages" (getL 0) (makeM "Pages" 1 F_Pages_init []))
    (seqM (fldS "Shelf" "makes" (getL 0) (makeM "Makes" 1 F_Makes_init []))
    (fldS "Shelf" "titles" (getL 0) (ownM (ret (.dct []))))))
noncomputable def F_Shelf_init : Sf := runS 1 g_Shelf_init
theorem ok_Shelf_init {P : Program} {wd : World} {K : PySem.W.Frag} {mg : Str → Option Value} {base : Heap} (T : Txt K mg) {x : Str} (F : TopI K mg x "Shelf.__init__" s_Shelf_init ["self"]) (mk_Pages : MkQ P wd K mg base "Pages" 1 (SpS K 1 F_Pages_init)) (mk_Makes : MkQ P wd K mg base "Makes" 2 (SpS K 1 F_Makes_init)) : MkQ P wd K mg base x 4 (SpS K 1 F_Shelf_init) :=
  F.fnS sc_Shelf_init (by decide) fun f cdv A outer s H E hr =>
    ((dss_cons (ds_fld T.cl_Shelf T.na_Shelf_pages (de_v 0) (de_make0 mk_Pages (hr.mono (by decide))))
    (dss_cons (ds_fld T.cl_Shelf T.na_Shelf_makes (de_v 0) (de_make0 mk_Makes (hr.mono (by decide))))
    (dss_one (ds_fld T.cl_Shelf T.na_Shelf_titles (de_v 0) (de_own dn_dict0))))) : DSs _ W0 (defBody s_Shelf_init) g_Shelf_init)
abbrev s_Shelf_named : Stmt := inClass (topS 18) 4
theorem sc_Shelf_named : FnScope ["self", "word"] ["self"] (defScope s_Shelf_named) := ⟨rfl, rfl, rfl, by decide +kernel, rfl, by decide +kernel, by decide +kernel⟩
noncomputable def c_Shelf_named_1 : M Cell :=
    (lcM (bnd (frzM (bnd (consM (bnd (getL 0) (fldM "Shelf" "titles")) (ret [])) sortedM)) seqI) 1 yesM (tupM (consM (getL 1) (consM (bin ixAM (bnd (getL 0) (fldM "Shelf" "titles")) (getL 1)) (ret [])))))
noncomputable def g_Shelf_named : M Out :=
    (retM (ownM c_Shelf_named_1))
noncomputable def F_Shelf_named : Nf := runN 2 g_Shelf_named
theorem ok_Shelf_named {P : Program} {wd : World} {K : PySem.W.Frag} {mg : Str → Option Value} {base : Heap} (T : Txt K mg) {x : Str} (F : TopM K x "named" "Shelf.named" s_Shelf_named ["self"])  : Met P wd K mg base x "named" 1 (SpN K 1 F_Shelf_named) :=
  F.fnN sc_Shelf_named (by decide) fun f cdv A outer s H E hr =>
    ((dss_one (ds_ret (de_own (dn_lc rfl sc_Shelf_named.nd (di_seq (de_frz (dn_sorted (units_of hr) T.b_sorted (da_cons (de_fld T.cl_Shelf T.na_Shelf_titles (de_v 0)) da_nil)))) (blkOk_by (own := [("word", 1)]) (N := ["self", "word"]) (sc := defScope s_Shelf_named) (by decide +kernel)) (fun _ _ _ _ _ => pg_n (i := 1) sc_Shelf_named.nd) (fun _ _ _ _ _ => tests_nil) (fun _ _ _ _ _ => (de_tup (da_cons (de_v 1) (da_cons (de_ixA (hu_of hr) (de_fld T.cl_Shelf T.na_Shelf_titles (de_v 0)) (de_v 1)) da_nil)))))))) : DSs _ W0 (defBody s_Shelf_named) g_Shelf_named)
abbrev s_l_cell_at : Stmt := topS 20
theorem sc_l_cell_at : FnScope ["_law_script", "_law_k"] ["_law_script", "_law_k"] (defScope s_l_cell_at) := ⟨rfl, rfl, rfl, by decide +kernel, rfl, by decide +kernel, by decide +kernel⟩
noncomputable def g_l_cell_at : M Out :=
    (seqM (ifM (tst (bin ltAM (getL 1) (bnd (consM (getL 0) (ret [])) lenM))) (retM (bin ixAM (getL 0) (getL 1))) (ret .nx))
    (retM (ret (.int 0))))
noncomputable def F_l_cell_at : Pf := runP 2 g_l_cell_at
theorem ok_l_cell_at {P : Program} {wd : World} {K : PySem.W.Frag} {mg : Str → Option Value} {base : Heap} (T : Txt K mg) (F : Top K mg "_law_cell_at" s_l_cell_at ["_law_script", "_law_k"])  :
    FnP P wd K mg base "_law_cell_at" 2 1 F_l_cell_at :=
  F.fn sc_l_cell_at (by decide) fun f cdv A outer s H E hr =>
    ((dss_cons (ds_if (dt_cmp (op_ltA (units_of hr)) rop_ltA (de_v 1) (de_len T.b_len (da_cons (de_v 0) da_nil))) (dss_one (ds_ret (de_ixA (hu_of hr) (de_v 0) (de_v 1)))) dss_nil)
    (dss_one (ds_ret de_int))) : DSs _ W0 (defBody s_l_cell_at) g_l_cell_at)
abbrev s_l_mix : Stmt := topS 21
theorem sc_l_mix : FnScope ["_law_cell", "_law_k", "_law_number"] ["_law_cell", "_law_k"] (defScope s_l_mix) := ⟨rfl, rfl, rfl, by decide +kernel, rfl, by decide +kernel, by decide +kernel⟩
noncomputable def g_l_mix : M Out :=
    (seqM (asgM (bin modM (bin mulM (bin addM (bin addM (bin modM (getL 0) (ret (.int 2147483647))) (bin mulM (ret (.int 7919)) (getL 1))) (ret (.int 1))) (ret (.int 48271))) (ret (.int 2147483647))) (setL 2))
    (retM (bin modM (bin addM (bin mulM (getL 2) (getL 2)) (getL 1)) (ret (.int 2147483629)))))
noncomputable def F_l_mix : Pf := runP 3 g_l_mix
theorem ok_l_mix {P : Program} {wd : World} {K : PySem.W.Frag} {mg : Str → Option Value} {base : Heap} (T : Txt K mg) (F : Top K mg "_law_mix" s_l_mix ["_law_cell", "_law_k"])  :
    FnP P wd K mg base "_law_mix" 2 1 F_l_mix :=
  F.fn sc_l_mix (by decide) fun f cdv A outer s H E hr =>
    ((dss_cons (ds_set 2 (de_mod (de_mul (de_add (de_add (de_mod (de_v 0) de_int) (de_mul de_int (de_v 1))) de_int) de_int) de_int) sc_l_mix.nd)
    (dss_one (ds_ret (de_mod (de_add (de_mul (de_v 2) (de_v 2)) (de_v 1)) de_int)))) : DSs _ W0 (defBody s_l_mix) g_l_mix)
abbrev s_l_words : Stmt := topS 22
theorem sc_l_words : FnScope ["_law_cell", "_law_letters", "_law_base", "_law_j", "_law_size", "_law_at", "_law_some", "_law_k", "_law_word"] ["_law_cell"] (defScope s_l_words) := ⟨rfl, rfl, rfl, by decide +kernel, rfl, by decide +kernel, by decide +kernel⟩
noncomputable def c_l_words_1 : M Cell :=
    (lcM (bnd (consM (ret (.int 12)) (ret [])) ran1I) 3 yesM (bin ixAM (getL 1) (bin modM (bnd (consM (getL 0) (consM (getL 3) (ret []))) (callP 2 F_l_mix)) (ret (.int 26)))))
noncomputable def b_l_words_1 : M Out :=
    (seqM (asgM (bin addM (bin addM (slM (getL 2) (ret none) (partM (getL 5))) (bin ixAM (getL 1) (bin modM (bin addM (bnd (consM (getL 0) (consM (getL 5) (ret []))) (callP 2 F_l_mix)) (getL 7)) (ret (.int 26))))) (slM (getL 2) (partM (bin addM (getL 5) (ret (.int 1)))) (ret none))) (setL 8))
    (ifM (tst (bin eqM (bin modM (bin divM (getL 0) (ret (.int 12))) (ret (.int 3))) (ret (.int 0)))) (dropM (methM "list" (getL 6) (consM (slM (getL 8) (ret none) (partM (getL 4))) (ret [])) appM)) (ifM (tst (bin eqM (bin modM (bin divM (getL 0) (ret (.int 12))) (ret (.int 3))) (ret (.int 1)))) (dropM (methM "list" (getL 6) (consM (slM (getL 2) (ret none) (partM (bin addM (ret (.int 1)) (bin modM (bin addM (getL 0) (bin mulM (ret (.int 5)) (getL 7))) (ret (.int 12)))))) (ret [])) appM)) (dropM (methM "list" (getL 6) (consM (slM (getL 8) (ret none) (partM (bnd (consM (bin addM (getL 5) (ret (.int 1))) (consM (bin addM (ret (.int 1)) (bin modM (bin addM (getL 0) (bin mulM (ret (.int 5)) (getL 7))) (ret (.int 12)))) (ret []))) max2M))) (ret [])) appM)))))
noncomputable def g_l_words : M Out :=
    (seqM (asgM (ret (.str "abcdefghijklmnopqrstuvwxyz")) (setL 1))
    (seqM (asgM (jnM (ret (.str "")) (frzM c_l_words_1)) (setL 2))
    (seqM (asgM (bin addM (ret (.int 1)) (bin modM (getL 0) (ret (.int 12)))) (setL 4))
    (seqM (asgM (bin modM (bnd (consM (getL 0) (consM (ret (.int 60)) (ret []))) (callP 2 F_l_mix)) (getL 4)) (setL 5))
    (seqM (asgM (ownM (lstN (ret []))) (setL 6))
    (seqM (forM (bnd (consM (ret (.int 5)) (ret [])) ran1I) (setL 7) b_l_words_1)
    (retM (getL 6))))))))
noncomputable def F_l_words : Pf := runP 9 g_l_words
theorem ok_l_words {P : Program} {wd : World} {K : PySem.W.Frag} {mg : Str → Option Value} {base : Heap} (T : Txt K mg) (F : Top K mg "_law_words" s_l_words ["_law_cell"]) (c_l_mix : FnP P wd K mg base "_law_mix" 2 1 F_l_mix) :
    FnP P wd K mg base "_law_words" 1 2 F_l_words :=
  F.fn sc_l_words (by decide) fun f cdv A outer s H E hr =>
    ((dss_cons (ds_set 1 de_str sc_l_words.nd)
    (dss_cons (ds_set 2 (de_join de_str (de_frz (dn_lc rfl sc_l_words.nd (di_range1 T.b_range (da_cons de_int da_nil)) (blkOk_by (own := [("_law_j", 3)]) (N := ["_law_cell", "_law_letters", "_law_base", "_law_j", "_law_size", "_law_at", "_law_some", "_law_k", "_law_word"]) (sc := defScope s_l_words) (by decide +kernel)) (fun _ _ _ _ _ => pg_n (i := 3) sc_l_words.nd) (fun _ _ _ _ _ => tests_nil) (fun _ _ _ _ _ => (de_ixA (hu_of hr) (de_v 1) (de_mod (de_callP c_l_mix (hr.mono (by decide)) (da_cons (de_v 0) (da_cons (de_v 3) da_nil))) de_int)))))) sc_l_words.nd)
    (dss_cons (ds_set 4 (de_add de_int (de_mod (de_v 0) de_int)) sc_l_words.nd)
    (dss_cons (ds_set 5 (de_mod (de_callP c_l_mix (hr.mono (by decide)) (da_cons (de_v 0) (da_cons de_int da_nil))) (de_v 4)) sc_l_words.nd)
    (dss_cons (ds_set 6 (de_own (dn_lst da_nil)) sc_l_words.nd)
    (dss_cons (ds_for PassesOwn.never rfl (di_range1 T.b_range (da_cons de_int da_nil)) (dg_name sc_l_words.nd) (dss_cons (ds_set 8 (de_add (de_add (de_sl (de_v 2) do_none (do_some (de_v 5))) (de_ixA (hu_of hr) (de_v 1) (de_mod (de_add (de_callP c_l_mix (hr.mono (by decide)) (da_cons (de_v 0) (da_cons (de_v 5) da_nil))) (de_v 7)) de_int))) (de_sl (de_v 2) (do_some (de_add (de_v 5) de_int)) do_none)) sc_l_words.nd)
    (dss_one (ds_if (dt_cmp (op_eqA (units_of hr)) rop_eq (de_mod (de_div (de_v 0) de_int) de_int) de_int) (dss_one (ds_expr (de_append (de_v 6) (da_cons (de_sl (de_v 8) do_none (do_some (de_v 4))) da_nil)))) (dss_one (ds_if (dt_cmp (op_eqA (units_of hr)) rop_eq (de_mod (de_div (de_v 0) de_int) de_int) de_int) (dss_one (ds_expr (de_append (de_v 6) (da_cons (de_sl (de_v 2) do_none (do_some (de_add de_int (de_mod (de_add (de_v 0) (de_mul de_int (de_v 7))) de_int)))) da_nil)))) (dss_one (ds_expr (de_append (de_v 6) (da_cons (de_sl (de_v 8) do_none (do_some (de_callB (call_max2 rfl) rc_max2 T.b_max (da_cons (de_add (de_v 5) de_int) (da_cons (de_add de_int (de_mod (de_add (de_v 0) (de_mul de_int (de_v 7))) de_int)) da_nil)) (by decide +kernel)))) da_nil))))))))))
    (dss_one (ds_ret (de_v 6))))))))) : DSs _ W0 (defBody s_l_words) g_l_words)
abbrev s_l_odd : Stmt := topS 23
theorem sc_l_odd : FnScope ["_law_number", "_law_some"] ["_law_number"] (defScope s_l_odd) := ⟨rfl, rfl, rfl, by decide +kernel, rfl, by decide +kernel, by decide +kernel⟩
noncomputable def g_l_odd : M Out :=
    (seqM (asgM (frzM (lstN (consM (ret (.str "")) (consM (ret (.str "abcdefghijklm")) (consM (ret (.str "Ab")) (consM (ret (.str "a b")) (consM (ret (.str "a1")) (consM (ret (.int 5)) (consM (ret .non) (consM (ret (.bl true)) (consM (frzM (lstN (consM (ret (.str "a")) (ret [])))) (consM (tupM (consM (ret (.str "a")) (ret []))) (consM (frzE (ret (.dct []))) (ret [])))))))))))))) (setL 1))
    (retM (bin ixAM (getL 1) (bin modM (getL 0) (ret (.int 11))))))
noncomputable def F_l_odd : Pf := runP 2 g_l_odd
theorem ok_l_odd {P : Program} {wd : World} {K : PySem.W.Frag} {mg : Str → Option Value} {base : Heap} (T : Txt K mg) (F : Top K mg "_law_odd" s_l_odd ["_law_number"])  :
    FnP P wd K mg base "_law_odd" 1 1 F_l_odd :=
  F.fn sc_l_odd (by decide) fun f cdv A outer s H E hr =>
    ((dss_cons (ds_set 1 (de_frz (dn_lst (da_cons de_str (da_cons de_str (da_cons de_str (da_cons de_str (da_cons de_str (da_cons de_int (da_cons de_non (da_cons de_bl (da_cons (de_frz (dn_lst (da_cons de_str da_nil))) (da_cons (de_tup (da_cons de_str da_nil)) (da_cons (de_frzE dn_dict0) da_nil))))))))))))) sc_l_odd.nd)
    (dss_one (ds_ret (de_ixA (hu_of hr) (de_v 1) (de_mod (de_v 0) de_int))))) : DSs _ W0 (defBody s_l_odd) g_l_odd)
noncomputable def gx_Makes_need : M Out :=
    (seqM (ifM (tst (bin ninAM (getL 1) (bnd (getL 0) (fldM "Makes" "kin")))) (bnd (consM (getL 1) (ret [])) (raiseM "NoMake" ["number"])) (ret .nx))
    (retM (getL 1)))
noncomputable def X_Makes_need : Xf := runXP 2 gx_Makes_need
theorem okx_Makes_need {P : Program} {wd : World} {K : PySem.W.Frag} {mg : Str → Option Value} {base : Heap} (T : Txt K mg) {x : Str} (F : TopM K x "need" "Makes.need" s_Makes_need ["self", "number"]) (e1_NoMake : Xc1 P wd K mg base "NoMake" ["number"] 1) : MetX P wd K mg base x "need" 2 3 X_Makes_need :=
  F.fnXP sc_Makes_need (by decide) fun f cdv A outer s H E hr =>
    ((dss_cons (ds_if (dt_ninA (units_of hr) (de_v 1) (de_fld T.cl_Makes T.na_Makes_kin (de_v 0))) (dss_one (ds_raise1 e1_NoMake (by decide) (by decide) (L2.takes_of rfl rfl rfl rfl) (hr.mono (by decide)) (da_cons (de_v 1) da_nil))) dss_nil)
    (dss_one (ds_ret (de_v 1)))) : DSs _ (LE K mg E) (defBody s_Makes_need) gx_Makes_need)
abbrev s_Makes_elders : Stmt := inClass (topS 16) 3
theorem sc_Makes_elders : FnScope ["self", "number"] ["self", "number"] (defScope s_Makes_elders) := ⟨rfl, rfl, rfl, by decide +kernel, rfl, by decide +kernel, by decide +kernel⟩
noncomputable def gx_Makes_elders : M Out :=
    (retM (bin ixAM (bnd (getL 0) (fldM "Makes" "kin")) (metM "Makes" "need" (getL 0) (consM (getL 1) (ret [])) (callX 2 X_Makes_need))))
noncomputable def X_Makes_elders : Xf := runXP 2 gx_Makes_elders
theorem okx_Makes_elders {P : Program} {wd : World} {K : PySem.W.Frag} {mg : Str → Option Value} {base : Heap} (T : Txt K mg) {x : Str} (F : TopM K x "elders" "Makes.elders" s_Makes_elders ["self", "number"]) (mx_Makes_need : MetX P wd K mg base "Makes" "need" 2 3 X_Makes_need) : MetX P wd K mg base x "elders" 2 4 X_Makes_elders :=
  F.fnXP sc_Makes_elders (by decide) fun f cdv A outer s H E hr =>
    ((dss_one (ds_ret (de_ixA (hu_of hr) (de_fld T.cl_Makes T.na_Makes_kin (de_v 0)) (de_metX T.cl_Makes mx_Makes_need (L2.takes_of rfl rfl rfl rfl) (hr.mono (by decide)) (de_v 0) (da_cons (de_v 1) da_nil))))) : DSs _ (LE K mg E) (defBody s_Makes_elders) gx_Makes_elders)
abbrev s_Shelf_give : Stmt := inClass (topS 18) 1
theorem sc_Shelf_give : FnScope ["self", "word", "number"] ["self", "word", "number"] (defScope s_Shelf_give) := ⟨rfl, rfl, rfl, by decide +kernel, rfl, by decide +kernel, by decide +kernel⟩
noncomputable def gx_Shelf_give : M Out :=
    (seqM (ifM (notT (tst (bnd (consM (getL 1) (ret [])) (callP 1 F_is_word)))) (raiseM "BadWord" [] []) (ret .nx))
    (seqM (dropM (metM "Makes" "elders" (bnd (getL 0) (fldM "Shelf" "makes")) (consM (getL 2) (ret [])) (callX 2 X_Makes_elders)))
    (dputS (bnd (getL 0) (fldM "Shelf" "titles")) (getL 1) (getL 2))))
noncomputable def X_Shelf_give : Xf := runXS 3 gx_Shelf_give
theorem okx_Shelf_give {P : Program} {wd : World} {K : PySem.W.Frag} {mg : Str → Option Value} {base : Heap} (T : Txt K mg) {x : Str} (F : TopM K x "give" "Shelf.give" s_Shelf_give ["self", "word", "number"]) (c_is_word : FnP P wd K mg base "is_word" 1 1 F_is_word) (mx_Makes_elders : MetX P wd K mg base "Makes" "elders" 2 4 X_Makes_elders) : MetX P wd K mg base x "give" 3 5 X_Shelf_give :=
  F.fnXS sc_Shelf_give (by decide) fun f cdv A outer s H E hr =>
    ((dss_cons (ds_if (dt_not (dt_val (de_callP c_is_word (hr.mono (by decide)) (da_cons (de_v 1) da_nil)))) (dss_one (ds_raise0 T.e0_BadWord (L2.takes_of rfl rfl rfl rfl))) dss_nil)
    (dss_cons (ds_expr (de_metX T.cl_Makes mx_Makes_elders (L2.takes_of rfl rfl rfl rfl) (hr.mono (by decide)) (de_fld T.cl_Shelf T.na_Shelf_makes (de_v 0)) (da_cons (de_v 2) da_nil)))
    (dss_one (ds_dput (hu_of hr) (de_fld T.cl_Shelf T.na_Shelf_titles (de_v 0)) (de_v 1) (de_v 2))))) : DSs _ (LE K mg E) (defBody s_Shelf_give) gx_Shelf_give)
abbrev s_Shelf_made_by : Stmt := inClass (topS 18) 2
theorem sc_Shelf_made_by : FnScope ["self", "word"] ["self", "word"] (defScope s_Shelf_made_by) := ⟨rfl, rfl, rfl, by decide +kernel, rfl, by decide +kernel, by decide +kernel⟩
noncomputable def gx_Shelf_made_by : M Out :=
    (seqM (ifM (orT (notT (tst (bnd (consM (getL 1) (ret [])) (callP 1 F_is_word)))) (tst (bin ninAM (getL 1) (bnd (getL 0) (fldM "Shelf" "titles"))))) (bnd (consM (getL 1) (ret [])) (raiseM "NoName" ["word"])) (ret .nx))
    (retM (bin ixAM (bnd (getL 0) (fldM "Shelf" "titles")) (getL 1))))
noncomputable def X_Shelf_made_by : Xf := runXP 2 gx_Shelf_made_by
theorem okx_Shelf_made_by {P : Program} {wd : World} {K : PySem.W.Frag} {mg : Str → Option Value} {base : Heap} (T : Txt K mg) {x : Str} (F : TopM K x "made_by" "Shelf.made_by" s_Shelf_made_by ["self", "word"]) (c_is_word : FnP P wd K mg base "is_word" 1 1 F_is_word) (e1_NoName : Xc1 P wd K mg base "NoName" ["word"] 1) : MetX P wd K mg base x "made_by" 2 3 X_Shelf_made_by :=
  F.fnXP sc_Shelf_made_by (by decide) fun f cdv A outer s H E hr =>
    ((dss_cons (ds_if (dt_w (dw_or (dt_not (dt_val (de_callP c_is_word (hr.mono (by decide)) (da_cons (de_v 1) da_nil)))) (dw_or1 (dt_ninA (units_of hr) (de_v 1) (de_fld T.cl_Shelf T.na_Shelf_titles (de_v 0)))))) (dss_one (ds_raise1 e1_NoName (by decide) (by decide) (L2.takes_of rfl rfl rfl rfl) (hr.mono (by decide)) (da_cons (de_v 1) da_nil))) dss_nil)
    (dss_one (ds_ret (de_ixA (hu_of hr) (de_fld T.cl_Shelf T.na_Shelf_titles (de_v 0)) (de_v 1))))) : DSs _ (LE K mg E) (defBody s_Shelf_made_by) gx_Shelf_made_by)
abbrev s_Shelf_forget : Stmt := inClass (topS 18) 3
theorem sc_Shelf_forget : FnScope ["self", "word"] ["self", "word"] (defScope s_Shelf_forget) := ⟨rfl, rfl, rfl, by decide +kernel, rfl, by decide +kernel, by decide +kernel⟩
noncomputable def gx_Shelf_forget : M Out :=
    (seqM (dropM (metM "Shelf" "made_by" (getL 0) (consM (getL 1) (ret [])) (callX 2 X_Shelf_made_by)))
    (dropM (popE1 (bnd (getL 0) (fldM "Shelf" "titles")) (getL 1))))
noncomputable def X_Shelf_forget : Xf := runXS 2 gx_Shelf_forget
theorem okx_Shelf_forget {P : Program} {wd : World} {K : PySem.W.Frag} {mg : Str → Option Value} {base : Heap} (T : Txt K mg) {x : Str} (F : TopM K x "forget" "Shelf.forget" s_Shelf_forget ["self", "word"]) (mx_Shelf_made_by : MetX P wd K mg base "Shelf" "made_by" 2 3 X_Shelf_made_by) : MetX P wd K mg base x "forget" 2 4 X_Shelf_forget :=
  F.fnXS sc_Shelf_forget (by decide) fun f cdv A outer s H E hr =>
    ((dss_cons (ds_expr (de_metX T.cl_Shelf mx_Shelf_made_by (L2.takes_of rfl rfl rfl rfl) (hr.mono (by decide)) (de_v 0) (da_cons (de_v 1) da_nil)))
    (dss_one (ds_expr (de_pop1 (de_fld T.cl_Shelf T.na_Shelf_titles (de_v 0)) (de_v 1))))) : DSs _ (LE K mg E) (defBody s_Shelf_forget) gx_Shelf_forget)
abbrev s_l_called : Stmt := topS 24
theorem sc_l_called : FnScope ["_law_shelf", "_law_way", "_law_word", "_law_number"] ["_law_shelf", "_law_way", "_law_word", "_law_number"] (defScope s_l_called) := ⟨rfl, rfl, rfl, by decide +kernel, rfl, by decide +kernel, by decide +kernel⟩
noncomputable def gx_l_called : M Out :=
    (seqM (ifM (tst (bin eqM (getL 1) (ret (.int 0)))) (retM (metM "Shelf" "give" (getL 0) (consM (getL 2) (consM (getL 3) (ret []))) (callX 3 X_Shelf_give))) (ret .nx))
    (seqM (ifM (tst (bin eqM (getL 1) (ret (.int 1)))) (retM (metM "Shelf" "made_by" (getL 0) (consM (getL 2) (ret [])) (callX 2 X_Shelf_made_by))) (ret .nx))
    (retM (metM "Shelf" "forget" (getL 0) (consM (getL 2) (ret [])) (callX 2 X_Shelf_forget)))))
noncomputable def X_l_called : Xf := runXS 4 gx_l_called
theorem okx_l_called {P : Program} {wd : World} {K : PySem.W.Frag} {mg : Str → Option Value} {base : Heap} (T : Txt K mg) (F : Top K mg "_law_called" s_l_called ["_law_shelf", "_law_way", "_law_word", "_law_number"]) (mx_Shelf_give : MetX P wd K mg base "Shelf" "give" 3 5 X_Shelf_give) (mx_Shelf_made_by : MetX P wd K mg base "Shelf" "made_by" 2 3 X_Shelf_made_by) (mx_Shelf_forget : MetX P wd K mg base "Shelf" "forget" 2 4 X_Shelf_forget) :
    FnX P wd K mg base "_law_called" 4 6 X_l_called :=
  F.fnXS sc_l_called (by decide) fun f cdv A outer s H E hr =>
    ((dss_cons (ds_if (dt_cmp (op_eqA (units_of hr)) rop_eq (de_v 1) de_int) (dss_one (ds_ret (de_metX T.cl_Shelf mx_Shelf_give (L2.takes_of rfl rfl rfl rfl) (hr.mono (by decide)) (de_v 0) (da_cons (de_v 2) (da_cons (de_v 3) da_nil))))) dss_nil)
    (dss_cons (ds_if (dt_cmp (op_eqA (units_of hr)) rop_eq (de_v 1) de_int) (dss_one (ds_ret (de_metX T.cl_Shelf mx_Shelf_made_by (L2.takes_of rfl rfl rfl rfl) (hr.mono (by decide)) (de_v 0) (da_cons (de_v 2) da_nil)))) dss_nil)
    (dss_one (ds_ret (de_metX T.cl_Shelf mx_Shelf_forget (L2.takes_of rfl rfl rfl rfl) (hr.mono (by decide)) (de_v 0) (da_cons (de_v 2) da_nil)))))) : DSs _ (LE K mg E) (defBody s_l_called) gx_l_called)
abbrev s_l_answer : Stmt := topS 25
theorem sc_l_answer : FnScope ["_law_shelf", "_law_way", "_law_word", "_law_number", "_law_caught", "_law_found", "e"] ["_law_shelf", "_law_way", "_law_word", "_law_number"] (defScope s_l_answer) := ⟨rfl, rfl, rfl, by decide +kernel, rfl, by decide +kernel, by decide +kernel⟩
noncomputable def g_l_answer : M Out :=
    (seqM (asgM (ret .non) (setL 4))
    (seqM (asgM (ret .non) (setL 5))
    (seqM (tryM (asgM (bnd (consM (getL 0) (consM (getL 1) (consM (getL 2) (consM (getL 3) (ret []))))) (callX 4 X_l_called)) (setL 5)) [("BadWord", true), ("NoMake", true), ("NoName", true)] (suK 6 4))
    (seqM (ifM (tst (bin isM (getL 4) (ret .non))) (retM (ownM (lstN (consM (ret (.str "told")) (consM (getL 5) (ret [])))))) (ret .nx))
    (seqM (ifM (tst (bnd (getL 4) (isE [("BadWord", false), ("NoMake", false), ("NoName", true)]))) (retM (ownM (lstN (consM (ret (.str "no name")) (consM (bnd (getL 4) (fldE [("NoName", true)] "word")) (ret [])))))) (ret .nx))
    (seqM (ifM (tst (bnd (getL 4) (isE [("BadWord", false), ("NoMake", true), ("NoName", false)]))) (retM (ownM (lstN (consM (ret (.str "no make")) (consM (bnd (getL 4) (fldE [("NoMake", true)] "number")) (ret [])))))) (ret .nx))
    (retM (ownM (lstN (consM (bin ixAM (frzM (lstN (consM (ret (.str "other")) (consM (ret (.str "bad word")) (ret []))))) (bnd (consM (bnd (getL 4) (isE [("BadWord", true), ("NoMake", false), ("NoName", false)])) (ret [])) intM)) (consM (ret .non) (ret []))))))))))))
noncomputable def F_l_answer : Sf := runS 7 g_l_answer
theorem ok_l_answer {P : Program} {wd : World} {K : PySem.W.Frag} {mg : Str → Option Value} {base : Heap} (T : Txt K mg) (F : Top K mg "_law_answer" s_l_answer ["_law_shelf", "_law_way", "_law_word", "_law_number"]) (cx_l_called : FnX P wd K mg base "_law_called" 4 6 X_l_called) :
    FnS P wd K mg base "_law_answer" 4 7 F_l_answer :=
  F.fnS sc_l_answer (by decide) fun f cdv A outer s H E hr =>
    ((dss_cons (ds_set 4 de_non sc_l_answer.nd)
    (dss_cons (ds_set 5 de_non sc_l_answer.nd)
    (dss_cons (ds_try_keep (i := 6) (j := 4) (n := "e") outW0 takes0 (.cons T.xp_BadWord_TableError (.cons T.xp_NoMake_TableError (.cons T.xp_NoName_TableError .nil))) (.cons T.xk_BadWord (.cons T.xk_NoMake (.cons T.xk_NoName .nil))) T.xn_TableError (by decide) (fun W' pn xe tk po => (dss_one (ds_set 5 (de_callX cx_l_called tk (hr.mono (by decide)) (da_cons (de_v 0) (da_cons (de_v 1) (da_cons (de_v 2) (da_cons (de_v 3) da_nil))))) sc_l_answer.nd))) sc_l_answer.nd)
    (dss_cons (ds_if (dt_cmp op_isN rop_is (de_v 4) de_non) (dss_one (ds_ret (de_own (dn_lst (da_cons de_str (da_cons (de_v 5) da_nil)))))) dss_nil)
    (dss_cons (ds_if (dt_val (de_isE (T := "NoName") (tab := [("BadWord", false), ("NoMake", false), ("NoName", true)]) (.cons T.xi_BadWord_NoName (.cons T.xi_NoMake_NoName (.cons T.xi_NoName_NoName .nil))) (.cons T.xk_BadWord (.cons T.xk_NoMake (.cons T.xk_NoName .nil))) T.xn_NoName T.b_isinstance (de_v 4))) (dss_one (ds_ret (de_own (dn_lst (da_cons de_str (da_cons (de_fldE (tab := [("NoName", true)]) (.cons T.xf_NoName_word .nil) (.cons T.xk_NoName .nil) (de_v 4)) da_nil)))))) dss_nil)
    (dss_cons (ds_if (dt_val (de_isE (T := "NoMake") (tab := [("BadWord", false), ("NoMake", true), ("NoName", false)]) (.cons T.xi_BadWord_NoMake (.cons T.xi_NoMake_NoMake (.cons T.xi_NoName_NoMake .nil))) (.cons T.xk_BadWord (.cons T.xk_NoMake (.cons T.xk_NoName .nil))) T.xn_NoMake T.b_isinstance (de_v 4))) (dss_one (ds_ret (de_own (dn_lst (da_cons de_str (da_cons (de_fldE (tab := [("NoMake", true)]) (.cons T.xf_NoMake_number .nil) (.cons T.xk_NoMake .nil) (de_v 4)) da_nil)))))) dss_nil)
    (dss_one (ds_ret (de_own (dn_lst (da_cons (de_ixA (hu_of hr) (de_frz (dn_lst (da_cons de_str (da_cons de_str da_nil)))) (de_callT call_int1 rc_int T.b_int (da_cons (de_isE (T := "BadWord") (tab := [("BadWord", true), ("NoMake", false), ("NoName", false)]) (.cons T.xi_BadWord_BadWord (.cons T.xi_NoMake_BadWord (.cons T.xi_NoName_BadWord .nil))) (.cons T.xk_BadWord (.cons T.xk_NoMake (.cons T.xk_NoName .nil))) T.xn_BadWord T.b_isinstance (de_v 4)) da_nil) (by decide +kernel))) (da_cons de_non da_nil)))))))))))) : DSs _ W0 (defBody s_l_answer) g_l_answer)
abbrev s_l_due : Stmt := topS 26
theorem sc_l_due : FnScope ["_law_names", "_law_many", "_law_way", "_law_word", "_law_good", "_law_number"] ["_law_names", "_law_many", "_law_way", "_law_word", "_law_good", "_law_number"] (defScope s_l_due) := ⟨rfl, rfl, rfl, by decide +kernel, rfl, by decide +kernel, by decide +kernel⟩
noncomputable def g_l_due : M Out :=
    (seqM (ifM (andT (tst (bin eqM (getL 2) (ret (.int 0)))) (notT (tst (getL 4)))) (retM (ownM (lstN (consM (ret (.str "bad word")) (consM (ret .non) (ret [])))))) (ret .nx))
    (seqM (ifM (andT (tst (bin eqM (getL 2) (ret (.int 0)))) (tst (bin gtM (getL 5) (getL 1)))) (retM (ownM (lstN (consM (ret (.str "no make")) (consM (getL 5) (ret [])))))) (ret .nx))
    (seqM (ifM (tst (bin eqM (getL 2) (ret (.int 0)))) (seqM (dputS (getL 0) (getL 3) (getL 5))
    (retM (ownM (lstN (consM (ret (.str "told")) (consM (ret .non) (ret []))))))) (ret .nx))
    (seqM (ifM (orT (notT (tst (getL 4))) (tst (bin ninAM (getL 3) (getL 0)))) (retM (ownM (lstN (consM (ret (.str "no name")) (consM (getL 3) (ret [])))))) (ret .nx))
    (seqM (asgM (bin ixAM (getL 0) (getL 3)) (setL 5))
    (seqM (ifM (tst (bin eqM (getL 2) (ret (.int 1)))) (retM (ownM (lstN (consM (ret (.str "told")) (consM (getL 5) (ret [])))))) (ret .nx))
    (seqM (dropM (popE1 (getL 0) (getL 3)))
    (retM (ownM (lstN (consM (ret (.str "told")) (consM (ret .non) (ret [])))))))))))))
noncomputable def F_l_due : Sf := runS 6 g_l_due
theorem ok_l_due {P : Program} {wd : World} {K : PySem.W.Frag} {mg : Str → Option Value} {base : Heap} (T : Txt K mg) (F : Top K mg "_law_due" s_l_due ["_law_names", "_law_many", "_law_way", "_law_word", "_law_good", "_law_number"])  :
    FnS P wd K mg base "_law_due" 6 1 F_l_due :=
  F.fnS sc_l_due (by decide) fun f cdv A outer s H E hr =>
    ((dss_cons (ds_if (dt_w (dw_and (dt_cmp (op_eqA (units_of hr)) rop_eq (de_v 2) de_int) (dw_and1 (dt_not (dt_val (de_v 4)))))) (dss_one (ds_ret (de_own (dn_lst (da_cons de_str (da_cons de_non da_nil)))))) dss_nil)
    (dss_cons (ds_if (dt_w (dw_and (dt_cmp (op_eqA (units_of hr)) rop_eq (de_v 2) de_int) (dw_and1 (dt_cmp op_gt rop_gt (de_v 5) (de_v 1))))) (dss_one (ds_ret (de_own (dn_lst (da_cons de_str (da_cons (de_v 5) da_nil)))))) dss_nil)
    (dss_cons (ds_if (dt_cmp (op_eqA (units_of hr)) rop_eq (de_v 2) de_int) (dss_cons (ds_dput (hu_of hr) (de_v 0) (de_v 3) (de_v 5))
    (dss_one (ds_ret (de_own (dn_lst (da_cons de_str (da_cons de_non da_nil))))))) dss_nil)
    (dss_cons (ds_if (dt_w (dw_or (dt_not (dt_val (de_v 4))) (dw_or1 (dt_ninA (units_of hr) (de_v 3) (de_v 0))))) (dss_one (ds_ret (de_own (dn_lst (da_cons de_str (da_cons (de_v 3) da_nil)))))) dss_nil)
    (dss_cons (ds_set 5 (de_ixA (hu_of hr) (de_v 0) (de_v 3)) sc_l_due.nd)
    (dss_cons (ds_if (dt_cmp (op_eqA (units_of hr)) rop_eq (de_v 2) de_int) (dss_one (ds_ret (de_own (dn_lst (da_cons de_str (da_cons (de_v 5) da_nil)))))) dss_nil)
    (dss_cons (ds_expr (de_pop1 (de_v 0) (de_v 3)))
    (dss_one (ds_ret (de_own (dn_lst (da_cons de_str (da_cons de_non da_nil))))))))))))) : DSs _ W0 (defBody s_l_due) g_l_due)
abbrev s_l_same : Stmt := topS 27
theorem sc_l_same : FnScope ["_law_found", "_law_due_here"] ["_law_found", "_law_due_here"] (defScope s_l_same) := ⟨rfl, rfl, rfl, by decide +kernel, rfl, by decide +kernel, by decide +kernel⟩
noncomputable def g_l_same : M Out :=
    (retM (andV (bin eqBM (getL 0) (getL 1)) (bin eqM (bnd (bin ixAM (getL 0) (ret (.int 1))) (isaM "bool")) (bnd (bin ixAM (getL 1) (ret (.int 1))) (isaM "bool")))))
noncomputable def F_l_same : Pf := runP 2 g_l_same
theorem ok_l_same {P : Program} {wd : World} {K : PySem.W.Frag} {mg : Str → Option Value} {base : Heap} (T : Txt K mg) (F : Top K mg "_law_same" s_l_same ["_law_found", "_law_due_here"])  :
    FnP P wd K mg base "_law_same" 2 1 F_l_same :=
  F.fn sc_l_same (by decide) fun f cdv A outer s H E hr =>
    ((dss_one (ds_ret (de_and (de_cmp (op_eqB (units_of2 hr)) rop_eqB (de_v 0) (de_v 1)) (de_one (de_cmp (op_eqA (units_of hr)) rop_eq (de_isa "bool" T.b_isinstance T.b_bool (de_ixA (hu_of hr) (de_v 0) de_int) (by decide +kernel)) (de_isa "bool" T.b_isinstance T.b_bool (de_ixA (hu_of hr) (de_v 1) de_int) (by decide +kernel))))))) : DSs _ W0 (defBody s_l_same) g_l_same)
abbrev s_l_named : Stmt := topS 28
theorem sc_l_named : FnScope ["_law_shelf", "_law_names", "_law_found", "_law_one", "_law_word"] ["_law_shelf", "_law_names"] (defScope s_l_named) := ⟨rfl, rfl, rfl, by decide +kernel, rfl, by decide +kernel, by decide +kernel⟩
noncomputable def b_l_named_1 : M Out :=
    (seqM (ifM (orT (notT (tst (bnd (getL 3) (isaM "tuple")))) (orT (tst (bin neM (bnd (consM (getL 3) (ret [])) lenM) (ret (.int 2)))) (notT (tst (bnd (bin ixAM (getL 3) (ret (.int 0))) (isaM "str")))))) (retM (ret (.bl false))) (ret .nx))
    (ifM (orT (notT (tst (bnd (bin ixAM (getL 3) (ret (.int 1))) (isaM "int")))) (orT (tst (bnd (bin ixAM (getL 3) (ret (.int 1))) (isaM "bool"))) (tst (bin neM (getL 3) (tupM (consM (getL 4) (consM (bin ixAM (getL 1) (getL 4)) (ret [])))))))) (retM (ret (.bl false))) (ret .nx)))
noncomputable def g_l_named : M Out :=
    (seqM (asgM (ownM (metM0 "Shelf" "named" (getL 0) (callN 1 F_Shelf_named))) (setL 2))
    (seqM (ifM (orT (notT (tst (bnd (getL 2) (isaM "list")))) (tst (bin neM (bnd (consM (getL 2) (ret [])) lenM) (bnd (consM (getL 1) (ret [])) lenM)))) (retM (ret (.bl false))) (ret .nx))
    (seqM (forM (bnd (consM (getL 2) (consM (frzM (bnd (consM (getL 1) (ret [])) sortedM)) (ret []))) zipA) (unp2 3 4) b_l_named_1)
    (seqM (dropM (methM "list" (getL 2) (consM (tupM (consM (ret (.str "a")) (consM (ret (.int 0)) (ret [])))) (ret [])) appM))
    (retM (ret (.bl true)))))))
noncomputable def F_l_named : Pf := runP 5 g_l_named
theorem ok_l_named {P : Program} {wd : World} {K : PySem.W.Frag} {mg : Str → Option Value} {base : Heap} (T : Txt K mg) (F : Top K mg "_law_named" s_l_named ["_law_shelf", "_law_names"]) (m_Shelf_named : Met P wd K mg base "Shelf" "named" 1 (SpN K 1 F_Shelf_named)) :
    FnP P wd K mg base "_law_named" 2 2 F_l_named :=
  F.fn sc_l_named (by decide) fun f cdv A outer s H E hr =>
    ((dss_cons (ds_set 2 (de_own (met_call0 T.cl_Shelf m_Shelf_named ans_N (hr.mono (by decide)) (de_v 0))) sc_l_named.nd)
    (dss_cons (ds_if (dt_w (dw_or (dt_not (dt_val (de_isa "list" T.b_isinstance T.b_list (de_v 2) (by decide +kernel)))) (dw_or1 (dt_cmp (op_neA (units_of hr)) rop_ne (de_len T.b_len (da_cons (de_v 2) da_nil)) (de_len T.b_len (da_cons (de_v 1) da_nil)))))) (dss_one (ds_ret de_bl)) dss_nil)
    (dss_cons (ds_for PassesOwn.never rfl (di_zipA T.b_zip (da_cons (de_v 2) (da_cons (de_frz (dn_sorted (units_of hr) T.b_sorted (da_cons (de_v 1) da_nil))) da_nil))) (dg_two rfl sc_l_named.nd) (dss_cons (ds_if (dt_w (dw_or (dt_not (dt_val (de_isa "tuple" T.b_isinstance T.b_tuple (de_v 3) (by decide +kernel)))) (dw_or (dt_cmp (op_neA (units_of hr)) rop_ne (de_len T.b_len (da_cons (de_v 3) da_nil)) de_int) (dw_or1 (dt_not (dt_val (de_isa "str" T.b_isinstance T.b_str (de_ixA (hu_of hr) (de_v 3) de_int) (by decide +kernel)))))))) (dss_one (ds_ret de_bl)) dss_nil)
    (dss_one (ds_if (dt_w (dw_or (dt_not (dt_val (de_isa "int" T.b_isinstance T.b_int (de_ixA (hu_of hr) (de_v 3) de_int) (by decide +kernel)))) (dw_or (dt_val (de_isa "bool" T.b_isinstance T.b_bool (de_ixA (hu_of hr) (de_v 3) de_int) (by decide +kernel))) (dw_or1 (dt_cmp (op_neA (units_of hr)) rop_ne (de_v 3) (de_tup (da_cons (de_v 4) (da_cons (de_ixA (hu_of hr) (de_v 1) (de_v 4)) da_nil)))))))) (dss_one (ds_ret de_bl)) dss_nil))))
    (dss_cons (ds_expr (de_append (de_v 2) (da_cons (de_tup (da_cons de_str (da_cons de_int da_nil))) da_nil)))
    (dss_one (ds_ret de_bl)))))) : DSs _ W0 (defBody s_l_named) g_l_named)
abbrev s_law : Stmt := topS 29
theorem sc_law : FnScope ["_law_script", "_law_shelf", "_law_beside", "_law_many", "_law_k", "_law_some", "_law_names", "_law_cell", "_law_way", "_law_word", "_law_good", "_law_number", "_law_due_here"] ["_law_script"] (defScope s_law) := ⟨rfl, rfl, rfl, by decide +kernel, rfl, by decide +kernel, by decide +kernel⟩
noncomputable def b_law_1 : M Out :=
    (dropM (metM "Makes" "made" (bnd (getL 1) (fldM "Shelf" "makes")) (consM (frzM (lstN (consM (ret (.int 0)) (ret [])))) (consM (callP 0 F_no_table []) (ret []))) (callS 3 F_Makes_made)))
noncomputable def b_law_2 : M Out :=
    (seqM (asgM (bin ixAM (frzM (lstN (consM (ret (.int 0)) (consM (ret (.int 0)) (consM (ret (.int 0)) (consM (ret (.int 1)) (consM (ret (.int 2)) (ret [])))))))) (bin modM (getL 7) (ret (.int 5)))) (setL 8))
    (seqM (asgM (bin ixAM (getL 5) (bin modM (bin divM (getL 7) (ret (.int 5))) (ret (.int 5)))) (setL 9))
    (seqM (asgM (bin gtM (bin modM (bin divM (getL 7) (ret (.int 25))) (ret (.int 5))) (ret (.int 0))) (setL 10))
    (seqM (ifM (notT (tst (getL 10))) (asgM (bnd (consM (bin divM (getL 7) (ret (.int 125))) (ret [])) (callP 1 F_l_odd)) (setL 9)) (ret .nx))
    (seqM (asgM (bin modM (bin divM (getL 7) (ret (.int 125))) (bin addM (getL 3) (ret (.int 2)))) (setL 11))
    (seqM (asgM (bnd (consM (getL 6) (consM (getL 3) (consM (getL 8) (consM (getL 9) (consM (getL 10) (consM (getL 11) (ret []))))))) (callS 6 F_l_due)) (setL 12))
    (seqM (ifM (orT (notT (tst (bnd (consM (bnd (consM (getL 1) (consM (getL 8) (consM (getL 9) (consM (getL 11) (ret []))))) (callS 4 F_l_answer)) (consM (getL 12) (ret []))) (callP 2 F_l_same)))) (notT (tst (bnd (consM (getL 1) (consM (getL 6) (ret []))) (callP 2 F_l_named))))) (retM (ret (.bl false))) (ret .nx))
    (ifM (tst (bin neM (altM (metM0 "Pages" "numbers" (bnd (getL 1) (fldM "Shelf" "makes")) (callP 1 F_Pages_numbers)) (metM0 "Makes" "numbers" (bnd (getL 1) (fldM "Shelf" "makes")) (callP 1 F_Makes_numbers))) (frzM (bnd (bin addM (getL 3) (ret (.int 1))) fun d => listRan [d])))) (retM (ret (.bl false))) (ret .nx)))))))))
noncomputable def g_law : M Out :=
    (seqM (asgM (makeM "Shelf" 1 F_Shelf_init []) (setL 1))
    (seqM (asgM (makeM "Shelf" 1 F_Shelf_init []) (setL 2))
    (seqM (asgM (bin modM (bnd (consM (getL 0) (consM (ret (.int 0)) (ret []))) (callP 2 F_l_cell_at)) (ret (.int 5))) (setL 3))
    (seqM (forM (bnd (consM (getL 3) (ret [])) ran1I) (setL 4) b_law_1)
    (seqM (asgM (bnd (consM (bnd (consM (getL 0) (consM (ret (.int 1)) (ret []))) (callP 2 F_l_cell_at)) (ret [])) (callP 1 F_l_words)) (setL 5))
    (seqM (asgM (ownM (ret (.dct []))) (setL 6))
    (seqM (forM (bnd (slM (getL 0) (partM (ret (.int 2))) (partM (ret (.int 60)))) seqI) (setL 7) b_law_2)
    (seqM (asgM (frzM (lstN (consM (ret (.str "no name")) (consM (bin ixAM (getL 5) (ret (.int 0))) (ret []))))) (setL 12))
    (retM (andV (bnd (consM (getL 1) (consM (getL 6) (ret []))) (callP 2 F_l_named)) (andV (bin eqM (frzM (metM0 "Shelf" "named" (getL 2) (callN 1 F_Shelf_named))) (frzM (lstN (ret [])))) (bin eqM (bnd (consM (getL 2) (consM (ret (.int 1)) (consM (bin ixAM (getL 5) (ret (.int 0))) (consM (ret (.int 0)) (ret []))))) (callS 4 F_l_answer)) (getL 12)))))))))))))
noncomputable def F_law : Pf := runP 13 g_law
theorem ok_law {P : Program} {wd : World} {K : PySem.W.Frag} {mg : Str → Option Value} (T : Txt K mg) (F : Top K mg "law" s_law ["_law_script"])
    (C : ∀ base : Heap, K.In base → base.Ns mainGlobals mg → FnP P wd K mg base "_law_cell_at" 2 1 F_l_cell_at ∧ FnP P wd K mg base "no_table" 0 1 F_no_table ∧ FnP P wd K mg base "_law_words" 1 2 F_l_words ∧ FnP P wd K mg base "_law_odd" 1 1 F_l_odd ∧ FnS P wd K mg base "_law_due" 6 1 F_l_due ∧ FnP P wd K mg base "_law_same" 2 1 F_l_same ∧ FnS P wd K mg base "_law_answer" 4 7 F_l_answer ∧ FnP P wd K mg base "_law_named" 2 2 F_l_named ∧ Met P wd K mg base "Makes" "made" 2 (SpS K 3 F_Makes_made) ∧ Met P wd K mg base "Pages" "numbers" 1 (SpP K 1 F_Pages_numbers) ∧ Met P wd K mg base "Makes" "numbers" 1 (SpP K 1 F_Makes_numbers) ∧ Met P wd K mg base "Shelf" "named" 1 (SpN K 1 F_Shelf_named) ∧ MkQ P wd K mg base "Shelf" 4 (SpS K 1 F_Shelf_init) ∧ True) :
    ∃ (fa : Addr) (fd : FuncData), mg "law" = some (.ref fa) ∧ (∀ (s : Shared) (u : Value), BindsTo s fd ⟨[u], []⟩ [("_law_script", u)]) ∧ ∀ base : Heap, K.In base → base.Ns mainGlobals mg → FnOk P wd K mg base CX0 8 fa fd ["_law_script"] (SpP K 1 F_law) :=
  F.law sc_law (by decide) fun base X0 G0 f cdv A outer s H E hr => let ⟨c_l_cell_at, c_no_table, c_l_words, c_l_odd, c_l_due, c_l_same, c_l_answer, c_l_named, m_Makes_made, m_Pages_numbers, m_Makes_numbers, m_Shelf_named, mk_Shelf, _⟩ := C base X0 G0
    ((dss_cons (ds_set 1 (de_make0 mk_Shelf (hr.mono (by decide))) sc_law.nd)
    (dss_cons (ds_set 2 (de_make0 mk_Shelf (hr.mono (by decide))) sc_law.nd)
    (dss_cons (ds_set 3 (de_mod (de_callP c_l_cell_at (hr.mono (by decide)) (da_cons (de_v 0) (da_cons de_int da_nil))) de_int) sc_law.nd)
    (dss_cons (ds_for PassesOwn.never rfl (di_range1 T.b_range (da_cons (de_v 3) da_nil)) (dg_name sc_law.nd) (dss_one (ds_expr (met_call T.cl_Makes m_Makes_made ans_S (hr.mono (by decide)) (de_fld T.cl_Shelf T.na_Shelf_makes (de_v 1)) (da_cons (de_frz (dn_lst (da_cons de_int da_nil))) (da_cons (fn_call0 c_no_table.q ans_P (hr.mono (by decide))) da_nil))))))
    (dss_cons (ds_set 5 (de_callP c_l_words (hr.mono (by decide)) (da_cons (de_callP c_l_cell_at (hr.mono (by decide)) (da_cons (de_v 0) (da_cons de_int da_nil))) da_nil)) sc_law.nd)
    (dss_cons (ds_set 6 (de_own dn_dict0) sc_law.nd)
    (dss_cons (ds_for PassesOwn.never rfl (di_seq (de_sl (de_v 0) (do_some de_int) (do_some de_int))) (dg_name sc_law.nd) (dss_cons (ds_set 8 (de_ixA (hu_of hr) (de_frz (dn_lst (da_cons de_int (da_cons de_int (da_cons de_int (da_cons de_int (da_cons de_int da_nil))))))) (de_mod (de_v 7) de_int)) sc_law.nd)
    (dss_cons (ds_set 9 (de_ixA (hu_of hr) (de_v 5) (de_mod (de_div (de_v 7) de_int) de_int)) sc_law.nd)
    (dss_cons (ds_set 10 (de_cmp op_gt rop_gt (de_mod (de_div (de_v 7) de_int) de_int) de_int) sc_law.nd)
    (dss_cons (ds_if (dt_not (dt_val (de_v 10))) (dss_one (ds_set 9 (de_callP c_l_odd (hr.mono (by decide)) (da_cons (de_div (de_v 7) de_int) da_nil)) sc_law.nd)) dss_nil)
    (dss_cons (ds_set 11 (de_mod (de_div (de_v 7) de_int) (de_add (de_v 3) de_int)) sc_law.nd)
    (dss_cons (ds_set 12 (de_callS c_l_due (hr.mono (by decide)) (da_cons (de_v 6) (da_cons (de_v 3) (da_cons (de_v 8) (da_cons (de_v 9) (da_cons (de_v 10) (da_cons (de_v 11) da_nil))))))) sc_law.nd)
    (dss_cons (ds_if (dt_w (dw_or (dt_not (dt_val (de_callP c_l_same (hr.mono (by decide)) (da_cons (de_callS c_l_answer (hr.mono (by decide)) (da_cons (de_v 1) (da_cons (de_v 8) (da_cons (de_v 9) (da_cons (de_v 11) da_nil))))) (da_cons (de_v 12) da_nil))))) (dw_or1 (dt_not (dt_val (de_callP c_l_named (hr.mono (by decide)) (da_cons (de_v 1) (da_cons (de_v 6) da_nil)))))))) (dss_one (ds_ret de_bl)) dss_nil)
    (dss_one (ds_if (dt_cmp (op_neA (units_of hr)) rop_ne (de_alt (met_call0 T.cl_Pages m_Pages_numbers ans_P (hr.mono (by decide)) (de_fld T.cl_Shelf T.na_Shelf_makes (de_v 1))) (met_call0 T.cl_Makes m_Makes_numbers ans_P (hr.mono (by decide)) (de_fld T.cl_Shelf T.na_Shelf_makes (de_v 1)))) (de_frz (dn_listRan T.b_list T.b_range (de_add (de_v 3) de_int)))) (dss_one (ds_ret de_bl)) dss_nil))))))))))
    (dss_cons (ds_set 12 (de_frz (dn_lst (da_cons de_str (da_cons (de_ixA (hu_of hr) (de_v 5) de_int) da_nil)))) sc_law.nd)
    (dss_one (ds_ret (de_and (de_callP c_l_named (hr.mono (by decide)) (da_cons (de_v 1) (da_cons (de_v 6) da_nil))) (de_and (de_cmp (op_eqA (units_of hr)) rop_eq (de_frz (met_call0 T.cl_Shelf m_Shelf_named ans_N (hr.mono (by decide)) (de_v 2))) (de_frz (dn_lst da_nil))) (de_one (de_cmp (op_eqA (units_of hr)) rop_eq (de_callS c_l_answer (hr.mono (by decide)) (da_cons (de_v 2) (da_cons de_int (da_cons (de_ixA (hu_of hr) (de_v 5) de_int) (da_cons de_int da_nil))))) (de_v 12))))))))))))))) : DSs _ W0 (defBody s_law) g_law)
end Wktwigtable_k71_names

namespace My
open PySem PySem.Spec PyProof.Rows L2 Fx Wktwigtable_k71_names
local macro_rules | `(tactic| walk_at "fy") => `(tactic| simp (disch := first | rfl | decide | omega | assumption | (simp only [List.length_append, List.length_cons, List.length_nil, List.length_take, List.length_drop, List.length_map]; omega)) only [x_unp2, x_unp3, x_unpP, x_lputS, x_getE1, x_getE2, x_popE1, x_popE2, x_updE, x_onD, x_npop, x_revT, x_revL, keyD_int, keyD_str, x_alt, x_altO, x_altB, x_altI, x_at0, x_at1, x_at2, x_at3, x_st0, x_st1, x_st2, x_fld, x_fldS, x_sto, x_met, x_metK, x_met0, x_metK0, x_callN, x_callNR, x_callS, x_callSR, x_make, x_mkR, x_ixC, x_ixCd, x_ixCl, x_ixAL, x_ixAT, x_ixAS, x_ixD, x_dstR, x_inC, x_ninC, x_inS, x_ninS, x_inCd, x_inCl, x_inL, x_ninL, x_dputS, x_dput, x_dputT, x_dputR, x_pair, x_keyI, x_keyS, x_dsp, x_merge1, x_isTyC, x_intB, x_intI, x_neg, x_maxl, x_minl, Int.reduceEq, Int.reduceMod, Int.reduceAdd, Int.reduceSub, Int.reduceMul, Int.reduceLT, Int.reduceLE, x_ran1, x_ran2, eq_self, x_lstO, x_isTyR, x_app, x_appR, x_meth0, x_clrC, x_clrR, x_seqC, x_seqCR, x_lenC, x_lenR, x_lenRd, x_isaC, x_isaR, x_isaRd, x_sortSet, x_lk0, x_lk1, x_lk2, x_lk3, x_lk4, x_eqIs, x_neIs, List.append_assoc, List.length_append, Nat.reduceLeDiff, x_min2, x_max2, beq_true, beq_false, x_lisL, x_lisT, litD, Option.isSome_some, Option.isSome_none, x_bnd, x_ok, x_ret, x_fail, x_ite, x_iteM, x_bad, x_get, x_look, x_set, x_seq, x_nx, x_rt, x_brk, x_cnt, x_bad2, x_ite2, x_asg, x_retM, x_drop, x_if, x_itM, x_asB, x_bin, x_tst, x_and, x_or, x_not, x_andT, x_orT, x_notT, x_cons, x_call, x_callR, x_isa, x_sub, x_add, x_mul, x_mod, x_div, x_pow, x_lt, x_le, x_gt, x_ge, x_eqI, x_neI, x_true, x_false, x_aug, x_augF, x_forM, x_frz, x_lst, x_tup, x_lenL, x_ixL, x_ixT, x_opt, x_slL, x_slM, x_slVL, x_slVTx, x_part, x_lenTx, x_addTx, cutS_take, cutS_drop, cutS_drop1, x_seqL, x_seqT,
  initS, List.map_cons, List.map_nil, List.length_cons, List.length_nil, List.cons_append, List.nil_append, List.append_nil, tyName, x_join, x_slS, x_eqS, x_neS, x_eqB, x_neB, tx_app, tx_len, x_is1, x_is2, x_is3, x_is4, x_is5, x_isn1, x_isn2, x_isn3, x_isn4, x_isn5, x_meth, isTy_last, x_own, cd_nil, isa_int_NoneType, isa_int_bool, isa_int_int, isa_int_str, isa_int_tuple, isa_int_list, isa_int_dict, isa_bool_NoneType, isa_bool_bool, isa_bool_int, isa_bool_str, isa_bool_tuple, isa_bool_list, isa_bool_dict, isa_str_NoneType, isa_str_bool, isa_str_int, isa_str_str, isa_str_tuple, isa_str_list, isa_str_dict, isa_tuple_NoneType, isa_tuple_bool, isa_tuple_int, isa_tuple_str, isa_tuple_tuple, isa_tuple_list, isa_tuple_dict, isa_list_NoneType, isa_list_bool, isa_list_int, isa_list_str, isa_list_tuple, isa_list_list, isa_list_dict, isa_dict_NoneType, isa_dict_bool, isa_dict_int, isa_dict_str, isa_dict_tuple, isa_dict_list, isa_dict_dict, decide_eq_true_eq, decide_true, decide_false, Nat.reduceAdd, Nat.reduceSub, Nat.zero_add, List.replicate, List.replicate_succ, List.replicate_zero, List.getElem?_cons_zero, List.getElem?_cons_succ, List.set_cons_zero, List.set_cons_succ, Bool.not_true, Bool.not_false, if_true, if_false, Bool.false_eq_true, ite_true, ite_false, beq_self_eq_true, Bool.or_true, Bool.true_or, Bool.or_false, Bool.false_or, Bool.and_true, Bool.and_false, Bool.true_and, Bool.false_and, Int.reduceToNat])
local macro_rules | `(tactic| walk_at "fyh") => `(tactic| simp (disch := first | rfl | decide | omega | assumption | (simp only [List.length_append, List.length_cons, List.length_nil, List.length_take, List.length_drop, List.length_map]; omega)) only [*, x_unp2, x_unp3, x_unpP, x_lputS, x_getE1, x_getE2, x_popE1, x_popE2, x_updE, x_onD, x_npop, x_revT, x_revL, keyD_int, keyD_str, x_alt, x_altO, x_altB, x_altI, x_at0, x_at1, x_at2, x_at3, x_st0, x_st1, x_st2, x_fld, x_fldS, x_sto, x_met, x_metK, x_met0, x_metK0, x_callN, x_callNR, x_callS, x_callSR, x_make, x_mkR, x_ixC, x_ixCd, x_ixCl, x_ixAL, x_ixAT, x_ixAS, x_ixD, x_dstR, x_inC, x_ninC, x_inS, x_ninS, x_inCd, x_inCl, x_inL, x_ninL, x_dputS, x_dput, x_dputT, x_dputR, x_pair, x_keyI, x_keyS, x_dsp, x_merge1, x_isTyC, x_intB, x_intI, x_neg, x_maxl, x_minl, Int.reduceEq, Int.reduceMod, Int.reduceAdd, Int.reduceSub, Int.reduceMul, Int.reduceLT, Int.reduceLE, x_ran1, x_ran2, eq_self, x_lstO, x_isTyR, x_app, x_appR, x_meth0, x_clrC, x_clrR, x_seqC, x_seqCR, x_lenC, x_lenR, x_lenRd, x_isaC, x_isaR, x_isaRd, x_sortSet, x_lk0, x_lk1, x_lk2, x_lk3, x_lk4, x_eqIs, x_neIs, List.append_assoc, List.length_append, Nat.reduceLeDiff, x_min2, x_max2, beq_true, beq_false, x_lisL, x_lisT, litD, Option.isSome_some, Option.isSome_none, x_bnd, x_ok, x_ret, x_fail, x_ite, x_iteM, x_bad, x_get, x_look, x_set, x_seq, x_nx, x_rt, x_brk, x_cnt, x_bad2, x_ite2, x_asg, x_retM, x_drop, x_if, x_itM, x_asB, x_bin, x_tst, x_and, x_or, x_not, x_andT, x_orT, x_notT, x_cons, x_call, x_callR, x_isa, x_sub, x_add, x_mul, x_mod, x_div, x_pow, x_lt, x_le, x_gt, x_ge, x_eqI, x_neI, x_true, x_false, x_aug, x_augF, x_forM, x_frz, x_lst, x_tup, x_lenL, x_ixL, x_ixT, x_opt, x_slL, x_slM, x_slVL, x_slVTx, x_part, x_lenTx, x_addTx, cutS_take, cutS_drop, cutS_drop1, x_seqL, x_seqT,
  initS, List.map_cons, List.map_nil, List.length_cons, List.length_nil, List.cons_append, List.nil_append, List.append_nil, tyName, x_join, x_slS, x_eqS, x_neS, x_eqB, x_neB, tx_app, tx_len, x_is1, x_is2, x_is3, x_is4, x_is5, x_isn1, x_isn2, x_isn3, x_isn4, x_isn5, x_meth, isTy_last, x_own, cd_nil, isa_int_NoneType, isa_int_bool, isa_int_int, isa_int_str, isa_int_tuple, isa_int_list, isa_int_dict, isa_bool_NoneType, isa_bool_bool, isa_bool_int, isa_bool_str, isa_bool_tuple, isa_bool_list, isa_bool_dict, isa_str_NoneType, isa_str_bool, isa_str_int, isa_str_str, isa_str_tuple, isa_str_list, isa_str_dict, isa_tuple_NoneType, isa_tuple_bool, isa_tuple_int, isa_tuple_str, isa_tuple_tuple, isa_tuple_list, isa_tuple_dict, isa_list_NoneType, isa_list_bool, isa_list_int, isa_list_str, isa_list_tuple, isa_list_list, isa_list_dict, isa_dict_NoneType, isa_dict_bool, isa_dict_int, isa_dict_str, isa_dict_tuple, isa_dict_list, isa_dict_dict, decide_eq_true_eq, decide_true, decide_false, Nat.reduceAdd, Nat.reduceSub, Nat.zero_add, List.replicate, List.replicate_succ, List.replicate_zero, List.getElem?_cons_zero, List.getElem?_cons_succ, List.set_cons_zero, List.set_cons_succ, Bool.not_true, Bool.not_false, if_true, if_false, Bool.false_eq_true, ite_true, ite_false, beq_self_eq_true, Bool.or_true, Bool.true_or, Bool.or_false, Bool.false_or, Bool.and_true, Bool.and_false, Bool.true_and, Bool.false_and, Int.reduceToNat])
/-! drawn numbers -/
theorem lgI (x : Int) (h : -(2 ^ 200) < x) (h2 : x < 2 ^ 200) : x.natAbs.log2 < 200 := log2_of (by decide) (by omega)
/-! lines of elders, plainly -/
inductive Anc (e : Int → List Int) : Int → Int → Prop
  | refl (k : Int) : Anc e k k
  | step {k a b : Int} (h : a ∈ e k) (t : Anc e a b) : Anc e k b
theorem Anc.snoc {e : Int → List Int} {k a b : Int} (h : Anc e k a) (q : b ∈ e a) : Anc e k b := by
  induction h with
  | refl k => exact .step q (.refl _)
  | step h _ ih => exact .step h (ih q)
theorem Anc.trans {e : Int → List Int} {k a b : Int} (h : Anc e k a) (q : Anc e a b) : Anc e k b := by
  induction h with
  | refl k => exact q
  | step h _ ih => exact .step h (ih q)
/-- elders are lesser numbers, none below nought -/
def Wf (e : Int → List Int) : Prop := ∀ k a, a ∈ e k → 0 ≤ a ∧ a < k
theorem Anc.le {e : Int → List Int} (w : Wf e) {k a : Int} (h : Anc e k a) : a ≤ k := by
  induction h with
  | refl k => exact Int.le_refl _
  | step h _ ih => have := w _ _ h; omega
def lnA (e : Int → List Int) : Nat → Int → List Int
  | 0, k => [k]
  | f + 1, k => setZ (k :: (e k).flatMap (lnA e f))
def ln (e : Int → List Int) (k : Int) : List Int := lnA e k.toNat k
/-! makes, kept with what else there is -/
def mkO (a b : Nat) (n : Int) : Cell := .obj "Makes" [("kin", .cell a), ("states", .cell b), ("count", .int n)]
theorem f_kin {a b : Nat} {n : Int} {s : S} : fldR "Makes" "kin" (some (mkO a b n)) s = .ok (.cell a) s := nr rfl
theorem f_states {a b : Nat} {n : Int} {s : S} : fldR "Makes" "states" (some (mkO a b n)) s = .ok (.cell b) s := nr rfl
theorem f_count {a b : Nat} {n : Int} {s : S} : fldR "Makes" "count" (some (mkO a b n)) s = .ok (.int n) s := nr rfl
theorem s_count {a b i : Nat} {n m : Int} {s : S} : stoR "Makes" "count" (.int m) i (some (mkO a b n)) s = .ok .nx ⟨s.loc, s.vh.set i (mkO a b m)⟩ := nr rfl
theorem m_need {a b : Nat} {n : Int} {r : Res D} : metR "Makes" "need" (some (mkO a b n)) r = r := nr rfl
theorem m_elders {a b : Nat} {n : Int} {r : Res D} : metR "Makes" "elders" (some (mkO a b n)) r = r := nr rfl
theorem m_table {a b : Nat} {n : Int} {r : Res D} : metR "Makes" "table" (some (mkO a b n)) r = r := nr rfl
theorem m_made {a b : Nat} {n : Int} {r : Res D} : metR "Makes" "made" (some (mkO a b n)) r = r := nr rfl
theorem m_line {a b : Nat} {n : Int} {r : Res Cell} : metR "Makes" "line" (some (mkO a b n)) r = r := nr rfl
theorem m_numbers {a b : Nat} {n : Int} {r : Res Cell} : metR "Makes" "numbers" (some (mkO a b n)) r = r := nr rfl
theorem m_dealt {a b : Nat} {n : Int} {r : Res D} : metR "Makes" "dealt" (some (mkO a b n)) r = r := nr rfl
local macro_rules | `(tactic| walk_at "fz") => `(tactic| ((try walk_at "fyh"); repeat (simp only [f_kin, f_states, f_count, s_count, m_need, m_elders, m_table, m_made, m_line, m_numbers, m_dealt]; try walk_at "fyh")))
abbrev tupI (es : List Int) : D := .tup (es.map D.int)
def kinD (ks : List Int) (e : Int → List Int) : List (Key × D) := ks.map fun n => (Sum.inl n, tupI (e n))
def tabD (ks : List Int) (t : Int → D) : List (Key × D) := ks.map fun n => (Sum.inl n, t n)
theorem kin_val {ks : List Int} {e : Int → List Int} {k : Int} : valA (kinD ks e) (.inl k) = if k ∈ ks then some (tupI (e k)) else none := valA_map (v := fun n => tupI (e n))
def setF {α : Type} (e : Int → α) (k : Int) (x : α) : Int → α := fun n => if n = k then x else e n
theorem map_set {α β : Type} {ks : List Int} {e : Int → α} {k : Int} {x : α} (h : k ∉ ks) (f : Int → α → β) : (ks.map fun n => f n (setF e k x n)) = ks.map fun n => f n (e n) := List.map_congr_left fun n hn => by
  have e : n ≠ k := fun z => h (by rw [← z]; exact hn)
  unfold setF
  rw [if_neg e]
theorem kin_put {ks : List Int} {e : Int → List Int} {k : Int} (h : k ∉ ks) (es : List Int) : putA (kinD ks e) (.inl k) (tupI es) = kinD (ks ++ [k]) (setF e k es) := by
  unfold kinD
  rw [putA_new (v := fun n => tupI (e n)) h, List.map_append, map_set h fun n es => ((Sum.inl n : Key), tupI es)]
  show _ = _ ++ [((Sum.inl k : Key), tupI (setF e k es k))]
  unfold setF
  rw [if_pos rfl]
theorem tab_put {ks : List Int} {t : Int → D} {k : Int} (h : k ∉ ks) (d : D) : putA (tabD ks t) (.inl k) d = tabD (ks ++ [k]) (setF t k d) := by
  unfold tabD
  rw [putA_new (v := t) h, List.map_append, map_set h fun n d => ((Sum.inl n : Key), d)]
  show _ = _ ++ [((Sum.inl k : Key), setF t k d k)]
  unfold setF
  rw [if_pos rfl]
structure MA (vh : List Cell) (i a b : Nat) (ks : List Int) (e : Int → List Int) (t : Int → D) (n : Int) : Prop where
  o : vh[i]? = some (mkO a b n)
  k : vh[a]? = some (.dct (kinD ks e))
  s : vh[b]? = some (.dct (tabD ks t))
  ne : i ≠ a ∧ i ≠ b ∧ a ≠ b
  nd : ks.Nodup
  few : ks.length < 64
theorem MA.app {vh : List Cell} {i a b : Nat} {ks : List Int} {e : Int → List Int} {t : Int → D} {n : Int} (h : MA vh i a b ks e t n) (more : List Cell) : MA (vh ++ more) i a b ks e t n := ⟨look_app h.o more, look_app h.k more, look_app h.s more, h.ne, h.nd, h.few⟩
section
variable {vh : List Cell} {i a b : Nat} {ks : List Int} {e : Int → List Int} {t : Int → D} {n : Int}
theorem t_need (M : MA vh i a b ks e t n) {k : Int} (hk : k ∈ ks) : F_Makes_need [.cell i, .int k] vh = some (.int k) := by
  refine runP_of ?_ rfl
  unfold g_Makes_need
  have h1 := M.o
  have h2 := M.k
  walk_at "fz"
  rw [kin_val, if_pos hk]
  walk_at "fy"
  exact ⟨_, rfl⟩
theorem ncL_tup (c : Nat) (es : List Int) : nc c (tupI es) = true := ncL_ints c es
/-! a new make -/
def outM (vh : List Cell) (i a b : Nat) (ks : List Int) (e : Int → List Int) (t : Int → D) (n : Int) (es : List Int) (tb : D) : List Cell := ((vh.set a (.dct (kinD (ks ++ [n]) (setF e n es)))).set b (.dct (tabD (ks ++ [n]) (setF t n tb)))).set i (mkO a b (n + 1))
theorem outM_len : (outM vh i a b ks e t n es tb).length = vh.length := by unfold outM; rw [List.length_set, List.length_set, List.length_set]
theorem MA.out (M : MA vh i a b ks e t n) (hn : n ∉ ks) (es : List Int) (tb : D) (hl : ks.length < 63) : MA (outM vh i a b ks e t n es tb) i a b (ks ++ [n]) (setF e n es) (setF t n tb) (n + 1) := by
  have l1 := (List.getElem?_eq_some_iff.mp M.o).1
  have l2 := (List.getElem?_eq_some_iff.mp M.k).1
  have l3 := (List.getElem?_eq_some_iff.mp M.s).1
  have ⟨n1, n2, n3⟩ := M.ne
  unfold outM
  refine ⟨?_, ?_, ?_, M.ne, List.nodup_append.mpr ⟨M.nd, by simp, fun x hx y hy => by rw [List.mem_singleton.mp hy]; exact fun z => hn (z ▸ hx)⟩, by rw [List.length_append]; exact Nat.succ_lt_succ hl⟩
  · rw [List.getElem?_set_self (by rw [List.length_set, List.length_set]; exact l1)]
  · rw [List.getElem?_set_ne n1, List.getElem?_set_ne (Ne.symm n3), List.getElem?_set_self l2]
  · rw [List.getElem?_set_ne n2, List.getElem?_set_self (by rw [List.length_set]; exact l3)]
theorem t_made (M : MA vh i a b ks e t n) (hn : n ∉ ks) (hl : ks.length < 63) {es : List Int} (h1 : es.length < 64) (h2 : 1 ≤ (setZ es).length) (h3 : (setZ es).length ≤ 2) (hin : ∀ x ∈ es, x ∈ ks) {tb : D} :
    F_Makes_made [.cell i, .lst (es.map D.int), tb] vh = some (.int n, outM vh i a b ks e t n (setZ es) tb) := by
  have q1 := M.o
  have q2 := M.k
  have q3 := M.s
  have ⟨n1, n2, n3⟩ := M.ne
  have l1 : (kinD ks e).length < 16777216 := by unfold kinD; rw [List.length_map]; omega
  have l2 : (tabD ks t).length < 16777216 := by unfold tabD; rw [List.length_map]; omega
  have key : ∃ l, g_Makes_made (initS 6 [.cell i, .lst (es.map D.int), tb] vh) = .ok (.rt (.int n)) ⟨l, outM vh i a b ks e t n (setZ es) tb⟩ := by
    unfold g_Makes_made
    walk_at "fy"
    rw [List.length_map, if_neg (by omega), if_neg (by omega)]
    try walk_at "fy"
    obtain ⟨s2, h, x, hs⟩ := loopM_run (ok := fun s' => itemsOf s' (.lst ((setZ es).map D.int)) = some ((setZ es).map D.int)) (t := setL 4) (b := b_Makes_made_1) (fun _ s => ∃ x, s = ⟨[some (.cell i), some (.lst (es.map D.int)), some tb, some (.lst ((setZ es).map D.int)), x, none], vh⟩) ((setZ es).map D.int) ⟨[some (.cell i), some (.lst (es.map D.int)), some tb, some (.lst ((setZ es).map D.int)), none, none], vh⟩ (fun _ _ _ => rfl)
      (fun j d s hj ⟨x, hs⟩ => by
        subst hs
        obtain ⟨z, hz, rfl⟩ := mem_ints (List.mem_of_getElem? hj)
        refine ⟨_, rfl, _, .inl ?_, some (.int z), rfl⟩
        have h3 := t_need M (hin z ((mem_setZ es).mp hz))
        unfold b_Makes_made_1
        walk_at "fz") ⟨none, rfl⟩
    subst hs
    rw [h]
    have q4 : (vh.set a (.dct (kinD (ks ++ [n]) (setF e n (setZ es)))))[i]? = some (mkO a b n) := by rw [List.getElem?_set_ne (Ne.symm n1)]; exact q1
    have q5 : (vh.set a (.dct (kinD (ks ++ [n]) (setF e n (setZ es)))))[b]? = some (.dct (tabD ks t)) := by rw [List.getElem?_set_ne n3]; exact q3
    have q6 : ((vh.set a (.dct (kinD (ks ++ [n]) (setF e n (setZ es))))).set b (.dct (tabD (ks ++ [n]) (setF t n tb))))[i]? = some (mkO a b n) := by rw [List.getElem?_set_ne (Ne.symm n2)]; exact q4
    have q7 : tupleM [D.lst ((setZ es).map D.int)] = fun s => .ok (tupI (setZ es)) s := rfl
    walk_at "fz"
    simp only [kin_put hn]
    walk_at "fz"
    simp only [tab_put hn]
    try walk_at "fz"
    try unfold outM
    exact ⟨_, rfl⟩
  obtain ⟨l, key⟩ := key
  exact runS_of ⟨l, key⟩
end
section
variable {vh : List Cell} {i a b : Nat} {ks : List Int} {e : Int → List Int} {t : Int → D} {n : Int}
/-! the line -/
/-- one elder: noted, and to be looked at, where it is new -/
def stepE (p : List Int × List Int) (x : Int) : List Int × List Int := if x ∈ p.2 then p else (p.1 ++ [x], p.2 ++ [x])
/-! what the search keeps -/
structure Seen (e : Int → List Int) (ks : List Int) (k : Int) (td kn : List Int) : Prop where
  nd : kn.Nodup
  nt : td.Nodup
  sub : ∀ x ∈ td, x ∈ kn
  re : ∀ x ∈ kn, Anc e k x
  inn : ∀ x ∈ kn, x ∈ ks
  cl : ∀ x ∈ kn, x ∉ td → ∀ y ∈ e x, y ∈ kn
  top : k ∈ kn
theorem foldE_spec : ∀ (xs : List Int) (td kn : List Int), kn.Nodup → td.Nodup → (∀ x ∈ td, x ∈ kn) →
    (xs.foldl stepE (td, kn)).2.Nodup ∧ (xs.foldl stepE (td, kn)).1.Nodup ∧ (∀ x ∈ (xs.foldl stepE (td, kn)).1, x ∈ (xs.foldl stepE (td, kn)).2) ∧ (∀ x, x ∈ (xs.foldl stepE (td, kn)).2 ↔ x ∈ kn ∨ x ∈ xs) ∧
    (∀ x ∈ (xs.foldl stepE (td, kn)).2, x ∉ (xs.foldl stepE (td, kn)).1 → x ∈ kn ∧ x ∉ td) ∧ (xs.foldl stepE (td, kn)).1.length + kn.length = (xs.foldl stepE (td, kn)).2.length + td.length
  | [], td, kn, h1, h2, h3 => ⟨h1, h2, h3, fun x => by simp, fun x hx h => ⟨hx, h⟩, Nat.add_comm _ _⟩
  | x :: r, td, kn, h1, h2, h3 => by
    rw [List.foldl_cons]
    by_cases c : x ∈ kn
    · have e1 : stepE (td, kn) x = (td, kn) := if_pos c
      rw [e1]
      obtain ⟨q1, q2, q3, q4, q5, q6⟩ := foldE_spec r td kn h1 h2 h3
      refine ⟨q1, q2, q3, fun z => ?_, q5, q6⟩
      rw [q4, List.mem_cons]
      constructor
      · rintro (h | h)
        · exact .inl h
        · exact .inr (.inr h)
      · rintro (h | h | h)
        · exact .inl h
        · rw [h]; exact .inl c
        · exact .inr h
    · have e1 : stepE (td, kn) x = (td ++ [x], kn ++ [x]) := if_neg c
      rw [e1]
      have hx : x ∉ td := fun z => c (h3 x z)
      obtain ⟨q1, q2, q3, q4, q5, q6⟩ := foldE_spec r (td ++ [x]) (kn ++ [x]) (List.nodup_append.mpr ⟨h1, by simp, fun a ha b hb => by rw [List.mem_singleton.mp hb]; exact fun z => c (z ▸ ha)⟩) (List.nodup_append.mpr ⟨h2, by simp, fun a ha b hb => by rw [List.mem_singleton.mp hb]; exact fun z => hx (z ▸ ha)⟩)
        (fun z hz => by rcases List.mem_append.mp hz with h | h; exact List.mem_append_left _ (h3 z h); exact List.mem_append_right _ h)
      refine ⟨q1, q2, q3, fun z => ?_, fun z hz hn => ?_, ?_⟩
      · rw [q4, List.mem_append, List.mem_singleton, List.mem_cons, or_assoc]
      · obtain ⟨r1, r2⟩ := q5 z hz hn
        rw [List.mem_append, not_or] at r2
        rcases List.mem_append.mp r1 with h | h
        · exact ⟨h, r2.1⟩
        · exact absurd h r2.2
      · simp only [List.length_append, List.length_singleton] at q6; omega
theorem Seen.turn {e : Int → List Int} {ks : List Int} {k y : Int} {td kn : List Int} (h : Seen e ks k (td ++ [y]) kn) (hc : ∀ x ∈ ks, ∀ z ∈ e x, z ∈ ks) : Seen e ks k ((e y).foldl stepE (td, kn)).1 ((e y).foldl stepE (td, kn)).2 ∧
    ((e y).foldl stepE (td, kn)).1.length + kn.length = ((e y).foldl stepE (td, kn)).2.length + td.length := by
  have ⟨n1, _, n2⟩ := List.nodup_append.mp h.nt
  have hy : y ∈ kn := h.sub y (by simp)
  obtain ⟨q1, q2, q3, q4, q5, q6⟩ := foldE_spec (e y) td kn h.nd n1 fun x hx => h.sub x (List.mem_append_left _ hx)
  refine ⟨⟨q1, q2, q3, fun x hx => ?_, fun x hx => ?_, fun x hx hn z hz => ?_, (q4 k).mpr (.inl h.top)⟩, q6⟩
  · rcases (q4 x).mp hx with z | z
    · exact h.re x z
    · exact (h.re y hy).snoc z
  · rcases (q4 x).mp hx with z | z
    · exact h.inn x z
    · exact hc y (h.inn y hy) x z
  · rw [q4]
    obtain ⟨r1, r2⟩ := q5 x hx hn
    by_cases c : x = y
    · subst c; exact .inr hz
    · exact .inl (h.cl x r1 (fun w => by rcases List.mem_append.mp w with w | w; exact r2 w; exact c (List.mem_singleton.mp w)) z hz)
theorem Seen.done {e : Int → List Int} {ks : List Int} {k : Int} {kn : List Int} (h : Seen e ks k [] kn) (x : Int) : x ∈ kn ↔ Anc e k x := by
  constructor
  · exact h.re x
  · intro q
    have main : ∀ {a x : Int}, Anc e a x → a ∈ kn → x ∈ kn := fun {a x} q => by
      induction q with
      | refl k => exact id
      | step h1 _ ih => exact fun ha => ih (h.cl _ ha (by simp) _ h1)
    exact main q h.top
end
section
variable {vh : List Cell} {i a b : Nat} {ks : List Int} {e : Int → List Int} {t : Int → D} {n : Int}
end
section
variable {vh : List Cell} {i a b : Nat} {ks : List Int} {e : Int → List Int} {t : Int → D} {n : Int}
end
/-! the law's own lines -/
def KinOk (kin : List (List Int)) : Prop := ∀ (k : Nat) es, kin[k]? = some es → (∀ a ∈ es, 0 ≤ a ∧ a < (k : Int)) ∧ es.length ≤ 2
def rangeI (n : Nat) : List Int := (List.range n).map fun k : Nat => (k : Int)
theorem mem_rangeI {n : Nat} {k : Int} : k ∈ rangeI n ↔ 0 ≤ k ∧ k < (n : Int) := by
  unfold rangeI
  rw [List.mem_map]
  constructor
  · rintro ⟨j, h, rfl⟩
    rw [List.mem_range] at h
    omega
  · rintro ⟨h1, h2⟩
    exact ⟨k.toNat, List.mem_range.mpr (by omega), by omega⟩
theorem rangeI_succ (n : Nat) : rangeI (n + 1) = rangeI n ++ [(n : Int)] := by
  unfold rangeI
  rw [List.range_succ, List.map_append]
  rfl
theorem rangeI_nd (n : Nat) : (rangeI n).Nodup := by
  induction n with
  | zero => exact List.Pairwise.nil
  | succ n ih =>
    rw [rangeI_succ]
    refine List.nodup_append.mpr ⟨ih, by simp, fun a ha b hb => ?_⟩
    rw [List.mem_singleton] at hb
    have := mem_rangeI.mp ha
    omega
theorem rangeI_len (n : Nat) : (rangeI n).length = n := by unfold rangeI; rw [List.length_map, List.length_range]
theorem KinOk.snoc {kin : List (List Int)} (h : KinOk kin) {es : List Int} (h1 : ∀ a ∈ es, 0 ≤ a ∧ a < (kin.length : Int)) (h2 : es.length ≤ 2) : KinOk (kin ++ [es]) := fun k xs e => by
  by_cases hk : k < kin.length
  · rw [List.getElem?_append_left hk] at e
    exact h k xs e
  · have hk2 := (List.getElem?_eq_some_iff.mp e).1
    rw [List.length_append, List.length_singleton] at hk2
    have : k = kin.length := by omega
    subst this
    rw [List.getElem?_append_right (Nat.le_refl _), Nat.sub_self] at e
    cases e
    exact ⟨h1, h2⟩
/-! the first make -/
def noT : D := .tup [.tup [], .non]
theorem i_kin {v : D} {n : Nat} {s : S} : stoR "Makes" "kin" v n (some (.obj "Makes" [])) s = .ok .nx ⟨s.loc, s.vh.set n (.obj "Makes" [("kin", v)])⟩ := nr rfl
theorem i_states {v u : D} {n : Nat} {s : S} : stoR "Makes" "states" v n (some (.obj "Makes" [("kin", u)])) s = .ok .nx ⟨s.loc, s.vh.set n (.obj "Makes" [("kin", u), ("states", v)])⟩ := nr rfl
theorem i_count {v u w : D} {n : Nat} {s : S} : stoR "Makes" "count" v n (some (.obj "Makes" [("kin", u), ("states", w)])) s = .ok .nx ⟨s.loc, s.vh.set n (.obj "Makes" [("kin", u), ("states", w), ("count", v)])⟩ := nr rfl
theorem t_init (vh : List Cell) : F_Makes_init [.cell vh.length] (vh ++ [.obj "Makes" []]) = some (.non, vh ++ [mkO (vh.length + 1) (vh.length + 2) 1, .dct [(.inl 0, .tup [])], .dct [(.inl 0, noT)]]) := by
  have e0 : ∀ vh, F_no_table [] vh = some noT := fun vh => by
    refine runP_of ?_ rfl
    unfold g_no_table
    walk_at "fy"
    exact ⟨_, rfl⟩
  refine runS_nx ?_
  unfold g_Makes_init
  walk_at "fyh"
  simp only [i_kin]
  walk_at "fyh"
  simp only [i_states]
  walk_at "fyh"
  simp only [i_count]
  walk_at "fyh"
  exact ⟨_, rfl⟩
/-! the law's drawn elders -/
/-! makes that refuse -/
theorem x_excT {α β : Type} {e : Ex} {s : S} {k : α → M β} : (Res.exc e s : Res α).then' k = .exc e s := nr rfl
theorem x_excA {e : Ex} {s : S} {q : M Out} : (Res.exc e s : Res Out).andThen q = .exc e s := nr rfl
section
variable {α : Type} {a b : Nat} {n : Int} {r : Res α}
theorem mx_need : metR "Makes" "need" (some (mkO a b n)) r = r := nr rfl
theorem mx_elders : metR "Makes" "elders" (some (mkO a b n)) r = r := nr rfl
theorem mx_table : metR "Makes" "table" (some (mkO a b n)) r = r := nr rfl
theorem mx_made : metR "Makes" "made" (some (mkO a b n)) r = r := nr rfl
theorem mx_line : metR "Makes" "line" (some (mkO a b n)) r = r := nr rfl
theorem mx_drop : metR "Makes" "drop" (some (mkO a b n)) r = r := nr rfl
theorem mx_skip : metR "Makes" "skip" (some (mkO a b n)) r = r := nr rfl
end
local macro_rules | `(tactic| walk_at "fe") => `(tactic| ((try walk_at "fz"); repeat (simp (disch := first | rfl | decide | omega | assumption) only [*, x_callX, x_rzO, x_rzE, x_raise, x_try, x_tryO, x_excT, x_excA, mx_need, mx_elders, mx_table, mx_made, mx_line, mx_drop, mx_skip, List.length_cons, List.length_nil, Nat.reduceAdd, if_true, List.zip_cons_cons, List.zip_nil_right, List.zip_nil_left, List.reverse_cons, List.reverse_nil, List.nil_append]; try walk_at "fz")))
def noM (k : Int) : Ex := ⟨"NoMake", [("number", .int k)]⟩
theorem runXP_ok {n : Nat} {g : M Out} {ds : List D} {vh more : List Cell} {d : D} (h : ∃ l, g (initS n ds vh) = .ok (.rt d) ⟨l, vh ++ more⟩) (hn : nc vh.length d = true) : runXP n g ds vh = .ok d vh := by
  have := runP_more (n := n) (g := g) (ds := ds) (vh := vh) (d := d) (by obtain ⟨l, h⟩ := h; exact ⟨l, more, h⟩) hn
  obtain ⟨l, h⟩ := h
  unfold runP at this
  unfold runXP
  rw [h] at this ⊢
  dsimp only at this ⊢
  rw [this]
  rfl
section
variable {vh : List Cell} {i a b : Nat} {ks : List Int} {e : Int → List Int} {t : Int → D} {n : Int}
theorem xt_need (M : MA vh i a b ks e t n) {k : Int} (hk : k ∈ ks) : X_Makes_need [.cell i, .int k] vh = .ok (.int k) vh := by
  refine runXP_ok (more := []) ?_ rfl
  rw [List.append_nil]
  unfold gx_Makes_need
  have h1 := M.o
  have h2 := M.k
  walk_at "fz"
  rw [kin_val, if_pos hk]
  walk_at "fy"
  exact ⟨_, rfl⟩
theorem xe_need (M : MA vh i a b ks e t n) {k : Int} (hk : k ∉ ks) : X_Makes_need [.cell i, .int k] vh = .exc (noM k) vh := by
  refine runXP_ex (more := []) ?_ rfl
  rw [List.append_nil]
  unfold gx_Makes_need noM
  have h1 := M.o
  have h2 := M.k
  walk_at "fz"
  rw [kin_val, if_neg hk]
  walk_at "fe"
  exact ⟨_, rfl⟩
theorem xt_elders (M : MA vh i a b ks e t n) {k : Int} (hk : k ∈ ks) : X_Makes_elders [.cell i, .int k] vh = .ok (tupI (e k)) vh := by
  refine runXP_ok (more := []) ?_ (ncL_tup _ _)
  rw [List.append_nil]
  have h1 := M.o
  have h2 := M.k
  have h3 := xt_need M hk
  have h4 : valA (kinD ks e) (.inl k) = some (tupI (e k)) := by rw [kin_val, if_pos hk]
  unfold gx_Makes_elders
  clear M
  walk_at "fe"
  exact ⟨_, rfl⟩
theorem xe_elders (M : MA vh i a b ks e t n) {k : Int} (hk : k ∉ ks) : X_Makes_elders [.cell i, .int k] vh = .exc (noM k) vh := by
  refine runXP_ex (more := []) ?_ rfl
  rw [List.append_nil]
  have h1 := M.o
  have h2 := M.k
  have h3 := xe_need M hk
  unfold gx_Makes_elders
  clear M
  walk_at "fe"
  exact ⟨_, rfl⟩
end
/-! a cell of the script -/
abbrev txD (cs : List Nat) : D := .str (tx cs)
/-! k71: names in a dict, words -/
theorem ncL_all {n : Nat} : ∀ {ds : List D}, (∀ d ∈ ds, nc n d = true) → ncL n ds = true
  | [], _ => rfl
  | d :: ds, h => by
    show (nc n d && ncL n ds) = true
    rw [h d List.mem_cons_self, ncL_all fun x hx => h x (List.mem_cons_of_mem _ hx)]
    rfl
theorem loop0 {ok : Fx.S → Prop} {t : D → M Out} {b : M Out} {s : Fx.S} (h : ok s) : loopM ok t b [] s = .ok .nx s := by
  rw [loopM]
  exact if_pos h
theorem loopS {ok : Fx.S → Prop} {t : D → M Out} {b : M Out} {d : D} {items : List D} {s s1 s2 : Fx.S} (h0 : ok s) (h1 : t d s = .ok .nx s1) (h2 : b s1 = .ok .nx s2) : loopM ok t b (d :: items) s = loopM ok t b items s2 := by
  rw [loopM]
  refine (if_pos h0).trans ?_
  rw [h1]
  dsimp only
  rw [h2]
theorem loopR {ok : Fx.S → Prop} {t : D → M Out} {b : M Out} {d v : D} {items : List D} {s s1 s2 : Fx.S} (h0 : ok s) (h1 : t d s = .ok .nx s1) (h2 : b s1 = .ok (.rt v) s2) : loopM ok t b (d :: items) s = .ok (.rt v) s2 := by
  rw [loopM]
  refine (if_pos h0).trans ?_
  rw [h1]
  dsimp only
  rw [h2]

theorem signs_tx (cs : List Nat) : Fx.signs (tx cs) = cs.map fun c => D.str (tx [c]) := by unfold Fx.signs; rw [tx_tl]; rfl
theorem x_seqTx {cs : List Nat} {s : S} : seqI (.str (tx cs)) s = .ok ⟨cs.map fun c => D.str (tx [c]), fun s' => itemsOf s' (.str (tx cs)) = some (cs.map fun c => D.str (tx [c]))⟩ s := by rw [x_seqS, signs_tx]
def sortW (xs : List (List Nat)) : List (List Nat) := xs.mergeSort fun a b => !decide (b < a)
theorem sortW_perm (xs : List (List Nat)) : (sortW xs).Perm xs := List.mergeSort_perm _ _
theorem sortT_tx (xs : List (List Nat)) : sortT (xs.map tx) = (sortW xs).map tx := by
  unfold sortT sortW
  rw [List.map_mergeSort (s := leT)]
  intro a _ b _
  unfold leT
  rw [tx_tl, tx_tl]
theorem txs_str (xs : List (List Nat)) : xs.map txD = (xs.map tx).map D.str := by rw [List.map_map]; rfl
def AL : List Nat := cd "abcdefghijklmnopqrstuvwxyz"
theorem AL_len : AL.length = 26 := by decide +kernel
theorem AL_at : ∀ i : Fin 26, AL[i.val]? = some (97 + i.val) := by decide +kernel
theorem x_al {n : Int} {s : S} (h0 : 0 ≤ n) (h1 : n < 26) : ixM (.str (tx AL)) (.int n) s = .ok (.str (tx [97 + n.toNat])) s := by
  obtain ⟨k, rfl⟩ := Int.eq_ofNat_of_zero_le h0
  rw [x_ixS (by rw [AL_len]; omega), atI_ofNat (by rw [AL_len]; omega), AL_at ⟨k, by omega⟩, Int.toNat_natCast]
  rfl
def mxv (c k : Int) : Int := ((c % 2147483647 + 7919 * k + 1) * 48271 % 2147483647 * ((c % 2147483647 + 7919 * k + 1) * 48271 % 2147483647) + k) % 2147483629
theorem t_mxv (c k : Int) (hk : 0 ≤ k ∧ k ≤ 100000) : ∀ vh, F_l_mix [.int c, .int k] vh = some (.int (mxv c k)) := by
  have a1 : (7919 : Int).natAbs.log2 + k.natAbs.log2 < 100000000 := by have := lgI 7919 (by decide) (by decide); have := lgI k (by omega) (by omega); omega
  obtain ⟨m, hm⟩ : ∃ m, m = c % 2147483647 + 7919 * k + 1 := ⟨_, rfl⟩
  have m0 : 0 ≤ m ∧ m < 21474836470 := by omega
  have a2 : m.natAbs.log2 + (48271 : Int).natAbs.log2 < 100000000 := by have := lgI m (by omega) (by omega); have := lgI 48271 (by decide) (by decide); omega
  obtain ⟨n, hn⟩ : ∃ n, n = m * 48271 % 2147483647 := ⟨_, rfl⟩
  have n0 : 0 ≤ n ∧ n < 2147483647 := by omega
  have a3 : n.natAbs.log2 + n.natAbs.log2 < 100000000 := by have := lgI n (by omega) (by omega); omega
  refine fun vh => runP_of ?_ rfl
  unfold mxv
  subst hn
  subst hm
  clear n0 m0
  unfold g_l_mix
  walk_at "fy"
  exact ⟨_, rfl⟩
theorem loop_nx {ok : Fx.S → Prop} {b : M Out} {x0 : Option D} {vh : List Cell} (hok : ∀ s, ok s) : ∀ (ds : List D) (x1 : Option D), (∀ d ∈ ds, b ⟨[x0, some d], vh⟩ = .ok .nx ⟨[x0, some d], vh⟩) → ∃ y1, loopM ok (setL 1) b ds ⟨[x0, x1], vh⟩ = .ok .nx ⟨[x0, y1], vh⟩
  | [], x1, h => ⟨x1, loop0 (hok _)⟩
  | d :: ds, x1, h => by
    obtain ⟨y1, r⟩ := loop_nx hok ds (some d) fun e he => h e (List.mem_cons_of_mem _ he)
    exact ⟨y1, (loopS (hok _) rfl (h d List.mem_cons_self)).trans r⟩
theorem AL_mem (c : Nat) (h : 97 ≤ c ∧ c ≤ 122) : c ∈ AL := by
  have := AL_at ⟨c - 97, by omega⟩
  dsimp only at this
  rw [show 97 + (c - 97) = c by omega] at this
  exact List.mem_of_getElem? this
theorem x_ninAL {c : Nat} (h : 97 ≤ c ∧ c ≤ 122) (s : Fx.S) : ninAM (.str (tx [c])) (.str (tx (cd "abcdefghijklmnopqrstuvwxyz"))) s = .ok (.bl false) s := by
  have e : ninAM (.str (tx [c])) (.str (tx AL)) s = .ok (.bl (decide (c ∈ (tx AL).cps.toList) == false)) s := rfl
  have e2 : (tx AL).cps.toList = AL := tx_tl _
  rw [e2, decide_eq_true (AL_mem c h)] at e
  exact e
theorem t_isword {cs : List Nat} (h : ∀ c ∈ cs, 97 ≤ c ∧ c ≤ 122) (h1 : 1 ≤ cs.length) (h2 : cs.length ≤ 12) (vh : List Cell) : F_is_word [.str (tx cs)] vh = some (.bl true) := by
  obtain ⟨y1, lp⟩ := loop_nx (ok := fun s' => itemsOf s' (.str (tx cs)) = some (cs.map fun c => D.str (tx [c]))) (b := b_is_word_1) (x0 := some (.str (tx cs))) (vh := vh) (fun s => by show some (Fx.signs (tx cs)) = _; rw [signs_tx]) (cs.map fun c => D.str (tx [c])) none fun d hd => by
    obtain ⟨c, hc, rfl⟩ := List.mem_map.mp hd
    have nn := x_ninAL (h c hc)
    clear h hd hc
    generalize (tx [c]) = C at *
    unfold b_is_word_1
    walk_at "fyh"
  refine runP_of ⟨[some (.str (tx cs)), y1], ?_⟩ rfl
  have ln : ∀ s, lenM [.str (tx cs)] s = .ok (.int (cs.length : Nat)) s := fun s => x_lenTx (by omega)
  have l1 : ∀ s, ltAM (.int (cs.length : Nat)) (.int 1) s = .ok (.bl false) s := fun s => by
    show Res.ok (D.bl (decide _)) s = _
    rw [decide_eq_false (by omega)]
  have l2 : ∀ s, gtM (.int (cs.length : Nat)) (.int 12) s = .ok (.bl false) s := fun s => by
    rw [x_gt, decide_eq_false (by omega)]
  have sq := fun s => x_seqTx (cs := cs) (s := s)
  clear h h1 h2
  generalize (cs.length : Int) = LN at *
  generalize cs.map (fun c => D.str (tx [c])) = CS at *
  generalize tx cs = C at *
  unfold g_is_word
  walk_at "fyh"
theorem strK_map : ∀ {kvs : List (Key × D)} {ns : List (List Nat)}, (kvs.map (·.1) = ns.map fun n => Sum.inr (tx n)) → strKs kvs = some (ns.map tx)
  | [], [], _ => rfl
  | [], n :: ns, h => by cases h
  | kv :: r, [], h => by cases h
  | (k, d) :: r, n :: ns, h => by
    rw [List.map_cons, List.map_cons] at h
    injection h with a1 a2
    have a1 : k = .inr (tx n) := a1
    subst a1
    unfold strKs
    rw [strK_map a2]
    rfl
theorem sorted_dct {q : Nat} {kvs : List (Key × D)} {ns : List (List Nat)} (hk : kvs.map (·.1) = ns.map fun n => Sum.inr (tx n)) (hn : ns.length < 64) {s : Fx.S} (h : s.vh[q]? = some (.dct kvs)) : sortedM [.cell q] s = .ok (.lst ((sortW ns).map txD)) s := by
  have d1 : dctR s (.cell q) = some kvs := by unfold dctR; dsimp only; rw [h]
  have l1 : lstOf s (.cell q) = none := by unfold lstOf; dsimp only; rw [h]
  have e1 : sortI1 [.cell q] s = .bad := by unfold sortI1; dsimp only; rw [l1]
  have e2 : sortI2 [.cell q] s = .bad := by unfold sortI2; dsimp only; rw [l1]
  have e4 : sortI4 [.cell q] s = .ok (.lst ((sortW ns).map txD)) s := by
    unfold sortI4
    dsimp only
    rw [d1]
    dsimp only
    rw [strK_map hk]
    dsimp only
    rw [if_pos (by rw [List.length_map]; exact hn), sortT_tx, txs_str]
  have e3 : sortI3 [.cell q] s = .bad ∨ sortI3 [.cell q] s = .ok (.lst ((sortW ns).map txD)) s := by
    unfold sortI3
    dsimp only
    rw [d1]
    dsimp only
    cases kvs with
    | nil =>
      cases ns with
      | nil =>
        right
        have z1 : sortZ [] = [] := List.length_eq_zero_iff.mp (sortZ_perm []).length_eq
        have z2 : sortW [] = [] := List.length_eq_zero_iff.mp (sortW_perm []).length_eq
        rw [z2]
        show (if ([] : List Int).length < 64 then Res.ok (Cell.lst ((sortZ []).map D.int)) s else Res.bad) = _
        rw [if_pos (by decide), z1]
        rfl
      | cons n r => cases hk
    | cons kv r =>
      left
      cases ns with
      | nil => cases hk
      | cons n ns =>
        rw [List.map_cons, List.map_cons] at hk
        injection hk with a1 a2
        obtain ⟨k, d⟩ := kv
        have a1 : k = .inr (tx n) := a1
        subst a1
        rfl
  unfold sortedM altM
  rw [e1]
  dsimp only
  rw [e2]
  dsimp only
  rcases e3 with e3 | e3
  · rw [e3]; exact e4
  · rw [e3]
section
variable {u : List Cell} {n : Nat} {kvs : List (Key × D)}
theorem dt_nin (h : u[n]? = some (.dct kvs)) (w : List Nat) (l : List (Option D)) : ninAM (txD w) (.cell n) ⟨l, u⟩ = .ok (.bl (!(valA kvs (.inr (tx w))).isSome)) ⟨l, u⟩ := by
  have e : ∀ b : Bool, (b == false) = !b := fun b => by cases b <;> rfl
  show ninAM (.str (tx w)) (.cell n) _ = _
  rw [x_ninS, show (⟨l, u⟩ : Fx.S).vh[n]? = some (.dct kvs) from h, x_inCd, e]
theorem dt_put (h : u[n]? = some (.dct kvs)) (hl : kvs.length < 16777216) (w : List Nat) (v : D) (l : List (Option D)) : dputM v (.cell n) (txD w) ⟨l, u⟩ = .ok .nx ⟨l, u.set n (.dct (putA kvs (.inr (tx w)) v))⟩ := by
  show dputM v (.cell n) (.str (tx w)) _ = _
  rw [x_dputT, show (⟨l, u⟩ : Fx.S).vh[n]? = some (.dct kvs) from h, x_dputR hl]
theorem dt_ix (h : u[n]? = some (.dct kvs)) (w : List Nat) {v : D} (hv : valA kvs (.inr (tx w)) = some v) (l : List (Option D)) : ixAM (.cell n) (txD w) ⟨l, u⟩ = .ok v ⟨l, u⟩ := by
  show ixAM (.cell n) (.str (tx w)) _ = _
  rw [x_ixD, show (⟨l, u⟩ : Fx.S).vh[n]? = some (.dct kvs) from h]
  show Res.opt (valA kvs (.inr (tx w))) _ = _
  rw [hv]; rfl
theorem dt_pop (h : u[n]? = some (.dct kvs)) (w : List Nat) {v : D} (hv : valA kvs (.inr (tx w)) = some v) (l : List (Option D)) : popDM (.cell n) (txD w) none ⟨l, u⟩ = .ok v ⟨l, u.set n (.dct (dropA kvs (.inr (tx w))))⟩ := x_popM h (show keyD (.str (tx w)) = some (.inr (tx w)) from rfl) hv
theorem dt_len (h : u[n]? = some (.dct kvs)) (l : List (Option D)) : lenM [.cell n] ⟨l, u⟩ = .ok (.int kvs.length) ⟨l, u⟩ := by
  rw [x_lenC, show (⟨l, u⟩ : Fx.S).vh[n]? = some (.dct kvs) from h, x_lenRd]
end
/-! k71: a shelf's names -/
theorem at_hd (d : D) (r : List D) : atI (d :: r) 0 = some d := by
  unfold atI
  rw [show ixN (d :: r).length 0 = some 0 by rw [List.length_cons]; simp [ixN]]
  rfl
theorem at_snd (d e : D) (r : List D) : atI (d :: e :: r) 1 = some e := by
  unfold atI
  rw [show ixN (d :: e :: r).length 1 = some 1 by rw [List.length_cons, List.length_cons]; simp [ixN] <;> omega]
  rfl
def shO (p m t : Nat) : Cell := .obj "Shelf" [("pages", .cell p), ("makes", .cell m), ("titles", .cell t)]
theorem fs_makes {p m t : Nat} {s : Fx.S} : fldR "Shelf" "makes" (some (shO p m t)) s = .ok (.cell m) s := nr rfl
theorem fs_titles {p m t : Nat} {s : Fx.S} : fldR "Shelf" "titles" (some (shO p m t)) s = .ok (.cell t) s := nr rfl
section
variable {α : Type} {p m t : Nat} {r : Res α}
theorem ms_give : metR "Shelf" "give" (some (shO p m t)) r = r := nr rfl
theorem ms_made : metR "Shelf" "made_by" (some (shO p m t)) r = r := nr rfl
theorem ms_forget : metR "Shelf" "forget" (some (shO p m t)) r = r := nr rfl
theorem ms_named : metR "Shelf" "named" (some (shO p m t)) r = r := nr rfl
end
theorem x_tryK {tab : List (Str × Bool)} {su : Ex → M Out} {x : Str} {fs : List (Str × D)} {s : Fx.S} (h : tab.lookup x = some true) : tryR tab su (.exc ⟨x, fs⟩ s) = su ⟨x, fs⟩ s := x_tryE h
local macro_rules | `(tactic| walk_at "fe") => `(tactic| ((try walk_at "fz"); repeat (simp (disch := first | decide | rfl | omega | assumption | (simp only [List.length_cons, List.length_nil]; omega)) only [*, fs_makes, fs_titles, ms_give, ms_made, ms_forget, ms_named, x_callX, x_rzO, x_rzE, x_raise, x_try, x_tryK, x_tryO, x_excT, x_excA, x_isEt, x_isEf, x_suK, x_isErr, x_isnErr, mx_need, mx_elders, x_ixAL, x_ixAT, at_hd, at_snd, List.length_cons, List.length_nil, Nat.reduceAdd, if_true, List.zip_cons_cons, List.zip_nil_right, List.zip_nil_left, List.reverse_cons, List.reverse_nil, List.nil_append]; try walk_at "fz")))
def badW : Ex := ⟨"BadWord", []⟩
def noN (d : D) : Ex := ⟨"NoName", [("word", d)]⟩
/-- the shelf stands, its names are kvs -/
structure Sh (u : List Cell) (i p m t : Nat) (ks : List Int) (e : Int → List Int) (tb : Int → D) (n : Int) (kvs : List (Key × D)) : Prop where
  o : u[i]? = some (shO p m t)
  M : MA u m (m + 1) (m + 2) ks e tb n
  T : u[t]? = some (.dct kvs)
section
variable {u : List Cell} {i p m t : Nat} {ks : List Int} {e : Int → List Int} {tb : Int → D} {n : Int} {kvs : List (Key × D)}
theorem g_bad (h : Sh u i p m t ks e tb n kvs) {d : D} (hd : ∀ vh, F_is_word [d] vh = some (.bl false)) (k : Int) : X_Shelf_give [.cell i, d, .int k] u = .exc badW u := by
  refine runXS_ex ?_
  have h1 := h.o
  unfold gx_Shelf_give badW
  walk_at "fe"
  try exact ⟨_, rfl⟩
theorem g_no (h : Sh u i p m t ks e tb n kvs) {w : List Nat} (hd : ∀ vh, F_is_word [txD w] vh = some (.bl true)) {k : Int} (hk : k ∉ ks) : X_Shelf_give [.cell i, txD w, .int k] u = .exc (noM k) u := by
  refine runXS_ex ?_
  have h1 := h.o
  have h2 := h.M.o
  have h3 := xe_elders h.M hk
  unfold gx_Shelf_give noM at *
  clear h
  walk_at "fe"
  try exact ⟨_, rfl⟩
theorem g_ok (h : Sh u i p m t ks e tb n kvs) {w : List Nat} (hd : ∀ vh, F_is_word [txD w] vh = some (.bl true)) {k : Int} (hk : k ∈ ks) (hl : kvs.length < 16777216) : X_Shelf_give [.cell i, txD w, .int k] u = .ok .non (u.set t (.dct (putA kvs (.inr (tx w)) (.int k)))) := by
  have h1 := h.o
  have h2 := h.M.o
  have h3 := xt_elders h.M hk
  have h4 := dt_put h.T hl w (.int k)
  refine runXS_nx ?_
  unfold gx_Shelf_give
  clear h
  generalize u.set t (Cell.dct (putA kvs (.inr (tx w)) (.int k))) = u2 at *
  generalize txD w = W at *
  generalize tupI (e k) = E at *
  walk_at "fe"
  try exact ⟨_, rfl⟩
theorem b_bad (h : Sh u i p m t ks e tb n kvs) {d : D} (hd : ∀ vh, F_is_word [d] vh = some (.bl false)) (hn : ∀ c, nc c d = true) : X_Shelf_made_by [.cell i, d] u = .exc (noN d) u := by
  refine runXP_ex (more := []) ?_ (by unfold noN; simp only [List.all_cons, List.all_nil, hn, Bool.and_true])
  rw [List.append_nil]
  have h1 := h.o
  unfold gx_Shelf_made_by noN
  clear h
  walk_at "fe"
  try exact ⟨_, rfl⟩
theorem b_no (h : Sh u i p m t ks e tb n kvs) {w : List Nat} (hd : ∀ vh, F_is_word [txD w] vh = some (.bl true)) (hw : valA kvs (.inr (tx w)) = none) : X_Shelf_made_by [.cell i, txD w] u = .exc (noN (txD w)) u := by
  refine runXP_ex (more := []) ?_ rfl
  rw [List.append_nil]
  have h1 := h.o
  have h4 := dt_nin h.T w
  rw [hw] at h4
  have h4 : ∀ l, ninAM (txD w) (.cell t) ⟨l, u⟩ = .ok (.bl true) ⟨l, u⟩ := h4
  unfold gx_Shelf_made_by noN
  clear h
  generalize txD w = W at *
  walk_at "fe"
  try exact ⟨_, rfl⟩
theorem b_ok (h : Sh u i p m t ks e tb n kvs) {w : List Nat} (hd : ∀ vh, F_is_word [txD w] vh = some (.bl true)) {k : Int} (hw : valA kvs (.inr (tx w)) = some (.int k)) : X_Shelf_made_by [.cell i, txD w] u = .ok (.int k) u := by
  refine runXP_ok (more := []) ?_ rfl
  rw [List.append_nil]
  have h1 := h.o
  have h4 := dt_nin h.T w
  rw [hw] at h4
  have h4 : ∀ l, ninAM (txD w) (.cell t) ⟨l, u⟩ = .ok (.bl false) ⟨l, u⟩ := h4
  have h5 := dt_ix h.T w hw
  unfold gx_Shelf_made_by
  clear h
  generalize txD w = W at *
  walk_at "fe"
  try exact ⟨_, rfl⟩
theorem f_exc (h : Sh u i p m t ks e tb n kvs) {d : D} (hb : X_Shelf_made_by [.cell i, d] u = .exc (noN d) u) : X_Shelf_forget [.cell i, d] u = .exc (noN d) u := by
  refine runXS_ex ?_
  have h1 := h.o
  unfold gx_Shelf_forget noN at *
  clear h
  walk_at "fe"
  try exact ⟨_, rfl⟩
theorem f_ok (h : Sh u i p m t ks e tb n kvs) {w : List Nat} (hd : ∀ vh, F_is_word [txD w] vh = some (.bl true)) {k : Int} (hw : valA kvs (.inr (tx w)) = some (.int k)) : X_Shelf_forget [.cell i, txD w] u = .ok .non (u.set t (.dct (dropA kvs (.inr (tx w))))) := by
  have hb := b_ok h hd hw
  have h1 := h.o
  have h5 := dt_pop h.T w hw
  have dr : ∀ l, (dctR ⟨l, u⟩ (.cell t)).isSome = true := fun l => by
    show (dctR (⟨l, u⟩ : Fx.S) (.cell t)).isSome = true
    unfold dctR
    dsimp only
    rw [h.T]
    rfl
  refine runXS_nx ?_
  unfold gx_Shelf_forget
  clear h
  generalize u.set t (Cell.dct (dropA kvs (.inr (tx w)))) = u2 at *
  generalize txD w = W at *
  walk_at "fe"
  try exact ⟨_, rfl⟩
end
/-! k71: an answer of a shelf, the answer due -/
section
variable {u v : List Cell} {i : Nat} {d x : D} {k way : Int} {e : Ex}
theorem c0_ok {p m t : Nat} (o : u[i]? = some (shO p m t)) (g : X_Shelf_give [.cell i, d, .int k] u = .ok x v) : X_l_called [.cell i, .int 0, d, .int k] u = .ok x v := by
  refine runXS_ok ?_
  unfold gx_l_called
  walk_at "fe"
  try exact ⟨_, rfl⟩
theorem c0_ex {p m t : Nat} (o : u[i]? = some (shO p m t)) (g : X_Shelf_give [.cell i, d, .int k] u = .exc e v) : X_l_called [.cell i, .int 0, d, .int k] u = .exc e v := by
  refine runXS_ex ?_
  unfold gx_l_called
  walk_at "fe"
  try exact ⟨_, rfl⟩
theorem c1_ok {p m t : Nat} (o : u[i]? = some (shO p m t)) (g : X_Shelf_made_by [.cell i, d] u = .ok x v) : X_l_called [.cell i, .int 1, d, .int k] u = .ok x v := by
  refine runXS_ok ?_
  unfold gx_l_called
  walk_at "fe"
  try exact ⟨_, rfl⟩
theorem c1_ex {p m t : Nat} (o : u[i]? = some (shO p m t)) (g : X_Shelf_made_by [.cell i, d] u = .exc e v) : X_l_called [.cell i, .int 1, d, .int k] u = .exc e v := by
  refine runXS_ex ?_
  unfold gx_l_called
  walk_at "fe"
  try exact ⟨_, rfl⟩
theorem c2_ok {p m t : Nat} (o : u[i]? = some (shO p m t)) (g : X_Shelf_forget [.cell i, d] u = .ok x v) : X_l_called [.cell i, .int 2, d, .int k] u = .ok x v := by
  refine runXS_ok ?_
  unfold gx_l_called
  walk_at "fe"
  try exact ⟨_, rfl⟩
theorem c2_ex {p m t : Nat} (o : u[i]? = some (shO p m t)) (g : X_Shelf_forget [.cell i, d] u = .exc e v) : X_l_called [.cell i, .int 2, d, .int k] u = .exc e v := by
  refine runXS_ex ?_
  unfold gx_l_called
  walk_at "fe"
  try exact ⟨_, rfl⟩
theorem a_ok (g : X_l_called [.cell i, .int way, d, .int k] u = .ok x v) : F_l_answer [.cell i, .int way, d, .int k] u = some (.cell v.length, v ++ [.lst [.str "told", x]]) := by
  refine runS_of ⟨[some (.cell i), some (.int way), some d, some (.int k), some .non, some x, none], ?_⟩
  unfold g_l_answer
  walk_at "fe"
  try rfl
theorem a_noN {w : D} (g : X_l_called [.cell i, .int way, d, .int k] u = .exc (noN w) v) : F_l_answer [.cell i, .int way, d, .int k] u = some (.cell v.length, v ++ [.lst [.str "no name", w]]) := by
  refine runS_of ⟨[some (.cell i), some (.int way), some d, some (.int k), some (errD (noN w)), some .non, none], ?_⟩
  have e4 : ∀ e, errD e = .err e.cls (e.fs.map (·.1)) (e.fs.map (·.2)) := fun _ => rfl
  have fl : ∀ s : Fx.S, fldE [("NoName", true)] "word" (.err "NoName" ["word"] [w]) s = .ok w s := fun s => x_fldE rfl rfl
  unfold noN at *
  unfold g_l_answer
  walk_at "fe"
  try rfl
theorem a_noM {j : Int} (g : X_l_called [.cell i, .int way, d, .int k] u = .exc (noM j) v) : F_l_answer [.cell i, .int way, d, .int k] u = some (.cell v.length, v ++ [.lst [.str "no make", .int j]]) := by
  refine runS_of ⟨[some (.cell i), some (.int way), some d, some (.int k), some (errD (noM j)), some .non, none], ?_⟩
  have e4 : ∀ e, errD e = .err e.cls (e.fs.map (·.1)) (e.fs.map (·.2)) := fun _ => rfl
  have fl : ∀ s : Fx.S, fldE [("NoMake", true)] "number" (.err "NoMake" ["number"] [.int j]) s = .ok (.int j) s := fun s => x_fldE rfl rfl
  unfold noM at *
  unfold g_l_answer
  walk_at "fe"
  try rfl
theorem a_badW (g : X_l_called [.cell i, .int way, d, .int k] u = .exc badW v) : F_l_answer [.cell i, .int way, d, .int k] u = some (.cell v.length, v ++ [.lst [.str "bad word", .non]]) := by
  refine runS_of ⟨[some (.cell i), some (.int way), some d, some (.int k), some (errD badW), some .non, none], ?_⟩
  have e4 : ∀ e, errD e = .err e.cls (e.fs.map (·.1)) (e.fs.map (·.2)) := fun _ => rfl
  have i1 : ∀ s : Fx.S, intM [.bl true] s = .ok (.int 1) s := fun s => rfl
  unfold badW at *
  unfold g_l_answer
  walk_at "fe"
  try rfl
end
section
variable {u : List Cell} {n : Nat} {kvs : List (Key × D)} {many k : Int}
theorem d_bad (d : D) : F_l_due [.cell n, .int many, .int 0, d, .bl false, .int k] u = some (.cell u.length, u ++ [.lst [.str "bad word", .non]]) := by
  refine runS_of ⟨[some (.cell n), some (.int many), some (.int 0), some d, some (.bl false), some (.int k)], ?_⟩
  unfold g_l_due
  walk_at "fe"
  try rfl
theorem d_make {d : D} (h : k > many) : F_l_due [.cell n, .int many, .int 0, d, .bl true, .int k] u = some (.cell u.length, u ++ [.lst [.str "no make", .int k]]) := by
  refine runS_of ⟨[some (.cell n), some (.int many), some (.int 0), some d, some (.bl true), some (.int k)], ?_⟩
  unfold g_l_due
  walk_at "fe"
  try rfl
theorem d_put (hu : u[n]? = some (.dct kvs)) (hl : kvs.length < 16777216) {w : List Nat} (h : ¬ k > many) : F_l_due [.cell n, .int many, .int 0, txD w, .bl true, .int k] u = some (.cell u.length, u.set n (.dct (putA kvs (.inr (tx w)) (.int k))) ++ [.lst [.str "told", .non]]) := by
  have h4 := dt_put hu hl w (.int k)
  refine runS_of ⟨[some (.cell n), some (.int many), some (.int 0), some (txD w), some (.bl true), some (.int k)], ?_⟩
  have e1 : (u.set n (Cell.dct (putA kvs (.inr (tx w)) (.int k)))).length = u.length := List.length_set ..
  clear hu
  generalize u.set n (Cell.dct (putA kvs (.inr (tx w)) (.int k))) = u2 at *
  generalize txD w = W at *
  unfold g_l_due
  walk_at "fe"
  try rfl
theorem d_noG {way : Int} (hw : ¬ way = 0) (d : D) : F_l_due [.cell n, .int many, .int way, d, .bl false, .int k] u = some (.cell u.length, u ++ [.lst [.str "no name", d]]) := by
  refine runS_of ⟨[some (.cell n), some (.int many), some (.int way), some d, some (.bl false), some (.int k)], ?_⟩
  unfold g_l_due
  walk_at "fe"
  try rfl
theorem d_no {way : Int} (hw : ¬ way = 0) (hu : u[n]? = some (.dct kvs)) {w : List Nat} (h : valA kvs (.inr (tx w)) = none) : F_l_due [.cell n, .int many, .int way, txD w, .bl true, .int k] u = some (.cell u.length, u ++ [.lst [.str "no name", txD w]]) := by
  have h4 := dt_nin hu w
  rw [h] at h4
  have h4 : ∀ l, ninAM (txD w) (.cell n) ⟨l, u⟩ = .ok (.bl true) ⟨l, u⟩ := h4
  refine runS_of ⟨[some (.cell n), some (.int many), some (.int way), some (txD w), some (.bl true), some (.int k)], ?_⟩
  clear hu
  generalize txD w = W at *
  unfold g_l_due
  walk_at "fe"
  try rfl
theorem d_told (hu : u[n]? = some (.dct kvs)) {w : List Nat} {j : Int} (h : valA kvs (.inr (tx w)) = some (.int j)) : F_l_due [.cell n, .int many, .int 1, txD w, .bl true, .int k] u = some (.cell u.length, u ++ [.lst [.str "told", .int j]]) := by
  have h4 := dt_nin hu w
  rw [h] at h4
  have h4 : ∀ l, ninAM (txD w) (.cell n) ⟨l, u⟩ = .ok (.bl false) ⟨l, u⟩ := h4
  have h5 := dt_ix hu w h
  refine runS_of ⟨[some (.cell n), some (.int many), some (.int 1), some (txD w), some (.bl true), some (.int j)], ?_⟩
  clear hu
  generalize txD w = W at *
  unfold g_l_due
  walk_at "fe"
  try rfl
theorem d_pop (hu : u[n]? = some (.dct kvs)) {w : List Nat} {j : Int} (h : valA kvs (.inr (tx w)) = some (.int j)) : F_l_due [.cell n, .int many, .int 2, txD w, .bl true, .int k] u = some (.cell u.length, u.set n (.dct (dropA kvs (.inr (tx w)))) ++ [.lst [.str "told", .non]]) := by
  have h4 := dt_nin hu w
  rw [h] at h4
  have h4 : ∀ l, ninAM (txD w) (.cell n) ⟨l, u⟩ = .ok (.bl false) ⟨l, u⟩ := h4
  have h5 := dt_ix hu w h
  have h6 := dt_pop hu w h
  have dr : ∀ l, (dctR ⟨l, u⟩ (.cell n)).isSome = true := fun l => by
    show (dctR (⟨l, u⟩ : Fx.S) (.cell n)).isSome = true
    unfold dctR
    dsimp only
    rw [hu]
    rfl
  have e1 : (u.set n (Cell.dct (dropA kvs (.inr (tx w))))).length = u.length := List.length_set ..
  refine runS_of ⟨[some (.cell n), some (.int many), some (.int 2), some (txD w), some (.bl true), some (.int j)], ?_⟩
  clear hu
  generalize u.set n (Cell.dct (dropA kvs (.inr (tx w)))) = u2 at *
  generalize txD w = W at *
  unfold g_l_due
  walk_at "fe"
  try rfl
end
/-! k71: names listed -/
/-- names: texts with numbers, each once -/
structure Nm (ws : List (List Nat)) (kvs : List (Key × D)) : Prop where
  all : ∀ kv ∈ kvs, ∃ w ∈ ws, ∃ j : Int, kv = (.inr (tx w), .int j)
  nd : (kvs.map (·.1)).Nodup
  few : kvs.length < 64
theorem putA_keys (kvs : List (Key × D)) (q : Key) (v : D) : (q ∈ kvs.map (·.1) ∧ (putA kvs q v).map (·.1) = kvs.map (·.1)) ∨ (q ∉ kvs.map (·.1) ∧ (putA kvs q v).map (·.1) = kvs.map (·.1) ++ [q]) := by
  unfold putA
  by_cases c : (kvs.any fun kv => decide (kv.1 = q)) = true
  · have : q ∈ kvs.map (·.1) := by
      obtain ⟨kv, h1, h2⟩ := List.any_eq_true.mp c
      exact List.mem_map.mpr ⟨kv, h1, of_decide_eq_true h2⟩
    refine .inl ⟨this, ?_⟩
    rw [if_pos c, List.map_map]
    refine List.map_congr_left fun kv _ => ?_
    show (if kv.1 = q then (kv.1, v) else kv).1 = kv.1
    split <;> rfl
  · have : ¬ q ∈ kvs.map (·.1) := fun h => by
      obtain ⟨kv, h1, h2⟩ := List.mem_map.mp h
      exact c (List.any_eq_true.mpr ⟨kv, h1, decide_eq_true h2⟩)
    refine .inr ⟨this, ?_⟩
    rw [if_neg c, List.map_append]
    rfl
theorem putA_all {kvs : List (Key × D)} {q : Key} {v : D} {kv : Key × D} (h : kv ∈ putA kvs q v) : kv = (q, v) ∨ kv ∈ kvs := by
  unfold putA at h
  split at h
  · obtain ⟨x, h1, h2⟩ := List.mem_map.mp h
    by_cases c : x.1 = q
    · rw [if_pos c] at h2
      exact .inl (by rw [← h2, c])
    · rw [if_neg c] at h2
      exact .inr (h2 ▸ h1)
  · rcases List.mem_append.mp h with h | h
    · exact .inr h
    · exact .inl (List.mem_singleton.mp h)
theorem putA_len {kvs : List (Key × D)} {q : Key} {v : D} : (putA kvs q v).length ≤ kvs.length + 1 := by
  rcases putA_keys kvs q v with ⟨_, h⟩ | ⟨_, h⟩
  · have := congrArg List.length h
    rw [List.length_map, List.length_map] at this
    omega
  · have := congrArg List.length h
    rw [List.length_append, List.length_map, List.length_map, List.length_singleton] at this
    omega
theorem Nm.put {ws : List (List Nat)} {kvs : List (Key × D)} (h : Nm ws kvs) {w : List Nat} (hw : w ∈ ws) (j : Int) (hl : kvs.length < 63) : Nm ws (putA kvs (.inr (tx w)) (.int j)) := by
  refine ⟨fun kv hkv => ?_, ?_, by have := putA_len (kvs := kvs) (q := .inr (tx w)) (v := .int j); omega⟩
  · rcases putA_all hkv with e | e
    · exact ⟨w, hw, j, e⟩
    · exact h.all kv e
  · rcases putA_keys kvs (.inr (tx w)) (.int j) with ⟨_, e⟩ | ⟨c, e⟩
    · rw [e]; exact h.nd
    · rw [e]
      exact List.nodup_append.mpr ⟨h.nd, by simp, fun a ha b hb => by rw [List.mem_singleton.mp hb]; exact fun z => c (z ▸ ha)⟩
theorem Nm.drop {ws : List (List Nat)} {kvs : List (Key × D)} (h : Nm ws kvs) (q : Key) : Nm ws (dropA kvs q) := by
  have sub : (dropA kvs q).Sublist kvs := List.filter_sublist
  exact ⟨fun kv hkv => h.all kv (sub.subset hkv), (sub.map _).nodup h.nd, Nat.lt_of_le_of_lt sub.length_le h.few⟩
/-- the texts of the names -/
theorem Nm.texts {ws : List (List Nat)} : ∀ {kvs : List (Key × D)}, (∀ kv ∈ kvs, ∃ w ∈ ws, ∃ j : Int, kv = (.inr (tx w), .int j)) → ∃ ns : List (List Nat), kvs.map (·.1) = ns.map (fun n => Sum.inr (tx n)) ∧ ∀ n ∈ ns, n ∈ ws
  | [], _ => ⟨[], rfl, fun _ h => by cases h⟩
  | kv :: r, h => by
    obtain ⟨ns, e, a⟩ := Nm.texts fun x hx => h x (List.mem_cons_of_mem _ hx)
    obtain ⟨w, hw, j, z⟩ := h kv List.mem_cons_self
    refine ⟨w :: ns, by rw [List.map_cons, List.map_cons, e, z], fun n hn => ?_⟩
    rcases List.mem_cons.mp hn with q | q
    · rw [q]; exact hw
    · exact a n q
theorem Nm.val {ws : List (List Nat)} {kvs : List (Key × D)} (h : Nm ws kvs) {w : List Nat} (hw : (.inr (tx w) : Key) ∈ kvs.map (·.1)) : ∃ j : Int, valA kvs (.inr (tx w)) = some (.int j) := by
  unfold valA
  cases e : kvs.find? fun kv => decide (kv.1 = .inr (tx w)) with
  | none =>
    obtain ⟨kv, h1, h2⟩ := List.mem_map.mp hw
    have := List.find?_eq_none.mp e kv h1
    exact absurd (decide_eq_true h2) this
  | some kv =>
    obtain ⟨w', _, j, z⟩ := h.all kv (List.mem_of_find?_eq_some e)
    exact ⟨j, by rw [z]; rfl⟩
def rowsN (kvs : List (Key × D)) (ns : List (List Nat)) : List D := (sortW ns).map fun w => .tup [txD w, (valA kvs (.inr (tx w))).getD .non]
section
variable {u : List Cell} {i p m t : Nat} {ks : List Int} {e : Int → List Int} {tb : Int → D} {n : Int} {kvs : List (Key × D)} {ws ns : List (List Nat)}
theorem t_named (h : Sh u i p m t ks e tb n kvs) (N : Nm ws kvs) (hk : kvs.map (·.1) = ns.map fun n => Sum.inr (tx n)) : F_Shelf_named [.cell i] u = some (.lst (rowsN kvs ns)) := by
  have h1 := h.o
  have hl : ns.length < 64 := by
    have := congrArg List.length hk
    rw [List.length_map, List.length_map] at this
    have := N.few
    omega
  have sd : ∀ l, sortedM [.cell t] ⟨l, u⟩ = .ok (.lst ((sortW ns).map txD)) ⟨l, u⟩ := fun l => sorted_dct hk hl (s := ⟨l, u⟩) h.T
  have key : c_Shelf_named_1 ⟨[some (.cell i), none], u⟩ = .ok (.lst (rowsN kvs ns)) ⟨[some (.cell i), none], u⟩ := by
    have := lc_pure (ok := fun s' => itemsOf s' (.lst ((sortW ns).map txD)) = some ((sortW ns).map txD)) (l := [some (.cell i), none]) (vh := u) (i := 1) (c := yesM) (e := tupM (consM (getL 1) (consM (bin ixAM (bnd (getL 0) (fldM "Shelf" "titles")) (getL 1)) (ret [])))) (f := bnd (frzM (bnd (consM (bnd (getL 0) (fldM "Shelf" "titles")) (ret [])) sortedM)) seqI) (sortW ns) txD (fun w => .tup [txD w, (valA kvs (.inr (tx w))).getD .non]) (fun _ => true) (by
      clear h N hk hl
      generalize (sortW ns).map txD = SD at *
      walk_at "fe"
      try rfl) (fun _ => rfl) (by have := (sortW_perm ns).length_eq; omega) (fun _ _ => rfl) (fun w hw _ => by
      have hw2 : (.inr (tx w) : Key) ∈ kvs.map (·.1) := by rw [hk]; exact List.mem_map.mpr ⟨w, (sortW_perm ns).mem_iff.mp hw, rfl⟩
      obtain ⟨j, hj⟩ := N.val hw2
      have ix := dt_ix h.T w hj
      rw [hj]
      clear h N hk hl sd hw hw2 hj
      show _ = Res.ok (D.tup [txD w, .int j]) _
      generalize txD w = W at *
      walk_at "fe"
      try rfl)
    rw [List.filter_eq_self.mpr (fun _ _ => rfl)] at this
    exact this
  have nc : ∀ c, nc c (.lst (rowsN kvs ns)) = true := fun c => by
    show ncL c (rowsN kvs ns) = true
    refine ncL_all fun d hd => ?_
    obtain ⟨w, hw, rfl⟩ := List.mem_map.mp hd
    have hw2 : (.inr (tx w) : Key) ∈ kvs.map (·.1) := by rw [hk]; exact List.mem_map.mpr ⟨w, (sortW_perm ns).mem_iff.mp hw, rfl⟩
    obtain ⟨j, hj⟩ := N.val hw2
    rw [hj]
    rfl
  have nc2 : ncL u.length (rowsN kvs ns) = true := nc u.length
  refine runN_of (k := 0) (more := [.lst (rowsN kvs ns)]) ⟨[some (.cell i), none], ?_⟩ rfl nc2
  clear h N hk hl sd nc nc2 h1
  unfold g_Shelf_named
  generalize rowsN kvs ns = RN at *
  walk_at "fe"
  try rfl
end
section
variable {u : List Cell} {i p m t q : Nat} {ks : List Int} {e : Int → List Int} {tb : Int → D} {n : Int} {kvs : List (Key × D)} {ws ns : List (List Nat)}
theorem named_loop (N : Nm ws kvs) (hws : ∀ w ∈ ws, ∀ c ∈ w, c < 1114112) (v : List Cell) (hq : v[q]? = some (.dct kvs)) (ok : Fx.S → Prop) (hok : ∀ l, ok ⟨l, v⟩) (x0 x2 : Option D) : ∀ (xs : List (List Nat)) (x3 x4 : Option D), (∀ w ∈ xs, (.inr (tx w) : Key) ∈ kvs.map (·.1) ∧ w ∈ ws) →
    ∃ y3 y4, loopM ok (unp2 3 4) b_l_named_1 (List.zipWith D.pr (xs.map fun w => .tup [txD w, (valA kvs (.inr (tx w))).getD .non]) (xs.map txD)) ⟨[x0, some (.cell q), x2, x3, x4], v⟩ = .ok .nx ⟨[x0, some (.cell q), x2, y3, y4], v⟩
  | [], x3, x4, _ => ⟨x3, x4, loop0 (hok _)⟩
  | w :: xs, x3, x4, h => by
    obtain ⟨hw, hw2⟩ := h w List.mem_cons_self
    obtain ⟨j, hj⟩ := N.val hw
    obtain ⟨y3, y4, lp⟩ := named_loop N hws v hq ok hok x0 x2 xs (some (.tup [txD w, .int j])) (some (txD w)) fun z hz => h z (List.mem_cons_of_mem _ hz)
    refine ⟨y3, y4, ?_⟩
    rw [List.map_cons, List.map_cons, List.zipWith_cons_cons, hj]
    have ix := dt_ix hq w hj
    have ne : ∀ s, neM (.tup [txD w, .int j]) (.tup [txD w, .int j]) s = .ok (.bl false) s := fun s => x_neSelf (Eqd.mono (Eqd.tup (n := 0) fun d hd => by
      simp only [List.mem_cons, List.not_mem_nil, or_false] at hd
      rcases hd with rfl | rfl
      · exact Eqd.tx (hws w hw2)
      · exact Eqd.int _) (by decide))
    have lt : ∀ s : Fx.S, lenM [.tup [txD w, .int j]] s = .ok (.int 2) s := fun s => rfl
    have ty : ∀ s, isaM "str" (txD w) s = .ok (.bl true) s := fun s => rfl
    have tg : unp2 3 4 (D.pr (.tup [txD w, .int j]) (txD w)) ⟨[x0, some (.cell q), x2, x3, x4], v⟩ = .ok .nx ⟨[x0, some (.cell q), x2, some (.tup [txD w, .int j]), some (txD w)], v⟩ := by
      rw [x_unpP]; rfl
    refine (loopS (hok _) tg ?_).trans lp
    clear lp h hw hw2 hj N hws hq hok tg ty
    unfold txD at *
    generalize tx w = W at *
    unfold b_l_named_1
    walk_at "fe"
    try rfl
theorem t_lnamed (h : Sh u i p m t ks e tb n kvs) (N : Nm ws kvs) (hws : ∀ w ∈ ws, ∀ c ∈ w, c < 1114112) (hq : u[q]? = some (.dct kvs)) : F_l_named [.cell i, .cell q] u = some (.bl true) := by
  obtain ⟨ns, hk, hin⟩ := Nm.texts N.all
  have nm := t_named h N hk
  have h1 := h.o
  have hl : ns.length = kvs.length := by
    have := congrArg List.length hk
    rw [List.length_map, List.length_map] at this
    omega
  have few := N.few
  have sl := (sortW_perm ns).length_eq
  have rl : (rowsN kvs ns).length = kvs.length := by unfold rowsN; rw [List.length_map]; omega
  have hq2 := look_app hq [Cell.lst (rowsN kvs ns)]
  have at1 : (u ++ [Cell.lst (rowsN kvs ns)])[u.length]? = some (.lst (rowsN kvs ns)) := by simp
  have sd : ∀ l, sortedM [.cell q] ⟨l, u ++ [Cell.lst (rowsN kvs ns)]⟩ = .ok (.lst ((sortW ns).map txD)) ⟨l, u ++ [Cell.lst (rowsN kvs ns)]⟩ := fun l => sorted_dct hk (by omega) (s := ⟨l, _⟩) hq2
  have dl := dt_len hq2
  have ll : ∀ l, lenM [.cell u.length] ⟨l, u ++ [Cell.lst (rowsN kvs ns)]⟩ = .ok (.int kvs.length) ⟨l, u ++ [Cell.lst (rowsN kvs ns)]⟩ := fun l => by
    rw [x_lenC, show (⟨l, u ++ [Cell.lst (rowsN kvs ns)]⟩ : Fx.S).vh[u.length]? = some (.lst (rowsN kvs ns)) from at1, x_lenR, rl]
  have zp : ∀ l, zipA [.cell u.length, .lst ((sortW ns).map txD)] ⟨l, u ++ [Cell.lst (rowsN kvs ns)]⟩ = .ok ⟨List.zipWith D.pr (rowsN kvs ns) ((sortW ns).map txD), fun s' => lstOf s' (.cell u.length) = some (rowsN kvs ns) ∧ lstOf s' (.lst ((sortW ns).map txD)) = some ((sortW ns).map txD)⟩ ⟨l, u ++ [Cell.lst (rowsN kvs ns)]⟩ := fun l => by
    unfold zipA lstOf
    dsimp only
    rw [at1]
  obtain ⟨y3, y4, lp⟩ := named_loop N hws (u ++ [Cell.lst (rowsN kvs ns)]) hq2 (fun s' => lstOf s' (.cell u.length) = some (rowsN kvs ns) ∧ lstOf s' (.lst ((sortW ns).map txD)) = some ((sortW ns).map txD)) (fun l => ⟨by unfold lstOf; dsimp only; rw [at1], rfl⟩) (some (.cell i)) (some (.cell u.length)) (sortW ns) none none fun w hw => by
    have := (sortW_perm ns).mem_iff.mp hw
    exact ⟨by rw [hk]; exact List.mem_map.mpr ⟨w, this, rfl⟩, hin w this⟩
  have ap : (u ++ [Cell.lst (rowsN kvs ns)]).set u.length (.lst (rowsN kvs ns ++ [.tup [.str (tx (cd "a")), .int 0]])) = u ++ [Cell.lst (rowsN kvs ns ++ [.tup [.str (tx (cd "a")), .int 0]])] := by simp
  have lr : (rowsN kvs ns).length < 16777216 := by omega
  have ty : isTyR (u ++ [Cell.lst (rowsN kvs ns)])[u.length]? = true := by rw [at1]; rfl
  refine runP_more ⟨[some (.cell i), some (.cell q), some (.cell u.length), y3, y4], [.lst (rowsN kvs ns ++ [.tup [.str (tx (cd "a")), .int 0]])], ?_⟩ rfl
  have lp : loopM (fun s' => lstOf s' (.cell u.length) = some (rowsN kvs ns) ∧ lstOf s' (.lst ((sortW ns).map txD)) = some ((sortW ns).map txD)) (unp2 3 4) b_l_named_1 (List.zipWith D.pr (rowsN kvs ns) ((sortW ns).map txD)) ⟨[some (.cell i), some (.cell q), some (.cell u.length), none, none], u ++ [Cell.lst (rowsN kvs ns)]⟩ = .ok .nx ⟨[some (.cell i), some (.cell q), some (.cell u.length), y3, y4], u ++ [Cell.lst (rowsN kvs ns)]⟩ := lp
  clear h N hws hq hq2 hk hin hl few sl rl
  generalize u ++ [Cell.lst (rowsN kvs ns ++ [.tup [.str (tx (cd "a")), .int 0]])] = u3 at *
  generalize hu2 : u ++ [Cell.lst (rowsN kvs ns)] = u2 at *
  generalize rowsN kvs ns = RN at *
  generalize (sortW ns).map txD = SD at *
  generalize (kvs.length : Int) = KL at *
  generalize hOK : (fun s' : Fx.S => lstOf s' (.cell u.length) = some RN ∧ lstOf s' (.lst SD) = some SD) = OK at *
  clear hOK
  unfold g_l_named
  walk_at "fe"
  try rfl
end
/-! k71: words drawn, odd things -/
/-- a word -/
def Wd7 (w : List Nat) : Prop := (∀ c ∈ w, 97 ≤ c ∧ c ≤ 122) ∧ 1 ≤ w.length ∧ w.length ≤ 12
theorem Wd7.is {w : List Nat} (h : Wd7 w) (vh : List Cell) : F_is_word [txD w] vh = some (.bl true) := t_isword h.1 h.2.1 h.2.2 vh
theorem Wd7.lt {w : List Nat} (h : Wd7 w) : ∀ c ∈ w, c < 1114112 := fun c hc => by have := h.1 c hc; omega
theorem al_sg (n : Int) : 97 ≤ 97 + (n % 26).toNat ∧ 97 + (n % 26).toNat ≤ 122 := by omega
theorem base_c (c : Int) (x4 x5 x6 x7 x8 : Option D) (vh : List Cell) : c_l_words_1 ⟨[some (.int c), some (.str (tx AL)), none, none, x4, x5, x6, x7, x8], vh⟩ = .ok (.lst (((List.range 12).map fun j : Nat => 97 + (mxv c (0 + (j : Int)) % 26).toNat).map fun c => D.str (tx [c]))) ⟨[some (.int c), some (.str (tx AL)), none, none, x4, x5, x6, x7, x8], vh⟩ := by
  have := lc_pure (ok := fun _ => True) (l := [some (.int c), some (.str (tx AL)), none, none, x4, x5, x6, x7, x8]) (vh := vh) (i := 3) (c := yesM) (e := bin ixAM (getL 1) (bin modM (bnd (consM (getL 0) (consM (getL 3) (ret []))) (callP 2 F_l_mix)) (ret (.int 26)))) (f := bnd (consM (ret (.int 12)) (ret [])) ran1I) (List.range 12) (fun j => D.int (0 + (j : Int))) (fun j => D.str (tx [97 + (mxv c (0 + (j : Int)) % 26).toNat])) (fun _ => true) (by
    have o1 : okB 12 = true := okB_of (by omega) (by omega)
    generalize AL = A at *
    walk_at "fyh"
    try rfl) (fun _ => trivial) (by rw [List.length_range]; omega) (fun _ _ => rfl) (fun j hj _ => by
    have hj := List.mem_range.mp hj
    have mx := t_mxv c (0 + (j : Int)) (by omega)
    have ix := fun s => x_al (s := s) (n := mxv c (0 + (j : Int)) % 26) (by omega) (by omega)
    clear hj
    generalize mxv c (0 + (j : Int)) = M at *
    generalize AL = A at *
    walk_at "fyh"
    try rfl)
  rw [List.filter_eq_self.mpr (fun _ _ => rfl)] at this
  rw [List.map_map]
  exact this
theorem turn_w (c : Int) (bs : List Nat) (hb : ∀ x ∈ bs, 97 ≤ x ∧ x ≤ 122) (hl : bs.length = 12) (at' : Nat) {sz : Nat} (h1 : at' < sz) (h2 : sz ≤ 12) (h3 : (sz : Int) = 1 + c % 12) (j : Nat) (hj : j < 5) {u : List Cell} {m : Nat} {acc : List D} (hm : u[m]? = some (.lst acc)) (ha : acc.length < 1000) (x3 x8 : Option D) :
    ∃ w y8, Wd7 w ∧ b_l_words_1 ⟨[some (.int c), some (.str (tx AL)), some (.str (tx bs)), x3, some (.int sz), some (.int at'), some (.cell m), some (.int (0 + (j : Int))), x8], u⟩ = .ok .nx ⟨[some (.int c), some (.str (tx AL)), some (.str (tx bs)), x3, some (.int sz), some (.int at'), some (.cell m), some (.int (0 + (j : Int))), y8], u.set m (.lst (acc ++ [txD w]))⟩ := by
  have mx := t_mxv c (at' : Int) (by omega)
  have ix := fun s => x_al (s := s) (n := (mxv c (at' : Int) + (0 + (j : Int))) % 26) (by omega) (by omega)
  obtain ⟨x, hx⟩ : ∃ x, x = 97 + ((mxv c (at' : Int) + (0 + (j : Int))) % 26).toNat := ⟨_, rfl⟩
  have hx2 : 97 ≤ x ∧ x ≤ 122 := by rw [hx]; exact al_sg _
  rw [← hx] at ix
  have a1 : ∀ s, addM (.str (tx (bs.take at'))) (.str (tx [x])) s = .ok (.str (tx (bs.take at' ++ [x]))) s := fun s => x_addTx (by rw [List.length_take, List.length_singleton]; omega)
  have a2 : ∀ s, addM (.str (tx (bs.take at' ++ [x]))) (.str (tx (bs.drop (at' + 1)))) s = .ok (.str (tx (bs.take at' ++ [x] ++ bs.drop (at' + 1)))) s := fun s => x_addTx (by rw [List.length_append, List.length_take, List.length_singleton, List.length_drop]; omega)
  obtain ⟨w1, hw1⟩ : ∃ w1, w1 = bs.take at' ++ [x] ++ bs.drop (at' + 1) := ⟨_, rfl⟩
  rw [← hw1] at a2
  have l1 : w1.length = 12 := by rw [hw1, List.length_append, List.length_append, List.length_take, List.length_singleton, List.length_drop]; omega
  have g1 : ∀ y ∈ w1, 97 ≤ y ∧ y ≤ 122 := fun y hy => by
    rw [hw1] at hy
    rcases List.mem_append.mp hy with h | h
    · rcases List.mem_append.mp h with h | h
      · exact hb y (List.mem_of_mem_take h)
      · rw [List.mem_singleton.mp h]; exact hx2
    · exact hb y (List.mem_of_mem_drop h)
  have s1 : ∀ s, slV (.str (tx bs)) none (some (at' : Int)) s = .ok (.str (tx (bs.take at'))) s := fun s => by rw [x_slVTx (by omega), cutS_take]
  have s2 : ∀ s, slV (.str (tx bs)) (some ((at' : Int) + 1)) none s = .ok (.str (tx (bs.drop (at' + 1)))) s := fun s => by rw [x_slVTx (by omega), cutS_drop1]
  have ap : ∀ (w : List Nat) l, appM (.cell m) [txD w] ⟨l, u⟩ = .ok .non ⟨l, u.set m (.lst (acc ++ [txD w]))⟩ := fun w l => by
    rw [x_app, show (⟨l, u⟩ : Fx.S).vh[m]? = some (.lst acc) from hm, x_appR (by omega)]
  have ty : isTyR u[m]? = true := by rw [hm]; rfl
  by_cases z0 : c / 12 % 3 = 0
  · have s3 : ∀ s, slV (.str (tx w1)) none (some (sz : Int)) s = .ok (.str (tx (w1.take sz))) s := fun s => by rw [x_slVTx (by omega), cutS_take]
    have ap := ap (w1.take sz)
    refine ⟨w1.take sz, some (.str (tx w1)), ⟨fun y hy => g1 y (List.mem_of_mem_take hy), by rw [List.length_take]; omega, by rw [List.length_take]; omega⟩, ?_⟩
    clear hb hl h1 h2 h3 hm ha hx2 hw1 l1 g1 hx
    generalize AL = A at *
    generalize mxv c (at' : Int) = M at *
    generalize (0 : Int) + (j : Int) = J at *
    generalize (at' : Int) = I at *
    generalize (sz : Int) = Z at *
    unfold b_l_words_1
    walk_at "fe"
    try rfl
  · by_cases z1 : c / 12 % 3 = 1
    · have m5 : ∀ s, mulM (.int 5) (.int (0 + (j : Int))) s = .ok (.int (5 * (0 + (j : Int)))) s := fun s => x_mul (by
        have := lgI 5 (by decide) (by decide)
        have := lgI (0 + (j : Int)) (by omega) (by omega)
        omega)
      obtain ⟨n, hn⟩ : ∃ n : Nat, 1 + (c + 5 * (0 + (j : Int))) % 12 = (n : Int) := Int.eq_ofNat_of_zero_le (by omega)
      have s3 : ∀ s, slV (.str (tx bs)) none (some (1 + (c + 5 * (0 + (j : Int))) % 12)) s = .ok (.str (tx (bs.take n))) s := fun s => by rw [hn, x_slVTx (by omega), cutS_take]
      have ap := ap (bs.take n)
      refine ⟨bs.take n, some (.str (tx w1)), ⟨fun y hy => hb y (List.mem_of_mem_take hy), by rw [List.length_take]; omega, by rw [List.length_take]; omega⟩, ?_⟩
      clear hb hl h1 h2 h3 hm ha hx2 hw1 l1 g1 hx hn
      generalize AL = A at *
      generalize mxv c (at' : Int) = M at *
      generalize (0 : Int) + (j : Int) = J at *
      generalize (at' : Int) = I at *
      generalize (sz : Int) = Z at *
      unfold b_l_words_1
      walk_at "fe"
      try rfl
    · have m5 : ∀ s, mulM (.int 5) (.int (0 + (j : Int))) s = .ok (.int (5 * (0 + (j : Int)))) s := fun s => x_mul (by
        have := lgI 5 (by decide) (by decide)
        have := lgI (0 + (j : Int)) (by omega) (by omega)
        omega)
      obtain ⟨n, hn⟩ : ∃ n : Nat, (if 1 + (c + 5 * (0 + (j : Int))) % 12 > (at' : Int) + 1 then 1 + (c + 5 * (0 + (j : Int))) % 12 else (at' : Int) + 1) = (n : Int) := Int.eq_ofNat_of_zero_le (by split <;> omega)
      have n1 : 1 ≤ n := by split at hn <;> omega
      have s3 : ∀ s, slV (.str (tx w1)) none (some (if 1 + (c + 5 * (0 + (j : Int))) % 12 > (at' : Int) + 1 then 1 + (c + 5 * (0 + (j : Int))) % 12 else (at' : Int) + 1)) s = .ok (.str (tx (w1.take n))) s := fun s => by rw [hn, x_slVTx (by omega), cutS_take]
      have ap := ap (w1.take n)
      refine ⟨w1.take n, some (.str (tx w1)), ⟨fun y hy => g1 y (List.mem_of_mem_take hy), by rw [List.length_take]; omega, by rw [List.length_take]; omega⟩, ?_⟩
      clear hb hl h1 h2 h3 hm ha hx2 hw1 l1 g1 hx hn n1
      generalize AL = A at *
      generalize mxv c (at' : Int) = M at *
      generalize (0 : Int) + (j : Int) = J at *
      generalize (at' : Int) = I at *
      generalize (sz : Int) = Z at *
      unfold b_l_words_1
      walk_at "fe"
      try rfl
/-! k71: five words, an odd thing -/
theorem t_words (c : Int) (vh : List Cell) : ∃ ws : List (List Nat), ws.length = 5 ∧ (∀ w ∈ ws, Wd7 w) ∧ F_l_words [.int c] vh = some (.lst (ws.map txD)) := by
  obtain ⟨bs, hbs⟩ : ∃ bs, bs = (List.range 12).map fun j : Nat => 97 + (mxv c (0 + (j : Int)) % 26).toNat := ⟨_, rfl⟩
  have hb : ∀ x ∈ bs, 97 ≤ x ∧ x ≤ 122 := fun x hx => by
    rw [hbs] at hx
    obtain ⟨j, _, rfl⟩ := List.mem_map.mp hx
    exact al_sg _
  have hl : bs.length = 12 := by rw [hbs, List.length_map, List.length_range]
  obtain ⟨sz, hsz⟩ : ∃ sz : Nat, 1 + c % 12 = (sz : Int) := Int.eq_ofNat_of_zero_le (by omega)
  have s1 : 1 ≤ sz ∧ sz ≤ 12 := by omega
  obtain ⟨at', hat⟩ : ∃ a : Nat, mxv c 60 % (sz : Int) = (a : Int) := Int.eq_ofNat_of_zero_le (Int.emod_nonneg _ (by omega))
  have a1 : at' < sz := by have := Int.emod_lt_of_pos (mxv c 60) (show (0 : Int) < (sz : Int) by omega); omega
  have base : ∀ vh, ∃ ws : List (List Nat), ws.length = 5 ∧ (∀ w ∈ ws, Wd7 w) ∧ ∃ y7 y8, loopM (fun _ => True) (setL 7) b_l_words_1 (ranD 0 5) ⟨[some (.int c), some (.str (tx AL)), some (.str (tx bs)), none, some (.int sz), some (.int at'), some (.cell vh.length), none, none], vh ++ [.lst []]⟩ = .ok .nx ⟨[some (.int c), some (.str (tx AL)), some (.str (tx bs)), none, some (.int sz), some (.int at'), some (.cell vh.length), y7, y8], vh ++ [.lst (ws.map txD)]⟩ := fun vh => by
    obtain ⟨s2, lp, ws, y7, y8, q1, q2, hs⟩ := loopM_run (ok := fun _ => True) (t := setL 7) (b := b_l_words_1) (fun i s => ∃ ws : List (List Nat), ∃ y7 y8, ws.length = i ∧ (∀ w ∈ ws, Wd7 w) ∧ s = ⟨[some (.int c), some (.str (tx AL)), some (.str (tx bs)), none, some (.int sz), some (.int at'), some (.cell vh.length), y7, y8], vh ++ [.lst (ws.map txD)]⟩) (ranD 0 5) ⟨[some (.int c), some (.str (tx AL)), some (.str (tx bs)), none, some (.int sz), some (.int at'), some (.cell vh.length), none, none], vh ++ [.lst []]⟩ (fun _ _ _ => trivial)
      (fun i d s hi ⟨ws, y7, y8, q1, q2, hs⟩ => by
        subst hs
        obtain ⟨hi1, rfl⟩ := ranD_at hi
        have hm : (vh ++ [Cell.lst (ws.map txD)])[vh.length]? = some (.lst (ws.map txD)) := by simp
        obtain ⟨w, z8, w1, w2⟩ := turn_w c bs hb hl at' a1 s1.2 hsz.symm i hi1 hm (by rw [List.length_map]; omega) none y8
        refine ⟨_, rfl, _, .inl w2, ws ++ [w], some (.int (0 + (i : Int))), z8, by simp [q1], fun z hz => ?_, ?_⟩
        · rcases List.mem_append.mp hz with h | h
          · exact q2 z h
          · rw [List.mem_singleton.mp h]; exact w1
        · rw [List.map_append]
          simp)
      ⟨[], none, none, rfl, fun _ h => (by cases h), rfl⟩
    subst hs
    exact ⟨ws, q1, q2, y7, y8, lp⟩
  obtain ⟨ws, r1, r2, z7, z8, lp⟩ := base vh
  refine ⟨ws, r1, r2, ?_⟩
  have m60 := t_mxv c 60 (by decide)
  have cc := fun x4 x5 x6 x7 x8 => base_c c x4 x5 x6 x7 x8 vh
  rw [← hbs] at cc
  have jn := fun s => join_signs bs s (by omega)
  have md : ∀ s, modM (.int (mxv c 60)) (.int (sz : Int)) s = .ok (.int (mxv c 60 % (sz : Int))) s := fun s => x_mod (by omega)
  have rn : ∀ s, ran1I [.int 5] s = .ok ⟨ranD 0 5, fun _ => True⟩ s := fun s => by
    rw [x_ran1 (okB_of (by decide) (by decide))]; rfl
  refine runP_cell (k := 0) (more := [.lst (ws.map txD)]) ⟨[some (.int c), some (.str (tx AL)), some (.str (tx bs)), none, some (.int sz), some (.int at'), some (.cell vh.length), z7, z8], ?_⟩ rfl (ncL_all fun d hd => by
    obtain ⟨w, _, rfl⟩ := List.mem_map.mp hd
    rfl)
  clear hbs hb hl s1 a1 base r1 r2
  generalize bs.map (fun c => D.str (tx [c])) = BL at *
  generalize ranD 0 5 = RD at *
  generalize vh ++ [Cell.lst (ws.map txD)] = v2 at *
  unfold g_l_words
  rw [show (Str.ofString "abcdefghijklmnopqrstuvwxyz" : Str) = tx AL from rfl, show (Str.ofString "" : Str) = tx [] from rfl]
  generalize AL = A at *
  walk_at "fe"
  try rfl
/-- an odd thing: no word, equal to itself -/
structure Odd (d : D) : Prop where
  w : ∀ vh, F_is_word [d] vh = some (.bl false)
  n : ∀ c, nc c d = true
  s : SmE d
  b : ∃ b, ∀ s, isaM "bool" d s = .ok (.bl b) s
theorem x_ninBig {c : Nat} (h : c < 97) (s : Fx.S) : ninAM (.str (tx [c])) (.str (tx (cd "abcdefghijklmnopqrstuvwxyz"))) s = .ok (.bl true) s := by
  have e : ninAM (.str (tx [c])) (.str (tx AL)) s = .ok (.bl (decide (c ∈ (tx AL).cps.toList) == false)) s := rfl
  have e2 : (tx AL).cps.toList = AL := tx_tl _
  have no : ¬ c ∈ AL := fun z => by
    have : ∀ x ∈ AL, 97 ≤ x := by decide +kernel
    have := this c z
    omega
  rw [e2, decide_eq_false no] at e
  exact e
theorem no_len {cs : List Nat} (h : cs.length < 1 ∨ cs.length > 12) (hl : cs.length ≤ 1000) (vh : List Cell) : F_is_word [.str (tx cs)] vh = some (.bl false) := by
  refine runP_of ⟨[some (.str (tx cs)), none], ?_⟩ rfl
  have ln : ∀ s, lenM [.str (tx cs)] s = .ok (.int (cs.length : Nat)) s := fun s => x_lenTx (by omega)
  by_cases c : cs.length < 1
  · have l1 : ∀ s, ltAM (.int (cs.length : Nat)) (.int 1) s = .ok (.bl true) s := fun s => by
      show Res.ok (D.bl (decide _)) s = _
      rw [decide_eq_true (by omega)]
    clear h hl c
    generalize (cs.length : Int) = LN at *
    generalize tx cs = C at *
    unfold g_is_word
    walk_at "fyh"
    try rfl
  · have l1 : ∀ s, ltAM (.int (cs.length : Nat)) (.int 1) s = .ok (.bl false) s := fun s => by
      show Res.ok (D.bl (decide _)) s = _
      rw [decide_eq_false (by omega)]
    have l2 : ∀ s, gtM (.int (cs.length : Nat)) (.int 12) s = .ok (.bl true) s := fun s => by
      rw [x_gt, decide_eq_true (by omega)]
    clear h hl c
    generalize (cs.length : Int) = LN at *
    generalize tx cs = C at *
    unfold g_is_word
    walk_at "fyh"
    try rfl
/-- a text with a sign that is no letter -/
theorem no_loop (vh : List Cell) (ok : Fx.S → Prop) (hok : ∀ s, ok s) (x0 : Option D) : ∀ (cs : List Nat) (x1 : Option D), (∀ c ∈ cs, c < 97 ∨ (97 ≤ c ∧ c ≤ 122)) → (∃ c ∈ cs, c < 97) →
    ∃ y1, loopM ok (setL 1) b_is_word_1 (cs.map fun c => D.str (tx [c])) ⟨[x0, x1], vh⟩ = .ok (.rt (.bl false)) ⟨[x0, y1], vh⟩
  | [], x1, _, h => by obtain ⟨_, h, _⟩ := h; cases h
  | c :: cs, x1, ha, h => by
    by_cases z : c < 97
    · refine ⟨some (.str (tx [c])), ?_⟩
      have nn := x_ninBig z
      rw [List.map_cons]
      refine loopR (s1 := ⟨[x0, some (.str (tx [c]))], vh⟩) (hok _) rfl ?_
      clear ha h z
      generalize (tx [c]) = C at *
      unfold b_is_word_1
      walk_at "fyh"
      try rfl
    · have hc := (ha c List.mem_cons_self).resolve_left z
      have nn := x_ninAL hc
      obtain ⟨y1, lp⟩ := no_loop vh ok hok x0 cs (some (.str (tx [c]))) (fun x hx => ha x (List.mem_cons_of_mem _ hx)) (by
        obtain ⟨x, hx, q⟩ := h
        rcases List.mem_cons.mp hx with e | e
        · exact absurd (e ▸ q) z
        · exact ⟨x, e, q⟩)
      refine ⟨y1, ?_⟩
      rw [List.map_cons]
      refine (loopS (s1 := ⟨[x0, some (.str (tx [c]))], vh⟩) (hok _) rfl ?_).trans lp
      clear ha h z lp hc
      generalize (tx [c]) = C at *
      unfold b_is_word_1
      walk_at "fyh"
      try rfl
theorem no_sign {cs : List Nat} (ha : ∀ c ∈ cs, c < 97 ∨ (97 ≤ c ∧ c ≤ 122)) (h : ∃ c ∈ cs, c < 97) (hl : cs.length ≤ 12) (vh : List Cell) : F_is_word [.str (tx cs)] vh = some (.bl false) := by
  have h0 : 0 < cs.length := by obtain ⟨x, hx, _⟩ := h; exact List.length_pos_of_mem hx
  obtain ⟨y1, lp⟩ := no_loop vh (fun s' => itemsOf s' (.str (tx cs)) = some (cs.map fun c => D.str (tx [c]))) (fun s => by show some (Fx.signs (tx cs)) = _; rw [signs_tx]) (some (.str (tx cs))) cs none ha h
  refine runP_of ⟨[some (.str (tx cs)), y1], ?_⟩ rfl
  have ln : ∀ s, lenM [.str (tx cs)] s = .ok (.int (cs.length : Nat)) s := fun s => x_lenTx (by omega)
  have l1 : ∀ s, ltAM (.int (cs.length : Nat)) (.int 1) s = .ok (.bl false) s := fun s => by
    show Res.ok (D.bl (decide _)) s = _
    rw [decide_eq_false (by omega)]
  have l2 : ∀ s, gtM (.int (cs.length : Nat)) (.int 12) s = .ok (.bl false) s := fun s => by
    rw [x_gt, decide_eq_false (by omega)]
  have sq := fun s => x_seqTx (cs := cs) (s := s)
  clear ha h hl h0
  generalize (cs.length : Int) = LN at *
  generalize cs.map (fun c => D.str (tx [c])) = CS at *
  generalize tx cs = C at *
  unfold g_is_word
  walk_at "fyh"
  try rfl
theorem no_text {d : D} (h : ∀ s, isaM "str" d s = .ok (.bl false) s) (vh : List Cell) : F_is_word [d] vh = some (.bl false) := by
  refine runP_of ⟨[some d, none], ?_⟩ rfl
  unfold g_is_word
  simp only [initS, x_seq, x_if, x_or, x_orT, x_not, x_notT, x_tst, x_bnd, x_get, x_look, List.map_cons, List.map_nil, List.length_cons, List.length_nil, List.cons_append, List.nil_append, List.replicate, List.getElem?_cons_zero, x_ok, h, x_asB, Bool.not_false, if_true, x_ret, x_retM, x_rt, Nat.reduceAdd, Nat.reduceSub, ite_true, x_ite]
  try rfl
theorem sm_tx {cs : List Nat} (h : ∀ c ∈ cs, c < 1114112) : SmE (.str (tx cs)) := .inl ⟨(Eqd.tx (n := 0) h).1, Nat.zero_le _⟩
theorem odd_tx {cs : List Nat} (h : ∀ c ∈ cs, c < 1114112) (w : ∀ vh, F_is_word [.str (tx cs)] vh = some (.bl false)) : Odd (.str (tx cs)) := ⟨w, fun _ => rfl, sm_tx h, false, fun _ => rfl⟩
theorem t_odd (z : Int) : ∃ d : D, Odd d ∧ ∀ vh, F_l_odd [.int z] vh = some d := by
  obtain ⟨n, hn⟩ : ∃ n : Nat, z % 11 = (n : Int) := Int.eq_ofNat_of_zero_le (by omega)
  have n11 : n < 11 := by omega
  have tA : ∀ c ∈ cd "a", c < 1114112 := by decide +kernel
  obtain ⟨LL, hLL⟩ : ∃ LL : List D, LL = [.str (tx []), .str (tx (cd "abcdefghijklm")), .str (tx (cd "Ab")), .str (tx (cd "a b")), .str (tx (cd "a1")), .int 5, .non, .bl true, .lst [.str (tx (cd "a"))], .tup [.str (tx (cd "a"))], .emp] := ⟨_, rfl⟩
  have go : ∀ d, LL[n]? = some d → Odd d → ∃ d : D, Odd d ∧ ∀ vh, F_l_odd [.int z] vh = some d := fun d hd o => by
    refine ⟨d, o, fun vh => runP_of ?_ (o.n _)⟩
    have ix : atI LL (n : Int) = some d := by rw [atI_ofNat (List.getElem?_eq_some_iff.mp hd).1, hd]
    rw [hLL] at ix
    have fe := fun s => x_frzE (s := s)
    have l11 : lenOk 11 = true := rfl
    have l1 : lenOk 1 = true := rfl
    unfold g_l_odd
    walk_at "fe"
    try exact ⟨_, rfl⟩
  match n, n11 with
  | 0, _ => exact go _ (by rw [hLL]; rfl) (odd_tx (by decide +kernel) (no_len (by decide +kernel) (by decide +kernel)))
  | 1, _ => exact go _ (by rw [hLL]; rfl) (odd_tx (by decide +kernel) (no_len (by decide +kernel) (by decide +kernel)))
  | 2, _ => exact go _ (by rw [hLL]; rfl) (odd_tx (by decide +kernel) (no_sign (by decide +kernel) (by decide +kernel) (by decide +kernel)))
  | 3, _ => exact go _ (by rw [hLL]; rfl) (odd_tx (by decide +kernel) (no_sign (by decide +kernel) (by decide +kernel) (by decide +kernel)))
  | 4, _ => exact go _ (by rw [hLL]; rfl) (odd_tx (by decide +kernel) (no_sign (by decide +kernel) (by decide +kernel) (by decide +kernel)))
  | 5, _ => exact go _ (by rw [hLL]; rfl) ⟨no_text fun _ => rfl, fun _ => rfl, .inl ⟨rfl, Nat.zero_le _⟩, false, fun _ => rfl⟩
  | 6, _ => exact go _ (by rw [hLL]; rfl) ⟨no_text fun _ => rfl, fun _ => rfl, .inl ⟨rfl, Nat.zero_le _⟩, false, fun _ => rfl⟩
  | 7, _ => exact go _ (by rw [hLL]; rfl) ⟨no_text fun _ => rfl, fun _ => rfl, .inl ⟨rfl, Nat.zero_le _⟩, true, fun _ => rfl⟩
  | 8, _ => exact go _ (by rw [hLL]; rfl) ⟨no_text fun _ => rfl, fun _ => rfl, .inl ⟨(Eqd.lst (n := 0) fun d hd => by rw [List.mem_singleton.mp hd]; exact Eqd.tx tA).1, by decide⟩, false, fun _ => rfl⟩
  | 9, _ => exact go _ (by rw [hLL]; rfl) ⟨no_text fun _ => rfl, fun _ => rfl, .inl ⟨(Eqd.tup (n := 0) fun d hd => by rw [List.mem_singleton.mp hd]; exact Eqd.tx tA).1, by decide⟩, false, fun _ => rfl⟩
  | 10, _ => exact go _ (by rw [hLL]; rfl) ⟨no_text fun _ => rfl, fun _ => rfl, .inr rfl, false, fun _ => rfl⟩
  | n + 11, h => omega
/-! k71: a shelf made -/
theorem sf_pages {v : D} {n : Nat} {s : Fx.S} : stoR "Shelf" "pages" v n (some (.obj "Shelf" [])) s = .ok .nx ⟨s.loc, s.vh.set n (.obj "Shelf" [("pages", v)])⟩ := nr rfl
theorem sf_makes {v x : D} {n : Nat} {s : Fx.S} : stoR "Shelf" "makes" v n (some (.obj "Shelf" [("pages", x)])) s = .ok .nx ⟨s.loc, s.vh.set n (.obj "Shelf" [("pages", x), ("makes", v)])⟩ := nr rfl
theorem sf_titles {v x y : D} {n : Nat} {s : Fx.S} : stoR "Shelf" "titles" v n (some (.obj "Shelf" [("pages", x), ("makes", y)])) s = .ok .nx ⟨s.loc, s.vh.set n (.obj "Shelf" [("pages", x), ("makes", y), ("titles", v)])⟩ := nr rfl
theorem sp_1 {v : D} {n : Nat} {s : Fx.S} : stoR "Pages" "standing" v n (some (.obj "Pages" [])) s = .ok .nx ⟨s.loc, s.vh.set n (.obj "Pages" [("standing", v)])⟩ := nr rfl
theorem sp_2 {v x : D} {n : Nat} {s : Fx.S} : stoR "Pages" "known" v n (some (.obj "Pages" [("standing", x)])) s = .ok .nx ⟨s.loc, s.vh.set n (.obj "Pages" [("standing", x), ("known", v)])⟩ := nr rfl
theorem sp_3 {v x y : D} {n : Nat} {s : Fx.S} : stoR "Pages" "coming" v n (some (.obj "Pages" [("standing", x), ("known", y)])) s = .ok .nx ⟨s.loc, s.vh.set n (.obj "Pages" [("standing", x), ("known", y), ("coming", v)])⟩ := nr rfl
def pgC (a b : Nat) : Cell := .obj "Pages" [("standing", .cell a), ("known", .cell b), ("coming", .int 0)]
theorem t_pinit (vh : List Cell) : F_Pages_init [.cell vh.length] (vh ++ [.obj "Pages" []]) = some (.non, vh ++ [pgC (vh.length + 1) (vh.length + 2), .dct [], .dct []]) := by
  refine runS_nx ?_
  unfold g_Pages_init
  walk_at "fyh"
  simp only [sp_1]
  walk_at "fyh"
  simp only [sp_2]
  walk_at "fyh"
  simp only [sp_3]
  walk_at "fyh"
  exact ⟨_, rfl⟩
def shC (v : Nat) : List Cell := [shO (v + 1) (v + 4) (v + 7), pgC (v + 2) (v + 3), .dct [], .dct [], mkO (v + 5) (v + 6) 1, .dct [(.inl 0, .tup [])], .dct [(.inl 0, noT)], .dct []]
theorem t_sinit (vh : List Cell) : F_Shelf_init [.cell vh.length] (vh ++ [.obj "Shelf" []]) = some (.non, vh ++ shC vh.length) := by
  have p := t_pinit (vh ++ [.obj "Shelf" []])
  have e1 : (vh ++ [Cell.obj "Shelf" []]).length = vh.length + 1 := by simp
  rw [e1, List.append_assoc, List.append_assoc] at p
  have m := t_init (vh ++ [.obj "Shelf" [("pages", .cell (vh.length + 1))], pgC (vh.length + 2) (vh.length + 3), .dct [], .dct []])
  have e2 : (vh ++ [Cell.obj "Shelf" [("pages", .cell (vh.length + 1))], pgC (vh.length + 2) (vh.length + 3), .dct [], .dct []]).length = vh.length + 4 := by simp
  rw [e2, List.append_assoc, List.append_assoc] at m
  simp only [List.cons_append, List.nil_append] at p m
  refine runS_nx ?_
  unfold g_Shelf_init
  walk_at "fyh"
  simp only [sf_pages]
  walk_at "fyh"
  simp only [sf_makes]
  walk_at "fyh"
  simp only [sf_titles]
  walk_at "fyh"
  exact ⟨_, rfl⟩
/-! k71: one deed, told and due -/
theorem mp_no {α : Type} {a b : Nat} {n : Int} {r : Res α} : metR "Pages" "numbers" (some (mkO a b n)) r = .bad := nr rfl
theorem range_sorted (m : Nat) : sortZ (rangeI m) = rangeI m := by
  refine (eq_sortZ (List.Perm.refl _) ?_).symm
  unfold rangeI
  rw [List.pairwise_map]
  exact List.pairwise_lt_range.imp fun h => by omega
theorem t_nums {vh : List Cell} {i a b : Nat} {e : Int → List Int} {t : Int → D} {n : Int} {m : Nat} (M : MA vh i a b (rangeI m) e t n) : F_Makes_numbers [.cell i] vh = some (.lst ((rangeI m).map D.int)) := by
  have h1 := M.o
  have h2 := M.few
  have e1 := fun l => x_sortD (s := ⟨l, vh⟩) M.k M.few
  rw [range_sorted] at e1
  refine runP_of ⟨[some (.cell i)], ?_⟩ (ncL_ints _ _)
  unfold g_Makes_numbers
  generalize (rangeI m).map D.int = rm at *
  walk_at "fz"
  try rfl
theorem ra_eq {m : Nat} (hm : m ≤ 1000) (s : Fx.S) : listRan [.int m] s = .ok (.lst ((rangeI m).map D.int)) s := by
  unfold listRan
  dsimp only
  rw [if_pos ⟨by omega, by omega⟩]
  rw [Int.toNat_natCast]
  unfold rangeI ranD
  rw [List.map_map]
  congr 2
  refine List.map_congr_left fun k _ => ?_
  show D.int (0 + (k : Int)) = _
  rw [Int.zero_add]
  rfl
theorem t_same {u : List Cell} {a b : Nat} {x y : D} (ha : u[a]? = some (.lst [x, y])) (hb : u[b]? = some (.lst [x, y])) (sx : SmE x) (sy : SmE y) (iy : ∃ b, ∀ s, isaM "bool" y s = .ok (.bl b) s) : F_l_same [.cell a, .cell b] u = some (.bl true) := by
  refine runP_of ⟨[some (.cell a), some (.cell b)], ?_⟩ rfl
  obtain ⟨c, hc⟩ := iy
  have e1 : ∀ l, eqBM (.cell a) (.cell b) ⟨l, u⟩ = .ok (.bl true) ⟨l, u⟩ := fun l => x_eqBC (s := ⟨l, u⟩) ha hb fun z hz => by
    simp only [List.mem_cons, List.not_mem_nil, or_false] at hz
    rcases hz with rfl | rfl
    · exact sx
    · exact sy
  have i1 : ∀ l, ixAM (.cell a) (.int 1) ⟨l, u⟩ = .ok y ⟨l, u⟩ := fun l => by
    rw [x_ixC, show (⟨l, u⟩ : Fx.S).vh[a]? = some (.lst [x, y]) from ha]
    show Res.opt (atI [x, y] 1) _ = _
    rw [at_snd]; rfl
  have i2 : ∀ l, ixAM (.cell b) (.int 1) ⟨l, u⟩ = .ok y ⟨l, u⟩ := fun l => by
    rw [x_ixC, show (⟨l, u⟩ : Fx.S).vh[b]? = some (.lst [x, y]) from hb]
    show Res.opt (atI [x, y] 1) _ = _
    rw [at_snd]; rfl
  have e2 : ∀ s, eqM (.bl c) (.bl c) s = .ok (.bl true) s := fun s => x_eqSelf (Eqd.bl c)
  unfold g_l_same andV
  simp only [initS, List.map_cons, List.map_nil, List.length_cons, List.length_nil, List.cons_append, List.nil_append, Nat.reduceAdd, Nat.reduceSub, List.replicate, x_retM, x_bnd, x_bin, x_get, x_look, List.getElem?_cons_zero, List.getElem?_cons_succ, e1, x_ok, x_asB, if_true, i1, i2, x_ret, hc, e2]
  try rfl
theorem Sh.mv {u v : List Cell} {i p m t : Nat} {ks : List Int} {e : Int → List Int} {tb : Int → D} {n : Int} {kvs kvs' : List (Key × D)} (h : Sh u i p m t ks e tb n kvs) (k : ∀ j x, (j = i ∨ j = m ∨ j = m + 1 ∨ j = m + 2) → u[j]? = some x → v[j]? = some x) (T : v[t]? = some (.dct kvs')) : Sh v i p m t ks e tb n kvs' :=
  ⟨k _ _ (.inl rfl) h.o, ⟨k _ _ (.inr (.inl rfl)) h.M.o, k _ _ (.inr (.inr (.inl rfl))) h.M.k, k _ _ (.inr (.inr (.inr rfl))) h.M.s, h.M.ne, h.M.nd, h.M.few⟩, T⟩
/-- the law's state: both shelves, the law's own names -/
structure I7 (u : List Cell) (many : Nat) (ws : List (List Nat)) (kvs : List (Key × D)) : Prop where
  A : ∃ e t, Sh u 0 1 4 7 (rangeI (many + 1)) e t ((many : Int) + 1) kvs
  B : ∃ e t, Sh u 8 9 12 15 (rangeI 1) e t 1 []
  N : u[16]? = some (.dct kvs)
  nm : Nm ws kvs
section
variable {u v : List Cell} {many : Nat} {ws : List (List Nat)} {kvs kvs' : List (Key × D)}
theorem I7.mv (I : I7 u many ws kvs) (k : ∀ j x, j ≤ 16 → j ≠ 7 → j ≠ 16 → u[j]? = some x → v[j]? = some x) (h7 : v[7]? = some (.dct kvs')) (h16 : v[16]? = some (.dct kvs')) (nm : Nm ws kvs') : I7 v many ws kvs' := by
  obtain ⟨e, t, A⟩ := I.A
  obtain ⟨e', t', B⟩ := I.B
  exact ⟨⟨e, t, A.mv (fun j x hj h => k j x (by omega) (by omega) (by omega) h) h7⟩, ⟨e', t', B.mv (fun j x hj h => k j x (by omega) (by omega) (by omega) h) (k _ _ (by decide) (by decide) (by decide) B.T)⟩, h16, nm⟩
theorem I7.app (I : I7 u many ws kvs) (more : List Cell) : I7 (u ++ more) many ws kvs := by
  obtain ⟨e, t, A⟩ := I.A
  exact I.mv (fun j x _ _ _ h => look_app h more) (look_app A.T more) (look_app I.N more) I.nm
theorem lt_of7 {u : List Cell} {i : Nat} {x : Cell} (h : u[i]? = some x) : i < u.length := (List.getElem?_eq_some_iff.mp h).1
/-- what a deed tells, and what is due -/
theorem deed (I : I7 u many ws kvs) (hws : ∀ w ∈ ws, Wd7 w) (hl : kvs.length < 63) {way : Int} (hway : way = 0 ∨ way = 1 ∨ way = 2) {g : Bool} {d : D} (hg : g = true → ∃ w ∈ ws, d = txD w) (ho : g = false → Odd d) {k : Int} (hk : 0 ≤ k ∧ k ≤ (many : Int) + 1) :
    ∃ u1 v x y kvs', F_l_due [.cell 16, .int many, .int way, d, .bl g, .int k] u = some (.cell u.length, u1 ++ [.lst [x, y]]) ∧ F_l_answer [.cell 0, .int way, d, .int k] (u1 ++ [.lst [x, y]]) = some (.cell v.length, v ++ [.lst [x, y]]) ∧ SmE x ∧ SmE y ∧ (∃ b, ∀ s, isaM "bool" y s = .ok (.bl b) s) ∧ v[u.length]? = some (.lst [x, y]) ∧ I7 v many ws kvs' ∧ kvs'.length ≤ kvs.length + 1 := by
  obtain ⟨e, t, A⟩ := I.A
  have tA : ∀ z : List Nat, (∀ c ∈ z, c < 1114112) → SmE (.str (tx z)) := fun z hz => sm_tx hz
  have told : SmE (.str "told") := sm_tx (cs := cd "told") (by decide +kernel)
  have badw : SmE (.str "bad word") := sm_tx (cs := cd "bad word") (by decide +kernel)
  have nonm : SmE (.str "no name") := sm_tx (cs := cd "no name") (by decide +kernel)
  have nomk : SmE (.str "no make") := sm_tx (cs := cd "no make") (by decide +kernel)
  have snon : SmE .non := .inl ⟨rfl, Nat.zero_le _⟩
  have sint : ∀ j : Int, SmE (.int j) := fun j => .inl ⟨rfl, Nat.zero_le _⟩
  have bnon : ∃ b, ∀ s, isaM "bool" .non s = .ok (.bl b) s := ⟨false, fun _ => rfl⟩
  have bint : ∀ j : Int, ∃ b, ∀ s, isaM "bool" (.int j) s = .ok (.bl b) s := fun j => ⟨false, fun _ => rfl⟩
  have atl : ∀ (w : List Cell) (x : Cell), w.length = u.length → (w ++ [x])[u.length]? = some x := fun w x hw => by rw [← hw]; simp
  have l16 := lt_of7 I.N
  have l7 := lt_of7 A.T
  cases g with
  | false =>
    have o := ho rfl
    rcases hway with rfl | hway
    · -- a bad word given
      refine ⟨u, u ++ [.lst [.str "bad word", .non]], _, _, kvs, d_bad d, ?_, badw, snon, bnon, atl u _ rfl, I.app _, by omega⟩
      have A' : Sh (u ++ [Cell.lst [.str "bad word", .non]]) 0 1 4 7 (rangeI (many + 1)) e t ((many : Int) + 1) kvs := A.mv (fun j x _ h => look_app h _) (look_app A.T _)
      exact a_badW (c0_ex A'.o (g_bad A' o.w k))
    · have A' : Sh (u ++ [Cell.lst [.str "no name", d]]) 0 1 4 7 (rangeI (many + 1)) e t ((many : Int) + 1) kvs := A.mv (fun j x _ h => look_app h _) (look_app A.T _)
      have bb := b_bad A' o.w o.n
      refine ⟨u, u ++ [.lst [.str "no name", d]], _, _, kvs, d_noG (by omega) d, ?_, nonm, o.s, o.b, atl u _ rfl, I.app _, by omega⟩
      rcases hway with rfl | rfl
      · exact a_noN (c1_ex A'.o bb)
      · exact a_noN (c2_ex A'.o (f_exc A' bb))
  | true =>
    obtain ⟨w, hw, rfl⟩ := hg rfl
    have W := hws w hw
    have sw : SmE (txD w) := sm_tx W.lt
    have bw : ∃ b, ∀ s, isaM "bool" (txD w) s = .ok (.bl b) s := ⟨false, fun _ => rfl⟩
    rcases hway with rfl | hway
    · by_cases km : k > (many : Int)
      · have A' : Sh (u ++ [Cell.lst [.str "no make", .int k]]) 0 1 4 7 (rangeI (many + 1)) e t ((many : Int) + 1) kvs := A.mv (fun j x _ h => look_app h _) (look_app A.T _)
        refine ⟨u, u ++ [.lst [.str "no make", .int k]], _, _, kvs, d_make km, ?_, nomk, sint k, bint k, atl u _ rfl, I.app _, by omega⟩
        exact a_noM (c0_ex A'.o (g_no A' W.is fun z => by have := mem_rangeI.mp z; omega))
      · have pl := putA_len (kvs := kvs) (q := .inr (tx w)) (v := .int k)
        have s16 : (u.set 16 (.dct (putA kvs (.inr (tx w)) (.int k)))).length = u.length := List.length_set ..
        have A' : Sh (u.set 16 (.dct (putA kvs (.inr (tx w)) (.int k))) ++ [Cell.lst [.str "told", .non]]) 0 1 4 7 (rangeI (many + 1)) e t ((many : Int) + 1) kvs := A.mv (fun j x hj h => look_app (by rw [List.getElem?_set_ne (by omega)]; exact h) _) (look_app (by rw [List.getElem?_set_ne (by decide)]; exact A.T) _)
        refine ⟨_, _, _, _, putA kvs (.inr (tx w)) (.int k), d_put I.N (by omega) km, a_ok (c0_ok A'.o (g_ok A' W.is (mem_rangeI.mpr (by omega)) (by omega))), told, snon, bnon, ?_, I.mv (fun j x hj h1 h2 h => ?_) ?_ ?_ (I.nm.put hw k (by omega)), pl⟩
        · rw [List.getElem?_set_ne (by omega)]
          exact atl _ _ s16
        · rw [List.getElem?_set_ne (by omega)]
          exact look_app (by rw [List.getElem?_set_ne (by omega)]; exact h) _
        · exact List.getElem?_set_self (by rw [List.length_append, s16]; omega)
        · rw [List.getElem?_set_ne (by decide)]
          exact look_app (List.getElem?_set_self l16) _
    · cases hv : valA kvs (.inr (tx w)) with
      | none =>
        have A' : Sh (u ++ [Cell.lst [.str "no name", txD w]]) 0 1 4 7 (rangeI (many + 1)) e t ((many : Int) + 1) kvs := A.mv (fun j x _ h => look_app h _) (look_app A.T _)
        have bb := b_no A' W.is hv
        refine ⟨u, u ++ [.lst [.str "no name", txD w]], _, _, kvs, d_no (by omega) I.N hv, ?_, nonm, sw, bw, atl u _ rfl, I.app _, by omega⟩
        rcases hway with rfl | rfl
        · exact a_noN (c1_ex A'.o bb)
        · exact a_noN (c2_ex A'.o (f_exc A' bb))
      | some z =>
        have hin : (.inr (tx w) : Key) ∈ kvs.map (·.1) := by
          unfold valA at hv
          cases q : kvs.find? fun kv => decide (kv.1 = .inr (tx w)) with
          | none => rw [q] at hv; cases hv
          | some kv => exact List.mem_map.mpr ⟨kv, List.mem_of_find?_eq_some q, of_decide_eq_true (List.find?_some (p := fun kv : Key × D => decide (kv.1 = (.inr (tx w) : Key))) q)⟩
        obtain ⟨j, hj⟩ := I.nm.val hin
        rw [hj] at hv
        cases hv
        rcases hway with rfl | rfl
        · have A' : Sh (u ++ [Cell.lst [.str "told", .int j]]) 0 1 4 7 (rangeI (many + 1)) e t ((many : Int) + 1) kvs := A.mv (fun j x _ h => look_app h _) (look_app A.T _)
          exact ⟨u, u ++ [.lst [.str "told", .int j]], _, _, kvs, d_told I.N hj, a_ok (c1_ok A'.o (b_ok A' W.is hj)), told, sint j, bint j, atl u _ rfl, I.app _, by omega⟩
        · have s16 : (u.set 16 (.dct (dropA kvs (.inr (tx w))))).length = u.length := List.length_set ..
          have dl : (dropA kvs (.inr (tx w))).length ≤ kvs.length := List.length_filter_le _ _
          have A' : Sh (u.set 16 (.dct (dropA kvs (.inr (tx w)))) ++ [Cell.lst [.str "told", .non]]) 0 1 4 7 (rangeI (many + 1)) e t ((many : Int) + 1) kvs := A.mv (fun j x hj h => look_app (by rw [List.getElem?_set_ne (by omega)]; exact h) _) (look_app (by rw [List.getElem?_set_ne (by decide)]; exact A.T) _)
          refine ⟨_, _, _, _, dropA kvs (.inr (tx w)), d_pop I.N hj, a_ok (c2_ok A'.o (f_ok A' W.is hj)), told, snon, bnon, ?_, I.mv (fun j x hj h1 h2 h => ?_) ?_ ?_ (I.nm.drop _), by omega⟩
          · rw [List.getElem?_set_ne (by omega)]
            exact atl _ _ s16
          · rw [List.getElem?_set_ne (by omega)]
            exact look_app (by rw [List.getElem?_set_ne (by omega)]; exact h) _
          · exact List.getElem?_set_self (by rw [List.length_append, s16]; omega)
          · rw [List.getElem?_set_ne (by decide)]
            exact look_app (List.getElem?_set_self l16) _
end
/-! k71: the law -/
theorem t_notab (vh : List Cell) : F_no_table [] vh = some noT := by
  refine runP_of ?_ rfl
  unfold g_no_table
  walk_at "fy"
  exact ⟨_, rfl⟩
theorem setZ_one (x : Int) : setZ [x] = [x] := ltZ_ext (setZ_lt _) (List.pairwise_singleton _ _) fun b => mem_setZ _
theorem t_cellat8 (ns : List Int) (k : Nat) : ∃ c : Int, ∀ vh, F_l_cell_at [.lst (ns.map D.int), .int k] vh = some (.int c) := by
  refine ⟨ns.getD k 0, fun vh => ?_⟩
  refine runP_of ?_ rfl
  unfold g_l_cell_at
  walk_at "fy"
  rw [List.length_map]
  by_cases c : k < ns.length
  · rw [if_pos (by omega), at_ints c, List.getD_eq_getElem?_getD, List.getElem?_eq_getElem c]
    walk_at "fy"
    exact ⟨_, rfl⟩
  · rw [if_neg (by omega), List.getD_eq_getElem?_getD, List.getElem?_eq_none (by omega)]
    exact ⟨_, rfl⟩
theorem at_mod5 {xs : List D} (hx : xs.length = 5) (z : Int) : ∃ d ∈ xs, atI xs (z % 5) = some d := by
  obtain ⟨n, hn⟩ : ∃ n : Nat, z % 5 = (n : Int) := Int.eq_ofNat_of_zero_le (by omega)
  have hn2 : n < xs.length := by omega
  exact ⟨xs[n], List.getElem_mem hn2, by rw [hn, atI_ofNat hn2, List.getElem?_eq_getElem hn2]⟩
/-- a make more -/
theorem turn_m {u : List Cell} {i : Nat} (hi : i < 5) (A : ∃ e t, Sh u 0 1 4 7 (rangeI (i + 1)) e t ((i : Int) + 1) []) (B : ∃ e t, Sh u 8 9 12 15 (rangeI 1) e t 1 []) (x0 x2 x3 x4 x5 x6 x7 x8 x9 x10 x11 x12 : Option D) :
    ∃ u', b_law_1 ⟨[x0, some (.cell 0), x2, x3, x4, x5, x6, x7, x8, x9, x10, x11, x12], u⟩ = .ok .nx ⟨[x0, some (.cell 0), x2, x3, x4, x5, x6, x7, x8, x9, x10, x11, x12], u'⟩ ∧ u'.length = u.length ∧ (∃ e t, Sh u' 0 1 4 7 (rangeI (i + 1 + 1)) e t ((i : Int) + 1 + 1) []) ∧ (∃ e t, Sh u' 8 9 12 15 (rangeI 1) e t 1 []) := by
  obtain ⟨e, t, A⟩ := A
  obtain ⟨e', t', B⟩ := B
  have hn : ((i : Int) + 1) ∉ rangeI (i + 1) := fun z => by have := mem_rangeI.mp z; omega
  have mk := t_made A.M hn (by rw [rangeI_len]; omega) (es := [0]) (by decide) (by rw [setZ_one]; decide) (by rw [setZ_one]; decide) (fun x hx => by rw [List.mem_singleton.mp hx]; exact mem_rangeI.mpr ⟨by omega, by omega⟩) (tb := noT)
  rw [setZ_one] at mk
  have mk : F_Makes_made [.cell 4, .lst [.int 0], noT] u = some (.int ((i : Int) + 1), outM u 4 5 6 (rangeI (i + 1)) e t ((i : Int) + 1) [0] noT) := mk
  have keep : ∀ j, j ≠ 4 ∧ j ≠ 5 ∧ j ≠ 6 → (outM u 4 5 6 (rangeI (i + 1)) e t ((i : Int) + 1) [0] noT)[j]? = u[j]? := fun j h => by
    unfold outM
    rw [List.getElem?_set_ne (by omega), List.getElem?_set_ne (by omega), List.getElem?_set_ne (by omega)]
  have M' := A.M.out hn [0] noT (by rw [rangeI_len]; omega)
  have rs : rangeI (i + 1) ++ [(i : Int) + 1] = rangeI (i + 1 + 1) := by rw [rangeI_succ (i + 1)]; rfl
  rw [rs] at M'
  refine ⟨outM u 4 5 6 (rangeI (i + 1)) e t ((i : Int) + 1) [0] noT, ?_, outM_len, ⟨_, _, ⟨(keep 0 (by decide)).trans A.o, M', (keep 7 (by decide)).trans A.T⟩⟩, ⟨e', t', B.mv (fun j x hj h => (keep j (by omega)).trans h) ((keep 15 (by decide)).trans B.T)⟩⟩
  have o := A.o
  have mo := A.M.o
  have nt := t_notab
  have l1 : lenOk 1 = true := rfl
  clear A B M' keep hn rs
  generalize outM u 4 5 6 (rangeI (i + 1)) e t ((i : Int) + 1) [0] noT = u2 at *
  generalize (i : Int) + 1 = N at *
  generalize noT = NT at *
  unfold b_law_1
  walk_at "fe"
  try rfl
section
variable {u : List Cell} {many : Nat} {ws : List (List Nat)} {kvs : List (Key × D)}
theorem turn71 (I : I7 u many ws kvs) (hws : ∀ w ∈ ws, Wd7 w) (w5 : ws.length = 5) (hm : many ≤ 100) (hl : kvs.length < 63) (z : Int) (x0 x4 x8 x9 x10 x11 x12 : Option D) :
    ∃ u' kvs' y8 y9 y10 y11 y12, b_law_2 ⟨[x0, some (.cell 0), some (.cell 8), some (.int many), x4, some (.lst (ws.map txD)), some (.cell 16), some (.int z), x8, x9, x10, x11, x12], u⟩ = .ok .nx ⟨[x0, some (.cell 0), some (.cell 8), some (.int many), x4, some (.lst (ws.map txD)), some (.cell 16), some (.int z), y8, y9, y10, y11, y12], u'⟩ ∧ I7 u' many ws kvs' ∧ kvs'.length ≤ kvs.length + 1 := by
  obtain ⟨wd, hwd, ewd⟩ := at_mod5 (xs := ws.map txD) (by rw [List.length_map]; exact w5) (z / 5)
  obtain ⟨w, hw, rfl⟩ := List.mem_map.mp hwd
  obtain ⟨wy, hwy, ewy⟩ := at_mod5 (xs := [D.int 0, .int 0, .int 0, .int 1, .int 2]) rfl z
  obtain ⟨way, hway, rfl⟩ : ∃ way : Int, (way = 0 ∨ way = 1 ∨ way = 2) ∧ wy = .int way := by
    simp only [List.mem_cons, List.not_mem_nil, or_false] at hwy
    rcases hwy with rfl | rfl | rfl | rfl | rfl
    · exact ⟨0, by decide, rfl⟩
    · exact ⟨0, by decide, rfl⟩
    · exact ⟨0, by decide, rfl⟩
    · exact ⟨1, by decide, rfl⟩
    · exact ⟨2, by decide, rfl⟩
  obtain ⟨od, ho, eo⟩ := t_odd (z / 125)
  have md : ∀ s, modM (.int (z / 125)) (.int ((many : Int) + 2)) s = .ok (.int (z / 125 % ((many : Int) + 2))) s := fun s => x_mod (by omega)
  have k0 : 0 ≤ z / 125 % ((many : Int) + 2) ∧ z / 125 % ((many : Int) + 2) ≤ (many : Int) + 1 := by
    have := Int.emod_nonneg (z / 125) (show (many : Int) + 2 ≠ 0 by omega)
    have := Int.emod_lt_of_pos (z / 125) (show (0 : Int) < (many : Int) + 2 by omega)
    omega
  have go : ∀ (g : Bool) (d : D), decide (z / 25 % 5 > 0) = g → (g = true → d = txD w) → (g = false → d = od) → ∃ u' kvs' y8 y9 y10 y11 y12, b_law_2 ⟨[x0, some (.cell 0), some (.cell 8), some (.int many), x4, some (.lst (ws.map txD)), some (.cell 16), some (.int z), x8, x9, x10, x11, x12], u⟩ = .ok .nx ⟨[x0, some (.cell 0), some (.cell 8), some (.int many), x4, some (.lst (ws.map txD)), some (.cell 16), some (.int z), y8, y9, y10, y11, y12], u'⟩ ∧ I7 u' many ws kvs' ∧ kvs'.length ≤ kvs.length + 1 := fun g d hg h1 h2 => by
    obtain ⟨u1, v, x, y, kvs', d1, d2, sx, sy, iy, vL, I', hk⟩ := deed I hws hl hway (g := g) (d := d) (fun q => ⟨w, hw, h1 q⟩) (fun q => by rw [h2 q]; exact ho) k0
    have I2 := I'.app [.lst [x, y]]
    obtain ⟨e, t, A2⟩ := I2.A
    have sm := t_same (u := v ++ [Cell.lst [x, y]]) (a := v.length) (b := u.length) (by simp) (look_app vL _) sx sy iy
    have nm := t_lnamed A2 I2.nm (fun w hw => (hws w hw).lt) I2.N
    have nu := t_nums A2.M
    have o2 := A2.o
    have mo := A2.M.o
    have ra := fun s => ra_eq (m := many + 1) (by omega) s
    have ra : ∀ s, listRan [.int ((many : Int) + 1)] s = .ok (.lst ((rangeI (many + 1)).map D.int)) s := ra
    have ne : ∀ s, neM (.lst ((rangeI (many + 1)).map D.int)) (.lst ((rangeI (many + 1)).map D.int)) s = .ok (.bl false) s := fun s => by
      rw [x_neIs, decide_eq_true rfl]; rfl
    refine ⟨v ++ [.lst [x, y]], kvs', some (.int way), some d, some (.bl g), some (.int (z / 125 % ((many : Int) + 2))), some (.cell u.length), ?_, I2, hk⟩
    have l5 : lenOk 5 = true := rfl
    have mp := fun (a b : Nat) (n : Int) => @mp_no D a b n
    have mn := fun (a b : Nat) (n : Int) (r : Res D) => (nr rfl : metR "Makes" "numbers" (some (mkO a b n)) r = r)
    clear I I' I2 A2 hws hl hway hwd hw hwy k0 ho vL hk hm w5 sx sy iy
    generalize (rangeI (many + 1)).map D.int = RG at *
    generalize v ++ [Cell.lst [x, y]] = u3 at *
    generalize u1 ++ [Cell.lst [x, y]] = u2 at *
    generalize ws.map txD = WS at *
    generalize v.length = VL at *
    generalize u.length = UL at *
    generalize (many : Int) = M at *
    generalize z / 125 % (M + 2) = K at *
    cases g with
    | true =>
      have e := h1 rfl
      subst e
      clear h1 h2
      unfold b_law_2
      walk_at "fe"
      try rfl
    | false =>
      have e := h2 rfl
      subst e
      clear h1 h2
      unfold b_law_2
      walk_at "fe"
      try rfl
  cases hg : decide (z / 25 % 5 > 0) with
  | true => exact go true (txD w) hg (fun _ => rfl) (fun q => by cases q)
  | false => exact go false od hg (fun q => by cases q) (fun _ => rfl)
end
theorem cut_60 (ns : List Int) : ∃ zs : List Int, Fx.cutD (ns.map D.int) (some 2) (some 60) = zs.map D.int ∧ zs.length ≤ 58 := by
  have a : HT.sIx (ns.map D.int).length 0 (some (2 : Int)) = min 2 (ns.map D.int).length := HT.sIx_nat _ _ 2
  have b : HT.sIx (ns.map D.int).length (ns.map D.int).length (some (60 : Int)) = min 60 (ns.map D.int).length := HT.sIx_nat _ _ 60
  refine ⟨(ns.drop (min 2 (ns.map D.int).length)).take (min 60 (ns.map D.int).length - min 2 (ns.map D.int).length), ?_, by rw [List.length_take]; omega⟩
  unfold Fx.cutD
  rw [a, b, List.map_take, List.map_drop]
theorem law_true (ns : List Int) (hlen : ns.length ≤ 63) (hbits : ∀ z ∈ ns, Builtin.Int.intBits z ≤ 1048576) : F_law [.lst (ns.map D.int)] [] = some (.bl true) := by
  obtain ⟨c0, e0⟩ := t_cellat8 ns 0
  obtain ⟨c1, e1⟩ := t_cellat8 ns 1
  have e0 : ∀ vh, F_l_cell_at [.lst (ns.map D.int), .int 0] vh = some (.int c0) := e0
  have e1 : ∀ vh, F_l_cell_at [.lst (ns.map D.int), .int 1] vh = some (.int c1) := e1
  obtain ⟨many, hm⟩ : ∃ m : Nat, c0 % 5 = (m : Int) := Int.eq_ofNat_of_zero_le (by omega)
  have m5 : many < 5 := by omega
  have s1 : F_Shelf_init [.cell 0] [.obj "Shelf" []] = some (.non, shC 0) := t_sinit []
  have s2 : F_Shelf_init [.cell 8] (shC 0 ++ [.obj "Shelf" []]) = some (.non, shC 0 ++ shC 8) := t_sinit (shC 0)
  have MA0 : ∀ (u : List Cell) (m : Nat), u[m]? = some (mkO (m + 1) (m + 2) 1) → u[m + 1]? = some (.dct [(.inl 0, .tup [])]) → u[m + 2]? = some (.dct [(.inl 0, noT)]) → MA u m (m + 1) (m + 2) (rangeI 1) (fun _ => []) (fun _ => noT) 1 := fun u m h1 h2 h3 => ⟨h1, h2, h3, by omega, rangeI_nd _, by rw [rangeI_len]; decide⟩
  have A0 : ∃ e t, Sh (shC 0 ++ shC 8) 0 1 4 7 (rangeI (0 + 1)) e t (((0 : Nat) : Int) + 1) [] := ⟨_, _, rfl, MA0 _ 4 rfl rfl rfl, rfl⟩
  have B0 : ∃ e t, Sh (shC 0 ++ shC 8) 8 9 12 15 (rangeI 1) e t 1 [] := ⟨_, _, rfl, MA0 _ 12 rfl rfl rfl, rfl⟩
  obtain ⟨sA, lpA, x4, u, hul, A, B, hs⟩ := loopM_run (ok := fun _ => True) (t := setL 4) (b := b_law_1) (fun i s => ∃ x4 u, u.length = 16 ∧ (∃ e t, Sh u 0 1 4 7 (rangeI (i + 1)) e t ((i : Int) + 1) []) ∧ (∃ e t, Sh u 8 9 12 15 (rangeI 1) e t 1 []) ∧ s = ⟨[some (.lst (ns.map D.int)), some (.cell 0), some (.cell 8), some (.int many), x4, none, none, none, none, none, none, none, none], u⟩) (ranD 0 many) ⟨[some (.lst (ns.map D.int)), some (.cell 0), some (.cell 8), some (.int many), none, none, none, none, none, none, none, none, none], shC 0 ++ shC 8⟩ (fun _ _ _ => trivial)
    (fun i d s hi ⟨x4, u, hul, A, B, hs⟩ => by
      subst hs
      obtain ⟨hi1, rfl⟩ := ranD_at hi
      obtain ⟨u', t1, t2, t3, t4⟩ := turn_m (i := i) (by omega) A B (some (.lst (ns.map D.int))) (some (.cell 8)) (some (.int many)) (some (.int (0 + (i : Int)))) none none none none none none none none
      refine ⟨_, rfl, _, .inl t1, some (.int (0 + (i : Int))), u', by omega, ?_, t4, rfl⟩
      have e : ((i + 1 : Nat) : Int) + 1 = (i : Int) + 1 + 1 := by omega
      rw [e]
      exact t3)
    ⟨none, shC 0 ++ shC 8, rfl, A0, B0, rfl⟩
  rw [ranD_len] at A
  subst hs
  obtain ⟨ws, w5, hws, ew⟩ := t_words c1 u
  obtain ⟨zs, hz, hzl⟩ := cut_60 ns
  have at16 : (u ++ [Cell.dct []])[16]? = some (.dct []) := by rw [← hul]; simp
  have I0 : I7 (u ++ [Cell.dct []]) many ws [] := by
    obtain ⟨e, t, A⟩ := A
    obtain ⟨e', t', B⟩ := B
    exact ⟨⟨e, t, A.mv (fun j x _ h => look_app h _) (look_app A.T _)⟩, ⟨e', t', B.mv (fun j x _ h => look_app h _) (look_app B.T _)⟩, at16, ⟨fun kv h => (by cases h), List.Pairwise.nil, by decide⟩⟩
  obtain ⟨sB, lpB, kvs, y7, y8, y9, y10, y11, y12, v, I, hk, hs⟩ := loopM_run (ok := fun s' => itemsOf s' (.lst (zs.map D.int)) = some (zs.map D.int)) (t := setL 7) (b := b_law_2) (fun i s => ∃ kvs y7 y8 y9 y10 y11 y12 u, I7 u many ws kvs ∧ kvs.length ≤ i ∧ s = ⟨[some (.lst (ns.map D.int)), some (.cell 0), some (.cell 8), some (.int many), x4, some (.lst (ws.map txD)), some (.cell 16), y7, y8, y9, y10, y11, y12], u⟩) (zs.map D.int) ⟨[some (.lst (ns.map D.int)), some (.cell 0), some (.cell 8), some (.int many), x4, some (.lst (ws.map txD)), some (.cell 16), none, none, none, none, none, none], u ++ [Cell.dct []]⟩ (fun _ _ _ => rfl)
    (fun i d s hi ⟨kvs, y7, y8, y9, y10, y11, y12, u, I, hk, hs⟩ => by
      subst hs
      have hi2 := (List.getElem?_eq_some_iff.mp hi).1
      rw [List.length_map] at hi2
      rw [List.getElem?_map, List.getElem?_eq_getElem hi2] at hi
      have hi3 : some (D.int zs[i]) = some d := hi
      cases hi3
      obtain ⟨u', kvs', z8, z9, z10, z11, z12, t1, t2, t3⟩ := turn71 I hws w5 (by omega) (by omega) zs[i] (some (.lst (ns.map D.int))) x4 y8 y9 y10 y11 y12
      exact ⟨_, rfl, _, .inl t1, kvs', some (.int zs[i]), z8, z9, z10, z11, z12, u', t2, by omega, rfl⟩)
    ⟨[], none, none, none, none, none, none, _, I0, Nat.le_refl _, rfl⟩
  subst hs
  obtain ⟨w0, hw0, ew0⟩ : ∃ w ∈ ws, atI (ws.map txD) 0 = some (txD w) := by
    match ws, w5 with
    | w :: r, _ => exact ⟨w, List.mem_cons_self, by rw [List.map_cons, at_hd]⟩
  obtain ⟨e, t, A2⟩ := I.A
  obtain ⟨e', t', B2⟩ := I.B
  have nm := t_lnamed A2 I.nm (fun w hw => (hws w hw).lt) I.N
  have nb : F_Shelf_named [.cell 8] v = some (.lst (rowsN [] [])) := t_named (ws := ws) B2 ⟨fun kv h => (by cases h), List.Pairwise.nil, by decide⟩ rfl
  have r0 : rowsN [] [] = [] := by
    unfold rowsN
    rw [List.length_eq_zero_iff.mp (sortW_perm []).length_eq]
    rfl
  rw [r0] at nb
  have an := a_noN (way := 1) (k := 0) (c1_ex B2.o (b_no B2 (hws w0 hw0).is rfl))
  have q1 : ∀ s : Fx.S, eqM (.lst []) (.lst []) s = .ok (.bl true) s := fun s => x_eqSelf (Eqd.mono (Eqd.lst (n := 0) fun d hd => by cases hd) (by decide))
  have q2 : ∀ l, eqM (.cell v.length) (.lst [.str "no name", txD w0]) ⟨l, v ++ [.lst [.str "no name", txD w0]]⟩ = .ok (.bl true) ⟨l, v ++ [.lst [.str "no name", txD w0]]⟩ := fun l => x_eqCSelf (s := ⟨l, v ++ [.lst [.str "no name", txD w0]]⟩) (by simp) (Eqd.mono (Eqd.lst (n := 0) fun d hd => by
    simp only [List.mem_cons, List.not_mem_nil, or_false] at hd
    rcases hd with rfl | rfl
    · exact Eqd.tx (cs := cd "no name") (by decide +kernel)
    · exact Eqd.tx (hws w0 hw0).lt) (by decide))
  have q2 : ∀ l, eqM (.cell v.length) (.lst [.str (tx (cd "no name")), txD w0]) ⟨l, v ++ [.lst [.str "no name", txD w0]]⟩ = .ok (.bl true) ⟨l, v ++ [.lst [.str "no name", txD w0]]⟩ := q2
  have rn : ∀ s, ran1I [.int (many : Int)] s = .ok ⟨ranD 0 many, fun _ => True⟩ s := fun s => by
    rw [x_ran1 (okB_of (by omega) (by omega)), Int.toNat_natCast]
  have sl : ∀ s, slV (.lst (ns.map D.int)) (some 2) (some 60) s = .ok (.lst (zs.map D.int)) s := fun s => by rw [x_slVL, hz]
  have sq : ∀ s, seqI (.lst (zs.map D.int)) s = .ok ⟨zs.map D.int, fun s' => itemsOf s' (.lst (zs.map D.int)) = some (zs.map D.int)⟩ s := fun _ => rfl
  have md : ∀ s, modM (.int c0) (.int 5) s = .ok (.int (many : Int)) s := fun s => by rw [x_mod (by decide), hm]
  have l2 : lenOk 2 = true := rfl
  have u16 : u.length = 16 := hul
  have l8 : (shC 0).length = 8 := rfl
  have ob := B2.o
  have oa := A2.o
  refine runP_more ⟨[some (.lst (ns.map D.int)), some (.cell 0), some (.cell 8), some (.int many), x4, some (.lst (ws.map txD)), some (.cell 16), y7, y8, y9, y10, y11, some (.lst [.str "no name", txD w0])], v ++ [.lst [.str "no name", txD w0]], ?_⟩ rfl
  rw [List.nil_append]
  clear A B I I0 A2 B2 hws w5 hlen hbits at16 A0 B0 MA0 hz hzl hw0 hk m5 hm r0 hul
  generalize ranD 0 many = RD at *
  generalize shC 0 ++ shC 8 = u0 at *
  generalize v ++ [Cell.lst [.str "no name", txD w0]] = v2 at *
  generalize zs.map D.int = ZL at *
  generalize ns.map D.int = SL at *
  generalize ws.map txD = WS at *
  generalize v.length = VL at *
  unfold g_law andV
  walk_at "fe"
  try rfl
end My

/-! ### the end -/
namespace Wktwigtable_k71_names
open PySem PySem.Spec PyProof.Rows L2 Fx
theorem all_mk {K : PySem.W.Frag} {h : Heap} {mg : Str → Option Value} (X : K.In h) (G : h.Ns mainGlobals mg)
    {f0 oc0 kV0 dc0 pm0 cd0 ct0} {od0 an0 : Option Addr} {sl0 : Array (Option Value)} (a0 : PySem.W.nsIn K mainGlobals "is_word" = some (some (.ref f0))) (l0 : K.lookup f0 = some ⟨oc0, od0, .func (PySem.W.fnOf "is_word" "is_word" (defArgs s_is_word) (defBody s_is_word) (defScope s_is_word) .none kV0 dc0 pm0 an0 cd0 ct0), sl0⟩) (c0 : PySem.W.codeIn K cd0 "is_word" = true) (k0 : PySem.W.keepIn K (.ref f0) = true)
    {f1 oc1 kV1 dc1 pm1 cd1 ct1} {od1 an1 : Option Addr} {sl1 : Array (Option Value)} (a1 : PySem.W.nsIn K mainGlobals "no_table" = some (some (.ref f1))) (l1 : K.lookup f1 = some ⟨oc1, od1, .func (PySem.W.fnOf "no_table" "no_table" (defArgs s_no_table) (defBody s_no_table) (defScope s_no_table) .none kV1 dc1 pm1 an1 cd1 ct1), sl1⟩) (c1 : PySem.W.codeIn K cd1 "no_table" = true) (k1 : PySem.W.keepIn K (.ref f1) = true)
    {f2 oc2 kV2 dc2 pm2 cd2 ct2} {od2 an2 : Option Addr} {sl2 : Array (Option Value)} (a2 : PySem.W.nsIn K mainGlobals "_law_cell_at" = some (some (.ref f2))) (l2 : K.lookup f2 = some ⟨oc2, od2, .func (PySem.W.fnOf "_law_cell_at" "_law_cell_at" (defArgs s_l_cell_at) (defBody s_l_cell_at) (defScope s_l_cell_at) .none kV2 dc2 pm2 an2 cd2 ct2), sl2⟩) (c2 : PySem.W.codeIn K cd2 "_law_cell_at" = true) (k2 : PySem.W.keepIn K (.ref f2) = true)
    {f3 oc3 kV3 dc3 pm3 cd3 ct3} {od3 an3 : Option Addr} {sl3 : Array (Option Value)} (a3 : PySem.W.nsIn K mainGlobals "_law_mix" = some (some (.ref f3))) (l3 : K.lookup f3 = some ⟨oc3, od3, .func (PySem.W.fnOf "_law_mix" "_law_mix" (defArgs s_l_mix) (defBody s_l_mix) (defScope s_l_mix) .none kV3 dc3 pm3 an3 cd3 ct3), sl3⟩) (c3 : PySem.W.codeIn K cd3 "_law_mix" = true) (k3 : PySem.W.keepIn K (.ref f3) = true)
    {f4 oc4 kV4 dc4 pm4 cd4 ct4} {od4 an4 : Option Addr} {sl4 : Array (Option Value)} (a4 : PySem.W.nsIn K mainGlobals "_law_words" = some (some (.ref f4))) (l4 : K.lookup f4 = some ⟨oc4, od4, .func (PySem.W.fnOf "_law_words" "_law_words" (defArgs s_l_words) (defBody s_l_words) (defScope s_l_words) .none kV4 dc4 pm4 an4 cd4 ct4), sl4⟩) (c4 : PySem.W.codeIn K cd4 "_law_words" = true) (k4 : PySem.W.keepIn K (.ref f4) = true)
    {f5 oc5 kV5 dc5 pm5 cd5 ct5} {od5 an5 : Option Addr} {sl5 : Array (Option Value)} (a5 : PySem.W.nsIn K mainGlobals "_law_odd" = some (some (.ref f5))) (l5 : K.lookup f5 = some ⟨oc5, od5, .func (PySem.W.fnOf "_law_odd" "_law_odd" (defArgs s_l_odd) (defBody s_l_odd) (defScope s_l_odd) .none kV5 dc5 pm5 an5 cd5 ct5), sl5⟩) (c5 : PySem.W.codeIn K cd5 "_law_odd" = true) (k5 : PySem.W.keepIn K (.ref f5) = true)
    {f6 oc6 kV6 dc6 pm6 cd6 ct6} {od6 an6 : Option Addr} {sl6 : Array (Option Value)} (a6 : PySem.W.nsIn K mainGlobals "_law_answer" = some (some (.ref f6))) (l6 : K.lookup f6 = some ⟨oc6, od6, .func (PySem.W.fnOf "_law_answer" "_law_answer" (defArgs s_l_answer) (defBody s_l_answer) (defScope s_l_answer) .none kV6 dc6 pm6 an6 cd6 ct6), sl6⟩) (c6 : PySem.W.codeIn K cd6 "_law_answer" = true) (k6 : PySem.W.keepIn K (.ref f6) = true)
    {f7 oc7 kV7 dc7 pm7 cd7 ct7} {od7 an7 : Option Addr} {sl7 : Array (Option Value)} (a7 : PySem.W.nsIn K mainGlobals "_law_due" = some (some (.ref f7))) (l7 : K.lookup f7 = some ⟨oc7, od7, .func (PySem.W.fnOf "_law_due" "_law_due" (defArgs s_l_due) (defBody s_l_due) (defScope s_l_due) .none kV7 dc7 pm7 an7 cd7 ct7), sl7⟩) (c7 : PySem.W.codeIn K cd7 "_law_due" = true) (k7 : PySem.W.keepIn K (.ref f7) = true)
    {f8 oc8 kV8 dc8 pm8 cd8 ct8} {od8 an8 : Option Addr} {sl8 : Array (Option Value)} (a8 : PySem.W.nsIn K mainGlobals "_law_same" = some (some (.ref f8))) (l8 : K.lookup f8 = some ⟨oc8, od8, .func (PySem.W.fnOf "_law_same" "_law_same" (defArgs s_l_same) (defBody s_l_same) (defScope s_l_same) .none kV8 dc8 pm8 an8 cd8 ct8), sl8⟩) (c8 : PySem.W.codeIn K cd8 "_law_same" = true) (k8 : PySem.W.keepIn K (.ref f8) = true)
    {f9 oc9 kV9 dc9 pm9 cd9 ct9} {od9 an9 : Option Addr} {sl9 : Array (Option Value)} (a9 : PySem.W.nsIn K mainGlobals "_law_named" = some (some (.ref f9))) (l9 : K.lookup f9 = some ⟨oc9, od9, .func (PySem.W.fnOf "_law_named" "_law_named" (defArgs s_l_named) (defBody s_l_named) (defScope s_l_named) .none kV9 dc9 pm9 an9 cd9 ct9), sl9⟩) (c9 : PySem.W.codeIn K cd9 "_law_named" = true) (k9 : PySem.W.keepIn K (.ref f9) = true)
    {f10 oc10 kV10 dc10 pm10 cd10 ct10} {od10 an10 : Option Addr} {sl10 : Array (Option Value)} (a10 : PySem.W.nsIn K mainGlobals "law" = some (some (.ref f10))) (l10 : K.lookup f10 = some ⟨oc10, od10, .func (PySem.W.fnOf "law" "law" (defArgs s_law) (defBody s_law) (defScope s_law) .none kV10 dc10 pm10 an10 cd10 ct10), sl10⟩) (c10 : PySem.W.codeIn K cd10 "law" = true) (k10 : PySem.W.keepIn K (.ref f10) = true)
    {f11 oc11 kV11 dc11 pm11 cd11 ct11} {od11 an11 : Option Addr} {sl11 : Array (Option Value)} (a11 : PySem.W.nsIn K mainGlobals "_law_called" = some (some (.ref f11))) (l11 : K.lookup f11 = some ⟨oc11, od11, .func (PySem.W.fnOf "_law_called" "_law_called" (defArgs s_l_called) (defBody s_l_called) (defScope s_l_called) .none kV11 dc11 pm11 an11 cd11 ct11), sl11⟩) (c11 : PySem.W.codeIn K cd11 "_law_called" = true) (k11 : PySem.W.keepIn K (.ref f11) = true)
    {C_Pages} (ac_Pages : PySem.W.nsIn K mainGlobals "Pages" = some (some (.ref C_Pages))) (pg_Pages : PySem.W.plainGet K C_Pages Str.empty = true) (hd_Pages : PySem.W.hasDictIn K C_Pages = true) (po_Pages : PySem.W.plainOver K C_Pages = true) (sa_Pages : PySem.W.findIn K (.ref C_Pages) "__setattr__" = some (some (.builtin "object.__setattr__")))
    {C_Makes} (ac_Makes : PySem.W.nsIn K mainGlobals "Makes" = some (some (.ref C_Makes))) (pg_Makes : PySem.W.plainGet K C_Makes Str.empty = true) (hd_Makes : PySem.W.hasDictIn K C_Makes = true) (po_Makes : PySem.W.plainOver K C_Makes = true) (sa_Makes : PySem.W.findIn K (.ref C_Makes) "__setattr__" = some (some (.builtin "object.__setattr__")))
    {C_Shelf} (ac_Shelf : PySem.W.nsIn K mainGlobals "Shelf" = some (some (.ref C_Shelf))) (pg_Shelf : PySem.W.plainGet K C_Shelf Str.empty = true) (hd_Shelf : PySem.W.hasDictIn K C_Shelf = true) (po_Shelf : PySem.W.plainOver K C_Shelf = true) (sa_Shelf : PySem.W.findIn K (.ref C_Shelf) "__setattr__" = some (some (.builtin "object.__setattr__")))
    (mk_Pages : PySem.W.makesIn K C_Pages = true) (kc_Pages : PySem.W.keepIn K (.ref C_Pages) = true)
    (mk_Makes : PySem.W.makesIn K C_Makes = true) (kc_Makes : PySem.W.keepIn K (.ref C_Makes) = true)
    (mk_Shelf : PySem.W.makesIn K C_Shelf = true) (kc_Shelf : PySem.W.keepIn K (.ref C_Shelf) = true)
    (na_Pages_coming : PySem.W.findIn K (.ref C_Pages) "coming" = some none)
    (na_Pages_known : PySem.W.findIn K (.ref C_Pages) "known" = some none)
    (na_Pages_standing : PySem.W.findIn K (.ref C_Pages) "standing" = some none)
    (na_Makes_count : PySem.W.findIn K (.ref C_Makes) "count" = some none)
    (na_Makes_kin : PySem.W.findIn K (.ref C_Makes) "kin" = some none)
    (na_Makes_states : PySem.W.findIn K (.ref C_Makes) "states" = some none)
    (na_Shelf_makes : PySem.W.findIn K (.ref C_Shelf) "makes" = some none)
    (na_Shelf_pages : PySem.W.findIn K (.ref C_Shelf) "pages" = some none)
    (na_Shelf_titles : PySem.W.findIn K (.ref C_Shelf) "titles" = some none)
    {mf0 moc0 mkV0 mdc0 mpm0 mcd0 mct0} {mod0 man0 : Option Addr} {msl0 : Array (Option Value)} (ma0 : PySem.W.findIn K (.ref C_Makes) "need" = some (some (.ref mf0))) (mi0 : PySem.W.isFn K (.ref mf0) = true) (ml0 : K.lookup mf0 = some ⟨moc0, mod0, .func (PySem.W.fnOf "need" "Makes.need" (defArgs s_Makes_need) (defBody s_Makes_need) (defScope s_Makes_need) .none mkV0 mdc0 mpm0 man0 mcd0 mct0), msl0⟩) (mc0 : PySem.W.codeIn K mcd0 "Makes.need" = true) (mq0 : PySem.W.keepIn K (.ref mf0) = true)
    {mf1 moc1 mkV1 mdc1 mpm1 mcd1 mct1} {mod1 man1 : Option Addr} {msl1 : Array (Option Value)} (ma1 : PySem.W.findIn K (.ref C_Makes) "elders" = some (some (.ref mf1))) (mi1 : PySem.W.isFn K (.ref mf1) = true) (ml1 : K.lookup mf1 = some ⟨moc1, mod1, .func (PySem.W.fnOf "elders" "Makes.elders" (defArgs s_Makes_elders) (defBody s_Makes_elders) (defScope s_Makes_elders) .none mkV1 mdc1 mpm1 man1 mcd1 mct1), msl1⟩) (mc1 : PySem.W.codeIn K mcd1 "Makes.elders" = true) (mq1 : PySem.W.keepIn K (.ref mf1) = true)
    {mf2 moc2 mkV2 mdc2 mpm2 mcd2 mct2} {mod2 man2 : Option Addr} {msl2 : Array (Option Value)} (ma2 : PySem.W.findIn K (.ref C_Shelf) "made_by" = some (some (.ref mf2))) (mi2 : PySem.W.isFn K (.ref mf2) = true) (ml2 : K.lookup mf2 = some ⟨moc2, mod2, .func (PySem.W.fnOf "made_by" "Shelf.made_by" (defArgs s_Shelf_made_by) (defBody s_Shelf_made_by) (defScope s_Shelf_made_by) .none mkV2 mdc2 mpm2 man2 mcd2 mct2), msl2⟩) (mc2 : PySem.W.codeIn K mcd2 "Shelf.made_by" = true) (mq2 : PySem.W.keepIn K (.ref mf2) = true)
    {mf3 moc3 mkV3 mdc3 mpm3 mcd3 mct3} {mod3 man3 : Option Addr} {msl3 : Array (Option Value)} (ma3 : PySem.W.findIn K (.ref C_Shelf) "give" = some (some (.ref mf3))) (mi3 : PySem.W.isFn K (.ref mf3) = true) (ml3 : K.lookup mf3 = some ⟨moc3, mod3, .func (PySem.W.fnOf "give" "Shelf.give" (defArgs s_Shelf_give) (defBody s_Shelf_give) (defScope s_Shelf_give) .none mkV3 mdc3 mpm3 man3 mcd3 mct3), msl3⟩) (mc3 : PySem.W.codeIn K mcd3 "Shelf.give" = true) (mq3 : PySem.W.keepIn K (.ref mf3) = true)
    {mf4 moc4 mkV4 mdc4 mpm4 mcd4 mct4} {mod4 man4 : Option Addr} {msl4 : Array (Option Value)} (ma4 : PySem.W.findIn K (.ref C_Shelf) "forget" = some (some (.ref mf4))) (mi4 : PySem.W.isFn K (.ref mf4) = true) (ml4 : K.lookup mf4 = some ⟨moc4, mod4, .func (PySem.W.fnOf "forget" "Shelf.forget" (defArgs s_Shelf_forget) (defBody s_Shelf_forget) (defScope s_Shelf_forget) .none mkV4 mdc4 mpm4 man4 mcd4 mct4), msl4⟩) (mc4 : PySem.W.codeIn K mcd4 "Shelf.forget" = true) (mq4 : PySem.W.keepIn K (.ref mf4) = true)
    {mf5 moc5 mkV5 mdc5 mpm5 mcd5 mct5} {mod5 man5 : Option Addr} {msl5 : Array (Option Value)} (ma5 : PySem.W.findIn K (.ref C_Shelf) "named" = some (some (.ref mf5))) (mi5 : PySem.W.isFn K (.ref mf5) = true) (ml5 : K.lookup mf5 = some ⟨moc5, mod5, .func (PySem.W.fnOf "named" "Shelf.named" (defArgs s_Shelf_named) (defBody s_Shelf_named) (defScope s_Shelf_named) .none mkV5 mdc5 mpm5 man5 mcd5 mct5), msl5⟩) (mc5 : PySem.W.codeIn K mcd5 "Shelf.named" = true) (mq5 : PySem.W.keepIn K (.ref mf5) = true)
    {mf6 moc6 mkV6 mdc6 mpm6 mcd6 mct6} {mod6 man6 : Option Addr} {msl6 : Array (Option Value)} (ma6 : PySem.W.findIn K (.ref C_Makes) "made" = some (some (.ref mf6))) (mi6 : PySem.W.isFn K (.ref mf6) = true) (ml6 : K.lookup mf6 = some ⟨moc6, mod6, .func (PySem.W.fnOf "made" "Makes.made" (defArgs s_Makes_made) (defBody s_Makes_made) (defScope s_Makes_made) .none mkV6 mdc6 mpm6 man6 mcd6 mct6), msl6⟩) (mc6 : PySem.W.codeIn K mcd6 "Makes.made" = true) (mq6 : PySem.W.keepIn K (.ref mf6) = true)
    {mf7 moc7 mkV7 mdc7 mpm7 mcd7 mct7} {mod7 man7 : Option Addr} {msl7 : Array (Option Value)} (ma7 : PySem.W.findIn K (.ref C_Pages) "numbers" = some (some (.ref mf7))) (mi7 : PySem.W.isFn K (.ref mf7) = true) (ml7 : K.lookup mf7 = some ⟨moc7, mod7, .func (PySem.W.fnOf "numbers" "Pages.numbers" (defArgs s_Pages_numbers) (defBody s_Pages_numbers) (defScope s_Pages_numbers) .none mkV7 mdc7 mpm7 man7 mcd7 mct7), msl7⟩) (mc7 : PySem.W.codeIn K mcd7 "Pages.numbers" = true) (mq7 : PySem.W.keepIn K (.ref mf7) = true)
    {mf8 moc8 mkV8 mdc8 mpm8 mcd8 mct8} {mod8 man8 : Option Addr} {msl8 : Array (Option Value)} (ma8 : PySem.W.findIn K (.ref C_Makes) "numbers" = some (some (.ref mf8))) (mi8 : PySem.W.isFn K (.ref mf8) = true) (ml8 : K.lookup mf8 = some ⟨moc8, mod8, .func (PySem.W.fnOf "numbers" "Makes.numbers" (defArgs s_Makes_numbers) (defBody s_Makes_numbers) (defScope s_Makes_numbers) .none mkV8 mdc8 mpm8 man8 mcd8 mct8), msl8⟩) (mc8 : PySem.W.codeIn K mcd8 "Makes.numbers" = true) (mq8 : PySem.W.keepIn K (.ref mf8) = true)
    {mf9 moc9 mkV9 mdc9 mpm9 mcd9 mct9} {mod9 man9 : Option Addr} {msl9 : Array (Option Value)} (ma9 : PySem.W.findIn K (.ref C_Pages) "__init__" = some (some (.ref mf9))) (mi9 : PySem.W.isFn K (.ref mf9) = true) (ml9 : K.lookup mf9 = some ⟨moc9, mod9, .func (PySem.W.fnOf "__init__" "Pages.__init__" (defArgs s_Pages_init) (defBody s_Pages_init) (defScope s_Pages_init) .none mkV9 mdc9 mpm9 man9 mcd9 mct9), msl9⟩) (mc9 : PySem.W.codeIn K mcd9 "Pages.__init__" = true) (mq9 : PySem.W.keepIn K (.ref mf9) = true)
    {mf10 moc10 mkV10 mdc10 mpm10 mcd10 mct10} {mod10 man10 : Option Addr} {msl10 : Array (Option Value)} (ma10 : PySem.W.findIn K (.ref C_Makes) "__init__" = some (some (.ref mf10))) (mi10 : PySem.W.isFn K (.ref mf10) = true) (ml10 : K.lookup mf10 = some ⟨moc10, mod10, .func (PySem.W.fnOf "__init__" "Makes.__init__" (defArgs s_Makes_init) (defBody s_Makes_init) (defScope s_Makes_init) .none mkV10 mdc10 mpm10 man10 mcd10 mct10), msl10⟩) (mc10 : PySem.W.codeIn K mcd10 "Makes.__init__" = true) (mq10 : PySem.W.keepIn K (.ref mf10) = true)
    {mf11 moc11 mkV11 mdc11 mpm11 mcd11 mct11} {mod11 man11 : Option Addr} {msl11 : Array (Option Value)} (ma11 : PySem.W.findIn K (.ref C_Shelf) "__init__" = some (some (.ref mf11))) (mi11 : PySem.W.isFn K (.ref mf11) = true) (ml11 : K.lookup mf11 = some ⟨moc11, mod11, .func (PySem.W.fnOf "__init__" "Shelf.__init__" (defArgs s_Shelf_init) (defBody s_Shelf_init) (defScope s_Shelf_init) .none mkV11 mdc11 mpm11 man11 mcd11 mct11), msl11⟩) (mc11 : PySem.W.codeIn K mcd11 "Shelf.__init__" = true) (mq11 : PySem.W.keepIn K (.ref mf11) = true)
    (kg_ : PySem.W.specialIn K (.builtin "object.__class__") "__get__" = some (some (.builtin "getset_descriptor.__get__"))) (kt_ : PySem.W.takesIn K (.builtin "object.__class__") = some true)
    {C_TableError} (ac_TableError : PySem.W.nsIn K mainGlobals "TableError" = some (some (.ref C_TableError)))
    (e3_TableError : PySem.W.subIn K (.ref C_TableError) (.type "BaseException") = some true)
    (e4_TableError : PySem.W.typeIn K (.ref C_TableError) = some (.type "type"))
    (hd_TableError : PySem.W.hasDictIn K C_TableError = true)
    {C_BadWord} (ac_BadWord : PySem.W.nsIn K mainGlobals "BadWord" = some (some (.ref C_BadWord)))
    (e3_BadWord : PySem.W.subIn K (.ref C_BadWord) (.type "BaseException") = some true)
    (e4_BadWord : PySem.W.typeIn K (.ref C_BadWord) = some (.type "type"))
    (hd_BadWord : PySem.W.hasDictIn K C_BadWord = true)
    (e2_BadWord : PySem.W.keepIn K (.ref C_BadWord) = true)
    (ga_BadWord : PySem.W.findIn K (.ref C_BadWord) "__getattribute__" = some (some (.builtin "BaseException.__getattribute__")))
    (gg_BadWord : PySem.W.findIn K (.ref C_BadWord) "__getattr__" = some none)
    (k1_BadWord : PySem.W.findIn K (.ref C_BadWord) "__class__" = some (some (.builtin "object.__class__")))
    (k4_BadWord : PySem.W.mroIn K C_BadWord (.type "object") = some true)
    (ex_BadWord : PySem.W.excIn K C_BadWord [.type "ValueError", .type "Exception", .type "BaseException", .type "object"] "ValueError.__new__" = true)
    {C_NoMake} (ac_NoMake : PySem.W.nsIn K mainGlobals "NoMake" = some (some (.ref C_NoMake)))
    (e3_NoMake : PySem.W.subIn K (.ref C_NoMake) (.type "BaseException") = some true)
    (e4_NoMake : PySem.W.typeIn K (.ref C_NoMake) = some (.type "type"))
    (hd_NoMake : PySem.W.hasDictIn K C_NoMake = true)
    (e2_NoMake : PySem.W.keepIn K (.ref C_NoMake) = true)
    (ga_NoMake : PySem.W.findIn K (.ref C_NoMake) "__getattribute__" = some (some (.builtin "BaseException.__getattribute__")))
    (gg_NoMake : PySem.W.findIn K (.ref C_NoMake) "__getattr__" = some none)
    (k1_NoMake : PySem.W.findIn K (.ref C_NoMake) "__class__" = some (some (.builtin "object.__class__")))
    (k4_NoMake : PySem.W.mroIn K C_NoMake (.type "object") = some true)
    {nm_NoMake qn_NoMake : Str} {N_NoMake : Addr} {bs_NoMake bm_NoMake : List Value} {sn_NoMake : List Str} {sub_NoMake : List Value} {ab_NoMake : Bool} {col_NoMake : Option Bool} {dd_NoMake : Option Addr} {m0_NoMake m1_NoMake m2_NoMake m3_NoMake m5_NoMake : Option Value} (xL_NoMake : K.lookup C_NoMake = some (excClassObj nm_NoMake qn_NoMake C_NoMake N_NoMake bs_NoMake bm_NoMake true sn_NoMake sub_NoMake ab_NoMake col_NoMake dd_NoMake m0_NoMake m1_NoMake m2_NoMake m3_NoMake m5_NoMake "ValueError.__new__"))
    (rv_NoMake : PySem.HandSPX.refsVE bm_NoMake = true)
    (sa_NoMake : PySem.W.findIn K (.ref C_NoMake) "__setattr__" = some (some (.builtin "object.__setattr__")))
    (hn_NoMake_number : PySem.W.findIn K (.ref C_NoMake) "number" = some none)
    {fI_NoMake : Addr} (fi_NoMake : PySem.W.findIn K (.ref C_NoMake) "__init__" = some (some (.ref fI_NoMake)))
    (ft_NoMake : PySem.W.typeIn K (.ref fI_NoMake) = some (.type "function"))
    {xoc_NoMake xkV_NoMake xdc_NoMake xpm_NoMake xcd_NoMake xct_NoMake} {xod_NoMake xan_NoMake : Option Addr} {xsl_NoMake : Array (Option Value)} (xl_NoMake : K.lookup fI_NoMake = some ⟨xoc_NoMake, xod_NoMake, .func (PySem.W.fnOf "__init__" "NoMake.__init__" (defArgs s_NoMake_init) (defBody s_NoMake_init) (defScope s_NoMake_init) .none xkV_NoMake xdc_NoMake xpm_NoMake xan_NoMake xcd_NoMake xct_NoMake), xsl_NoMake⟩)
    (xc_NoMake : PySem.W.codeIn K xcd_NoMake "NoMake.__init__" = true)
    (xk_NoMake : PySem.W.keepIn K (.ref fI_NoMake) = true)
    {C_NoName} (ac_NoName : PySem.W.nsIn K mainGlobals "NoName" = some (some (.ref C_NoName)))
    (e3_NoName : PySem.W.subIn K (.ref C_NoName) (.type "BaseException") = some true)
    (e4_NoName : PySem.W.typeIn K (.ref C_NoName) = some (.type "type"))
    (hd_NoName : PySem.W.hasDictIn K C_NoName = true)
    (e2_NoName : PySem.W.keepIn K (.ref C_NoName) = true)
    (ga_NoName : PySem.W.findIn K (.ref C_NoName) "__getattribute__" = some (some (.builtin "BaseException.__getattribute__")))
    (gg_NoName : PySem.W.findIn K (.ref C_NoName) "__getattr__" = some none)
    (k1_NoName : PySem.W.findIn K (.ref C_NoName) "__class__" = some (some (.builtin "object.__class__")))
    (k4_NoName : PySem.W.mroIn K C_NoName (.type "object") = some true)
    {nm_NoName qn_NoName : Str} {N_NoName : Addr} {bs_NoName bm_NoName : List Value} {sn_NoName : List Str} {sub_NoName : List Value} {ab_NoName : Bool} {col_NoName : Option Bool} {dd_NoName : Option Addr} {m0_NoName m1_NoName m2_NoName m3_NoName m5_NoName : Option Value} (xL_NoName : K.lookup C_NoName = some (excClassObj nm_NoName qn_NoName C_NoName N_NoName bs_NoName bm_NoName true sn_NoName sub_NoName ab_NoName col_NoName dd_NoName m0_NoName m1_NoName m2_NoName m3_NoName m5_NoName "ValueError.__new__"))
    (rv_NoName : PySem.HandSPX.refsVE bm_NoName = true)
    (sa_NoName : PySem.W.findIn K (.ref C_NoName) "__setattr__" = some (some (.builtin "object.__setattr__")))
    (hn_NoName_word : PySem.W.findIn K (.ref C_NoName) "word" = some none)
    {fI_NoName : Addr} (fi_NoName : PySem.W.findIn K (.ref C_NoName) "__init__" = some (some (.ref fI_NoName)))
    (ft_NoName : PySem.W.typeIn K (.ref fI_NoName) = some (.type "function"))
    {xoc_NoName xkV_NoName xdc_NoName xpm_NoName xcd_NoName xct_NoName} {xod_NoName xan_NoName : Option Addr} {xsl_NoName : Array (Option Value)} (xl_NoName : K.lookup fI_NoName = some ⟨xoc_NoName, xod_NoName, .func (PySem.W.fnOf "__init__" "NoName.__init__" (defArgs s_NoName_init) (defBody s_NoName_init) (defScope s_NoName_init) .none xkV_NoName xdc_NoName xpm_NoName xan_NoName xcd_NoName xct_NoName), xsl_NoName⟩)
    (xc_NoName : PySem.W.codeIn K xcd_NoName "NoName.__init__" = true)
    (xk_NoName : PySem.W.keepIn K (.ref fI_NoName) = true)
    (sx_BadWord_TableError : PySem.W.subIn K (.ref C_BadWord) (.ref C_TableError) = some true)
    (sx_NoMake_TableError : PySem.W.subIn K (.ref C_NoMake) (.ref C_TableError) = some true)
    (sx_NoName_TableError : PySem.W.subIn K (.ref C_NoName) (.ref C_TableError) = some true)
    (kx_NoName_NoName : PySem.W.kitOne K (.ref C_NoName) (.ref C_NoName) = some true)
    (kx_NoMake_NoName : PySem.W.kitOne K (.ref C_NoMake) (.ref C_NoName) = some false)
    (kx_BadWord_NoName : PySem.W.kitOne K (.ref C_BadWord) (.ref C_NoName) = some false)
    (kx_NoName_NoMake : PySem.W.kitOne K (.ref C_NoName) (.ref C_NoMake) = some false)
    (kx_NoMake_NoMake : PySem.W.kitOne K (.ref C_NoMake) (.ref C_NoMake) = some true)
    (kx_BadWord_NoMake : PySem.W.kitOne K (.ref C_BadWord) (.ref C_NoMake) = some false)
    (kx_NoName_BadWord : PySem.W.kitOne K (.ref C_NoName) (.ref C_BadWord) = some false)
    (kx_NoMake_BadWord : PySem.W.kitOne K (.ref C_NoMake) (.ref C_BadWord) = some false)
    (kx_BadWord_BadWord : PySem.W.kitOne K (.ref C_BadWord) (.ref C_BadWord) = some true)
    (z_bool : PySem.W.nsIn K mainGlobals "bool" = some none)
    (z_int : PySem.W.nsIn K mainGlobals "int" = some none)
    (z_isinstance : PySem.W.nsIn K mainGlobals "isinstance" = some none)
    (z_len : PySem.W.nsIn K mainGlobals "len" = some none)
    (z_list : PySem.W.nsIn K mainGlobals "list" = some none)
    (z_max : PySem.W.nsIn K mainGlobals "max" = some none)
    (z_range : PySem.W.nsIn K mainGlobals "range" = some none)
    (z_set : PySem.W.nsIn K mainGlobals "set" = some none)
    (z_sorted : PySem.W.nsIn K mainGlobals "sorted" = some none)
    (z_str : PySem.W.nsIn K mainGlobals "str" = some none)
    (z_tuple : PySem.W.nsIn K mainGlobals "tuple" = some none)
    (z_zip : PySem.W.nsIn K mainGlobals "zip" = some none)
    {t_LETTERS} (z_LETTERS : PySem.W.nsIn K mainGlobals "LETTERS" = some (some (.str "abcdefghijklmnopqrstuvwxyz" t_LETTERS)))
    : Txt K mg ∧ Top K mg "is_word" s_is_word ["thing"] ∧ Top K mg "no_table" s_no_table [] ∧ Top K mg "_law_cell_at" s_l_cell_at ["_law_script", "_law_k"] ∧ Top K mg "_law_mix" s_l_mix ["_law_cell", "_law_k"] ∧ Top K mg "_law_words" s_l_words ["_law_cell"] ∧ Top K mg "_law_odd" s_l_odd ["_law_number"] ∧ Top K mg "_law_answer" s_l_answer ["_law_shelf", "_law_way", "_law_word", "_law_number"] ∧ Top K mg "_law_due" s_l_due ["_law_names", "_law_many", "_law_way", "_law_word", "_law_good", "_law_number"] ∧ Top K mg "_law_same" s_l_same ["_law_found", "_law_due_here"] ∧ Top K mg "_law_named" s_l_named ["_law_shelf", "_law_names"] ∧ Top K mg "law" s_law ["_law_script"] ∧ Top K mg "_law_called" s_l_called ["_law_shelf", "_law_way", "_law_word", "_law_number"] ∧ TopM K "Makes" "need" "Makes.need" s_Makes_need ["self", "number"] ∧ TopM K "Makes" "elders" "Makes.elders" s_Makes_elders ["self", "number"] ∧ TopM K "Shelf" "made_by" "Shelf.made_by" s_Shelf_made_by ["self", "word"] ∧ TopM K "Shelf" "give" "Shelf.give" s_Shelf_give ["self", "word", "number"] ∧ TopM K "Shelf" "forget" "Shelf.forget" s_Shelf_forget ["self", "word"] ∧ TopM K "Shelf" "named" "Shelf.named" s_Shelf_named ["self"] ∧ TopM K "Makes" "made" "Makes.made" s_Makes_made ["self", "elders", "table"] ∧ TopM K "Pages" "numbers" "Pages.numbers" s_Pages_numbers ["self"] ∧ TopM K "Makes" "numbers" "Makes.numbers" s_Makes_numbers ["self"] ∧ TopI K mg "Pages" "Pages.__init__" s_Pages_init ["self"] ∧ TopI K mg "Makes" "Makes.__init__" s_Makes_init ["self"] ∧ TopI K mg "Shelf" "Shelf.__init__" s_Shelf_init ["self"] ∧ TopE K mg "NoMake" "NoMake.__init__" s_NoMake_init ["self", "number"] ["number"] ∧ TopE K mg "NoName" "NoName.__init__" s_NoName_init ["self", "word"] ["word"] := by
  refine ⟨⟨clsP_mk ac_Pages pg_Pages hd_Pages po_Pages sa_Pages, clsP_mk ac_Makes pg_Makes hd_Makes po_Makes sa_Makes, clsP_mk ac_Shelf pg_Shelf hd_Shelf po_Shelf sa_Shelf, noA_mk ac_Pages na_Pages_coming, noA_mk ac_Pages na_Pages_known, noA_mk ac_Pages na_Pages_standing, noA_mk ac_Makes na_Makes_count, noA_mk ac_Makes na_Makes_kin, noA_mk ac_Makes na_Makes_states, noA_mk ac_Shelf na_Shelf_makes, noA_mk ac_Shelf na_Shelf_pages, noA_mk ac_Shelf na_Shelf_titles, xc0_mk X G ac_BadWord ex_BadWord e2_BadWord e3_BadWord e4_BadWord, xcK_mk X G ac_NoName, xcK_mk X G ac_NoMake, xcK_mk X G ac_BadWord, ⟨_, PySem.W.mg_of X G ac_NoName⟩, ⟨_, PySem.W.mg_of X G ac_NoMake⟩, ⟨_, PySem.W.mg_of X G ac_BadWord⟩, ⟨_, PySem.W.mg_of X G ac_TableError⟩, xcP_mk X G ac_BadWord ac_TableError e3_TableError hd_TableError e4_TableError sx_BadWord_TableError, xcP_mk X G ac_NoMake ac_TableError e3_TableError hd_TableError e4_TableError sx_NoMake_TableError, xcP_mk X G ac_NoName ac_TableError e3_TableError hd_TableError e4_TableError sx_NoName_TableError, xcI_mk X G ac_NoName ac_NoName (excQ_mk ga_NoName gg_NoName e3_NoName hd_NoName k1_NoName kg_ kt_ k4_NoName) kx_NoName_NoName, xcI_mk X G ac_NoMake ac_NoName (excQ_mk ga_NoMake gg_NoMake e3_NoMake hd_NoMake k1_NoMake kg_ kt_ k4_NoMake) kx_NoMake_NoName, xcI_mk X G ac_BadWord ac_NoName (excQ_mk ga_BadWord gg_BadWord e3_BadWord hd_BadWord k1_BadWord kg_ kt_ k4_BadWord) kx_BadWord_NoName, xcI_mk X G ac_NoName ac_NoMake (excQ_mk ga_NoName gg_NoName e3_NoName hd_NoName k1_NoName kg_ kt_ k4_NoName) kx_NoName_NoMake, xcI_mk X G ac_NoMake ac_NoMake (excQ_mk ga_NoMake gg_NoMake e3_NoMake hd_NoMake k1_NoMake kg_ kt_ k4_NoMake) kx_NoMake_NoMake, xcI_mk X G ac_BadWord ac_NoMake (excQ_mk ga_BadWord gg_BadWord e3_BadWord hd_BadWord k1_BadWord kg_ kt_ k4_BadWord) kx_BadWord_NoMake, xcI_mk X G ac_NoName ac_BadWord (excQ_mk ga_NoName gg_NoName e3_NoName hd_NoName k1_NoName kg_ kt_ k4_NoName) kx_NoName_BadWord, xcI_mk X G ac_NoMake ac_BadWord (excQ_mk ga_NoMake gg_NoMake e3_NoMake hd_NoMake k1_NoMake kg_ kt_ k4_NoMake) kx_NoMake_BadWord, xcI_mk X G ac_BadWord ac_BadWord (excQ_mk ga_BadWord gg_BadWord e3_BadWord hd_BadWord k1_BadWord kg_ kt_ k4_BadWord) kx_BadWord_BadWord, xcF_mk X G ac_NoName ga_NoName gg_NoName e3_NoName hd_NoName hn_NoName_word, xcF_mk X G ac_NoMake ga_NoMake gg_NoMake e3_NoMake hd_NoMake hn_NoMake_number, PySem.W.mg_none_of X G z_bool, PySem.W.mg_none_of X G z_int, PySem.W.mg_none_of X G z_isinstance, PySem.W.mg_none_of X G z_len, PySem.W.mg_none_of X G z_list, PySem.W.mg_none_of X G z_max, PySem.W.mg_none_of X G z_range, PySem.W.mg_none_of X G z_set, PySem.W.mg_none_of X G z_sorted, PySem.W.mg_none_of X G z_str, PySem.W.mg_none_of X G z_tuple, PySem.W.mg_none_of X G z_zip, ⟨_, PySem.W.mg_of X G z_LETTERS⟩⟩, ?_, ?_, ?_, ?_, ?_, ?_, ?_, ?_, ?_, ?_, ?_, ?_, ?_, ?_, ?_, ?_, ?_, ?_, ?_, ?_, ?_, ?_, ?_, ?_, ?_, ?_⟩
  · exact top_mk X G a0 l0 c0 k0 fun _ _ _ _ _ _ us hl => match us, hl with | [_], _ => rfl
  · exact top_mk X G a1 l1 c1 k1 fun _ _ _ _ _ _ us hl => match us, hl with | [], _ => rfl
  · exact top_mk X G a2 l2 c2 k2 fun _ _ _ _ _ _ us hl => match us, hl with | [_, _], _ => rfl
  · exact top_mk X G a3 l3 c3 k3 fun _ _ _ _ _ _ us hl => match us, hl with | [_, _], _ => rfl
  · exact top_mk X G a4 l4 c4 k4 fun _ _ _ _ _ _ us hl => match us, hl with | [_], _ => rfl
  · exact top_mk X G a5 l5 c5 k5 fun _ _ _ _ _ _ us hl => match us, hl with | [_], _ => rfl
  · exact top_mk X G a6 l6 c6 k6 fun _ _ _ _ _ _ us hl => match us, hl with | [_, _, _, _], _ => rfl
  · exact top_mk X G a7 l7 c7 k7 fun _ _ _ _ _ _ us hl => match us, hl with | [_, _, _, _, _, _], _ => rfl
  · exact top_mk X G a8 l8 c8 k8 fun _ _ _ _ _ _ us hl => match us, hl with | [_, _], _ => rfl
  · exact top_mk X G a9 l9 c9 k9 fun _ _ _ _ _ _ us hl => match us, hl with | [_, _], _ => rfl
  · exact top_mk X G a10 l10 c10 k10 fun _ _ _ _ _ _ us hl => match us, hl with | [_], _ => rfl
  · exact top_mk X G a11 l11 c11 k11 fun _ _ _ _ _ _ us hl => match us, hl with | [_, _, _, _], _ => rfl
  · exact topM_mk ac_Makes ma0 mi0 ml0 mc0 mq0 fun _ _ _ _ _ _ us hl => match us, hl with | [_, _], _ => rfl
  · exact topM_mk ac_Makes ma1 mi1 ml1 mc1 mq1 fun _ _ _ _ _ _ us hl => match us, hl with | [_, _], _ => rfl
  · exact topM_mk ac_Shelf ma2 mi2 ml2 mc2 mq2 fun _ _ _ _ _ _ us hl => match us, hl with | [_, _], _ => rfl
  · exact topM_mk ac_Shelf ma3 mi3 ml3 mc3 mq3 fun _ _ _ _ _ _ us hl => match us, hl with | [_, _, _], _ => rfl
  · exact topM_mk ac_Shelf ma4 mi4 ml4 mc4 mq4 fun _ _ _ _ _ _ us hl => match us, hl with | [_, _], _ => rfl
  · exact topM_mk ac_Shelf ma5 mi5 ml5 mc5 mq5 fun _ _ _ _ _ _ us hl => match us, hl with | [_], _ => rfl
  · exact topM_mk ac_Makes ma6 mi6 ml6 mc6 mq6 fun _ _ _ _ _ _ us hl => match us, hl with | [_, _, _], _ => rfl
  · exact topM_mk ac_Pages ma7 mi7 ml7 mc7 mq7 fun _ _ _ _ _ _ us hl => match us, hl with | [_], _ => rfl
  · exact topM_mk ac_Makes ma8 mi8 ml8 mc8 mq8 fun _ _ _ _ _ _ us hl => match us, hl with | [_], _ => rfl
  · exact topI_mk X G ac_Pages ma9 mi9 ml9 mc9 mq9 mk_Pages kc_Pages fun _ _ _ _ _ _ us hl => match us, hl with | [_], _ => rfl
  · exact topI_mk X G ac_Makes ma10 mi10 ml10 mc10 mq10 mk_Makes kc_Makes fun _ _ _ _ _ _ us hl => match us, hl with | [_], _ => rfl
  · exact topI_mk X G ac_Shelf ma11 mi11 ml11 mc11 mq11 mk_Shelf kc_Shelf fun _ _ _ _ _ _ us hl => match us, hl with | [_], _ => rfl
  · exact topE_mk X G ac_NoMake xL_NoMake rv_NoMake sa_NoMake e3_NoMake e4_NoMake e2_NoMake (by simp only [List.mem_cons, List.not_mem_nil, or_false]; rintro n (rfl); exact hn_NoMake_number) fi_NoMake ft_NoMake xl_NoMake xc_NoMake xk_NoMake fun _ _ _ _ _ _ us hl => match us, hl with | [_, _], _ => rfl
  · exact topE_mk X G ac_NoName xL_NoName rv_NoName sa_NoName e3_NoName e4_NoName e2_NoName (by simp only [List.mem_cons, List.not_mem_nil, or_false]; rintro n (rfl); exact hn_NoName_word) fi_NoName ft_NoName xl_NoName xc_NoName xk_NoName fun _ _ _ _ _ _ us hl => match us, hl with | [_, _], _ => rfl
theorem walk {l : PySem.W.OpenLaw} {q : Program} {loose : List Str} {XP : (Str → Option Value) → Heap → Prop} {YP : World → Heap → Prop} {d : DefRec} {K : Params → PySem.W.Frag} (hn : l.most = some 63) (hdf : d.params.defaults = []) (hd : d.name = "law")
    (hY : ∀ (w : World) (h : Heap), YP w h → (K w.params).In h)
    (F : ∀ (w : World) (mg : Str → Option Value) (h : Heap), (K w.params).In h → h.Ns mainGlobals mg → Txt (K w.params) mg ∧ Top (K w.params) mg "is_word" s_is_word ["thing"] ∧ Top (K w.params) mg "no_table" s_no_table [] ∧ Top (K w.params) mg "_law_cell_at" s_l_cell_at ["_law_script", "_law_k"] ∧ Top (K w.params) mg "_law_mix" s_l_mix ["_law_cell", "_law_k"] ∧ Top (K w.params) mg "_law_words" s_l_words ["_law_cell"] ∧ Top (K w.params) mg "_law_odd" s_l_odd ["_law_number"] ∧ Top (K w.params) mg "_law_answer" s_l_answer ["_law_shelf", "_law_way", "_law_word", "_law_number"] ∧ Top (K w.params) mg "_law_due" s_l_due ["_law_names", "_law_many", "_law_way", "_law_word", "_law_good", "_law_number"] ∧ Top (K w.params) mg "_law_same" s_l_same ["_law_found", "_law_due_here"] ∧ Top (K w.params) mg "_law_named" s_l_named ["_law_shelf", "_law_names"] ∧ Top (K w.params) mg "law" s_law ["_law_script"] ∧ Top (K w.params) mg "_law_called" s_l_called ["_law_shelf", "_law_way", "_law_word", "_law_number"] ∧ TopM (K w.params) "Makes" "need" "Makes.need" s_Makes_need ["self", "number"] ∧ TopM (K w.params) "Makes" "elders" "Makes.elders" s_Makes_elders ["self", "number"] ∧ TopM (K w.params) "Shelf" "made_by" "Shelf.made_by" s_Shelf_made_by ["self", "word"] ∧ TopM (K w.params) "Shelf" "give" "Shelf.give" s_Shelf_give ["self", "word", "number"] ∧ TopM (K w.params) "Shelf" "forget" "Shelf.forget" s_Shelf_forget ["self", "word"] ∧ TopM (K w.params) "Shelf" "named" "Shelf.named" s_Shelf_named ["self"] ∧ TopM (K w.params) "Makes" "made" "Makes.made" s_Makes_made ["self", "elders", "table"] ∧ TopM (K w.params) "Pages" "numbers" "Pages.numbers" s_Pages_numbers ["self"] ∧ TopM (K w.params) "Makes" "numbers" "Makes.numbers" s_Makes_numbers ["self"] ∧ TopI (K w.params) mg "Pages" "Pages.__init__" s_Pages_init ["self"] ∧ TopI (K w.params) mg "Makes" "Makes.__init__" s_Makes_init ["self"] ∧ TopI (K w.params) mg "Shelf" "Shelf.__init__" s_Shelf_init ["self"] ∧ TopE (K w.params) mg "NoMake" "NoMake.__init__" s_NoMake_init ["self", "number"] ["number"] ∧ TopE (K w.params) mg "NoName" "NoName.__init__" s_NoName_init ["self", "word"] ["word"])
    (hF : ∀ ns : List Int, ns.length ≤ 63 → (∀ z ∈ ns, Builtin.Int.intBits z ≤ 1048576) → F_law [.lst (ns.map D.int)] [] = some (.bl true)) :
    PySem.W.WalkO q loose XP YP l.row.toRowW d [] (fun f vs => PySem.call f vs) := by
  refine law_end (k := 8) (x := "_law_script") hn hdf hd ⟨rfl, by decide, by decide⟩ hY (fun w mg h X G => ?_) hF
  obtain ⟨T, t_is_word, t_no_table, t_l_cell_at, t_l_mix, t_l_words, t_l_odd, t_l_answer, t_l_due, t_l_same, t_l_named, t_law, t_l_called, tm_Makes_need, tm_Makes_elders, tm_Shelf_made_by, tm_Shelf_give, tm_Shelf_forget, tm_Shelf_named, tm_Makes_made, tm_Pages_numbers, tm_Makes_numbers, tm_Pages_init, tm_Makes_init, tm_Shelf_init, te_NoMake, te_NoName⟩ := F w mg h X G
  refine ok_law T t_law fun base X0 G0 => ?_
  have e1_NoMake : Xc1 l.prog w (K w.params) mg base "NoMake" ["number"] 1 := oke_NoMake te_NoMake
  have e1_NoName : Xc1 l.prog w (K w.params) mg base "NoName" ["word"] 1 := oke_NoName te_NoName
  have mk_Pages : MkQ l.prog w (K w.params) mg base "Pages" 1 (SpS (K w.params) 1 F_Pages_init) := ok_Pages_init T tm_Pages_init
  have m_Pages_numbers : Met l.prog w (K w.params) mg base "Pages" "numbers" 1 (SpP (K w.params) 1 F_Pages_numbers) := ok_Pages_numbers T tm_Pages_numbers
  have c_is_word : FnP l.prog w (K w.params) mg base "is_word" 1 1 F_is_word := ok_is_word T t_is_word
  have c_no_table : FnP l.prog w (K w.params) mg base "no_table" 0 1 F_no_table := ok_no_table T t_no_table
  have mk_Makes : MkQ l.prog w (K w.params) mg base "Makes" 2 (SpS (K w.params) 1 F_Makes_init) := ok_Makes_init T tm_Makes_init c_no_table
  have m_Makes_need : Met l.prog w (K w.params) mg base "Makes" "need" 1 (SpP (K w.params) 2 F_Makes_need) := ok_Makes_need T tm_Makes_need
  have m_Makes_made : Met l.prog w (K w.params) mg base "Makes" "made" 2 (SpS (K w.params) 3 F_Makes_made) := ok_Makes_made T tm_Makes_made m_Makes_need
  have m_Makes_numbers : Met l.prog w (K w.params) mg base "Makes" "numbers" 1 (SpP (K w.params) 1 F_Makes_numbers) := ok_Makes_numbers T tm_Makes_numbers
  have mk_Shelf : MkQ l.prog w (K w.params) mg base "Shelf" 4 (SpS (K w.params) 1 F_Shelf_init) := ok_Shelf_init T tm_Shelf_init mk_Pages mk_Makes
  have m_Shelf_named : Met l.prog w (K w.params) mg base "Shelf" "named" 1 (SpN (K w.params) 1 F_Shelf_named) := ok_Shelf_named T tm_Shelf_named
  have c_l_cell_at : FnP l.prog w (K w.params) mg base "_law_cell_at" 2 1 F_l_cell_at := ok_l_cell_at T t_l_cell_at
  have c_l_mix : FnP l.prog w (K w.params) mg base "_law_mix" 2 1 F_l_mix := ok_l_mix T t_l_mix
  have c_l_words : FnP l.prog w (K w.params) mg base "_law_words" 1 2 F_l_words := ok_l_words T t_l_words c_l_mix
  have c_l_odd : FnP l.prog w (K w.params) mg base "_law_odd" 1 1 F_l_odd := ok_l_odd T t_l_odd
  have mx_Makes_need : MetX l.prog w (K w.params) mg base "Makes" "need" 2 3 X_Makes_need := okx_Makes_need T tm_Makes_need e1_NoMake
  have mx_Makes_elders : MetX l.prog w (K w.params) mg base "Makes" "elders" 2 4 X_Makes_elders := okx_Makes_elders T tm_Makes_elders mx_Makes_need
  have mx_Shelf_give : MetX l.prog w (K w.params) mg base "Shelf" "give" 3 5 X_Shelf_give := okx_Shelf_give T tm_Shelf_give c_is_word mx_Makes_elders
  have mx_Shelf_made_by : MetX l.prog w (K w.params) mg base "Shelf" "made_by" 2 3 X_Shelf_made_by := okx_Shelf_made_by T tm_Shelf_made_by c_is_word e1_NoName
  have mx_Shelf_forget : MetX l.prog w (K w.params) mg base "Shelf" "forget" 2 4 X_Shelf_forget := okx_Shelf_forget T tm_Shelf_forget mx_Shelf_made_by
  have cx_l_called : FnX l.prog w (K w.params) mg base "_law_called" 4 6 X_l_called := okx_l_called T t_l_called mx_Shelf_give mx_Shelf_made_by mx_Shelf_forget
  have c_l_answer : FnS l.prog w (K w.params) mg base "_law_answer" 4 7 F_l_answer := ok_l_answer T t_l_answer cx_l_called
  have c_l_due : FnS l.prog w (K w.params) mg base "_law_due" 6 1 F_l_due := ok_l_due T t_l_due
  have c_l_same : FnP l.prog w (K w.params) mg base "_law_same" 2 1 F_l_same := ok_l_same T t_l_same
  have c_l_named : FnP l.prog w (K w.params) mg base "_law_named" 2 2 F_l_named := ok_l_named T t_l_named m_Shelf_named
  exact ⟨c_l_cell_at, c_no_table, c_l_words, c_l_odd, c_l_due, c_l_same, c_l_answer, c_l_named, m_Makes_made, m_Pages_numbers, m_Makes_numbers, m_Shelf_named, mk_Shelf, trivial⟩
end Wktwigtable_k71_names
open PySem PySem.W PyProof.Rows
set_option maxRecDepth 100000 in
set_option maxHeartbeats 0 in
theorem PySem.Challenge.cw_twigtable_k71_names_holds : PySem.Challenge.rw_twigtable_k71_names.Holds := by
  w_on; o_law; k_head; (case hw => w_witness2)
  k_fill
  refine Wktwigtable_k71_names.walk (l := PySem.Challenge.rw_twigtable_k71_names) rfl rfl rfl (fun w h Y => PySem.W.kIn_of Y) ?F My.law_true
  case F =>
    intro w mg h KX G
    refine' Wktwigtable_k71_names.all_mk KX G ?a0 ?l0 ?c0 ?k0 ?a1 ?l1 ?c1 ?k1 ?a2 ?l2 ?c2 ?k2 ?a3 ?l3 ?c3 ?k3 ?a4 ?l4 ?c4 ?k4 ?a5 ?l5 ?c5 ?k5 ?a6 ?l6 ?c6 ?k6 ?a7 ?l7 ?c7 ?k7 ?a8 ?l8 ?c8 ?k8 ?a9 ?l9 ?c9 ?k9 ?a10 ?l10 ?c10 ?k10 ?a11 ?l11 ?c11 ?k11 ?ac_Pages ?pg_Pages ?hd_Pages ?po_Pages ?sa_Pages ?ac_Makes ?pg_Makes ?hd_Makes ?po_Makes ?sa_Makes ?ac_Shelf ?pg_Shelf ?hd_Shelf ?po_Shelf ?sa_Shelf ?mk_Pages ?kc_Pages ?mk_Makes ?kc_Makes ?mk_Shelf ?kc_Shelf ?na_Pages_coming ?na_Pages_known ?na_Pages_standing ?na_Makes_count ?na_Makes_kin ?na_Makes_states ?na_Shelf_makes ?na_Shelf_pages ?na_Shelf_titles ?ma0 ?mi0 ?ml0 ?mc0 ?mq0 ?ma1 ?mi1 ?ml1 ?mc1 ?mq1 ?ma2 ?mi2 ?ml2 ?mc2 ?mq2 ?ma3 ?mi3 ?ml3 ?mc3 ?mq3 ?ma4 ?mi4 ?ml4 ?mc4 ?mq4 ?ma5 ?mi5 ?ml5 ?mc5 ?mq5 ?ma6 ?mi6 ?ml6 ?mc6 ?mq6 ?ma7 ?mi7 ?ml7 ?mc7 ?mq7 ?ma8 ?mi8 ?ml8 ?mc8 ?mq8 ?ma9 ?mi9 ?ml9 ?mc9 ?mq9 ?ma10 ?mi10 ?ml10 ?mc10 ?mq10 ?ma11 ?mi11 ?ml11 ?mc11 ?mq11 ?kg_ ?kt_ ?ac_TableError ?e3_TableError ?e4_TableError ?hd_TableError ?ac_BadWord ?e3_BadWord ?e4_BadWord ?hd_BadWord ?e2_BadWord ?ga_BadWord ?gg_BadWord ?k1_BadWord ?k4_BadWord ?ex_BadWord ?ac_NoMake ?e3_NoMake ?e4_NoMake ?hd_NoMake ?e2_NoMake ?ga_NoMake ?gg_NoMake ?k1_NoMake ?k4_NoMake ?xL_NoMake ?rv_NoMake ?sa_NoMake ?hn_NoMake_number ?fi_NoMake ?ft_NoMake ?xl_NoMake ?xc_NoMake ?xk_NoMake ?ac_NoName ?e3_NoName ?e4_NoName ?hd_NoName ?e2_NoName ?ga_NoName ?gg_NoName ?k1_NoName ?k4_NoName ?xL_NoName ?rv_NoName ?sa_NoName ?hn_NoName_word ?fi_NoName ?ft_NoName ?xl_NoName ?xc_NoName ?xk_NoName ?sx_BadWord_TableError ?sx_NoMake_TableError ?sx_NoName_TableError ?kx_NoName_NoName ?kx_NoMake_NoName ?kx_BadWord_NoName ?kx_NoName_NoMake ?kx_NoMake_NoMake ?kx_BadWord_NoMake ?kx_NoName_BadWord ?kx_NoMake_BadWord ?kx_BadWord_BadWord ?z_bool ?z_int ?z_isinstance ?z_len ?z_list ?z_max ?z_range ?z_set ?z_sorted ?z_str ?z_tuple ?z_zip ?z_LETTERS
    (case a0 => k_is)
    (case l0 => k_is)
    (case c0 => k_is)
    (case k0 => k_is)
    (case a1 => k_is)
    (case l1 => k_is)
    (case c1 => k_is)
    (case k1 => k_is)
    (case a2 => k_is)
    (case l2 => k_is)
    (case c2 => k_is)
    (case k2 => k_is)
    (case a3 => k_is)
    (case l3 => k_is)
    (case c3 => k_is)
    (case k3 => k_is)
    (case a4 => k_is)
    (case l4 => k_is)
    (case c4 => k_is)
    (case k4 => k_is)
    (case a5 => k_is)
    (case l5 => k_is)
    (case c5 => k_is)
    (case k5 => k_is)
    (case a6 => k_is)
    (case l6 => k_is)
    (case c6 => k_is)
    (case k6 => k_is)
    (case a7 => k_is)
    (case l7 => k_is)
    (case c7 => k_is)
    (case k7 => k_is)
    (case a8 => k_is)
    (case l8 => k_is)
    (case c8 => k_is)
    (case k8 => k_is)
    (case a9 => k_is)
    (case l9 => k_is)
    (case c9 => k_is)
    (case k9 => k_is)
    (case a10 => k_is)
    (case l10 => k_is)
    (case c10 => k_is)
    (case k10 => k_is)
    (case a11 => k_is)
    (case l11 => k_is)
    (case c11 => k_is)
    (case k11 => k_is)
    (case ac_Pages => k_is)
    (case pg_Pages => k_is)
    (case hd_Pages => k_is)
    (case po_Pages => k_is)
    (case sa_Pages => k_is)
    (case ac_Makes => k_is)
    (case pg_Makes => k_is)
    (case hd_Makes => k_is)
    (case po_Makes => k_is)
    (case sa_Makes => k_is)
    (case ac_Shelf => k_is)
    (case pg_Shelf => k_is)
    (case hd_Shelf => k_is)
    (case po_Shelf => k_is)
    (case sa_Shelf => k_is)
    (case mk_Pages => k_is)
    (case kc_Pages => k_is)
    (case mk_Makes => k_is)
    (case kc_Makes => k_is)
    (case mk_Shelf => k_is)
    (case kc_Shelf => k_is)
    (case na_Pages_coming => k_is)
    (case na_Pages_known => k_is)
    (case na_Pages_standing => k_is)
    (case na_Makes_count => k_is)
    (case na_Makes_kin => k_is)
    (case na_Makes_states => k_is)
    (case na_Shelf_makes => k_is)
    (case na_Shelf_pages => k_is)
    (case na_Shelf_titles => k_is)
    (case ma0 => k_is)
    (case mi0 => k_is)
    (case ml0 => k_is)
    (case mc0 => k_is)
    (case mq0 => k_is)
    (case ma1 => k_is)
    (case mi1 => k_is)
    (case ml1 => k_is)
    (case mc1 => k_is)
    (case mq1 => k_is)
    (case ma2 => k_is)
    (case mi2 => k_is)
    (case ml2 => k_is)
    (case mc2 => k_is)
    (case mq2 => k_is)
    (case ma3 => k_is)
    (case mi3 => k_is)
    (case ml3 => k_is)
    (case mc3 => k_is)
    (case mq3 => k_is)
    (case ma4 => k_is)
    (case mi4 => k_is)
    (case ml4 => k_is)
    (case mc4 => k_is)
    (case mq4 => k_is)
    (case ma5 => k_is)
    (case mi5 => k_is)
    (case ml5 => k_is)
    (case mc5 => k_is)
    (case mq5 => k_is)
    (case ma6 => k_is)
    (case mi6 => k_is)
    (case ml6 => k_is)
    (case mc6 => k_is)
    (case mq6 => k_is)
    (case ma7 => k_is)
    (case mi7 => k_is)
    (case ml7 => k_is)
    (case mc7 => k_is)
    (case mq7 => k_is)
    (case ma8 => k_is)
    (case mi8 => k_is)
    (case ml8 => k_is)
    (case mc8 => k_is)
    (case mq8 => k_is)
    (case ma9 => k_is)
    (case mi9 => k_is)
    (case ml9 => k_is)
    (case mc9 => k_is)
    (case mq9 => k_is)
    (case ma10 => k_is)
    (case mi10 => k_is)
    (case ml10 => k_is)
    (case mc10 => k_is)
    (case mq10 => k_is)
    (case ma11 => k_is)
    (case mi11 => k_is)
    (case ml11 => k_is)
    (case mc11 => k_is)
    (case mq11 => k_is)
    (case kg_ => k_is)
    (case kt_ => k_is)
    (case ac_TableError => k_is)
    (case e3_TableError => k_is)
    (case e4_TableError => k_is)
    (case hd_TableError => k_is)
    (case ac_BadWord => k_is)
    (case e3_BadWord => k_is)
    (case e4_BadWord => k_is)
    (case hd_BadWord => k_is)
    (case e2_BadWord => k_is)
    (case ga_BadWord => k_is)
    (case gg_BadWord => k_is)
    (case k1_BadWord => k_is)
    (case k4_BadWord => k_is)
    (case ex_BadWord => k_exc)
    (case ac_NoMake => k_is)
    (case e3_NoMake => k_is)
    (case e4_NoMake => k_is)
    (case hd_NoMake => k_is)
    (case e2_NoMake => k_is)
    (case ga_NoMake => k_is)
    (case gg_NoMake => k_is)
    (case k1_NoMake => k_is)
    (case k4_NoMake => k_is)
    (case xL_NoMake => k_is)
    (case rv_NoMake => first | rfl | decide +kernel)
    (case sa_NoMake => k_is)
    (case hn_NoMake_number => k_is)
    (case fi_NoMake => k_is)
    (case ft_NoMake => k_is)
    (case xl_NoMake => k_is)
    (case xc_NoMake => k_is)
    (case xk_NoMake => k_is)
    (case ac_NoName => k_is)
    (case e3_NoName => k_is)
    (case e4_NoName => k_is)
    (case hd_NoName => k_is)
    (case e2_NoName => k_is)
    (case ga_NoName => k_is)
    (case gg_NoName => k_is)
    (case k1_NoName => k_is)
    (case k4_NoName => k_is)
    (case xL_NoName => k_is)
    (case rv_NoName => first | rfl | decide +kernel)
    (case sa_NoName => k_is)
    (case hn_NoName_word => k_is)
    (case fi_NoName => k_is)
    (case ft_NoName => k_is)
    (case xl_NoName => k_is)
    (case xc_NoName => k_is)
    (case xk_NoName => k_is)
    (case sx_BadWord_TableError => first | k_is | rfl)
    (case sx_NoMake_TableError => first | k_is | rfl)
    (case sx_NoName_TableError => first | k_is | rfl)
    (case kx_NoName_NoName => kit_is)
    (case kx_NoMake_NoName => kit_is)
    (case kx_BadWord_NoName => kit_is)
    (case kx_NoName_NoMake => kit_is)
    (case kx_NoMake_NoMake => kit_is)
    (case kx_BadWord_NoMake => kit_is)
    (case kx_NoName_BadWord => kit_is)
    (case kx_NoMake_BadWord => kit_is)
    (case kx_BadWord_BadWord => kit_is)
    (case z_bool => k_is)
    (case z_int => k_is)
    (case z_isinstance => k_is)
    (case z_len => k_is)
    (case z_list => k_is)
    (case z_max => k_is)
    (case z_range => k_is)
    (case z_set => k_is)
    (case z_sorted => k_is)
    (case z_str => k_is)
    (case z_tuple => k_is)
    (case z_zip => k_is)
    (case z_LETTERS => k_is)

