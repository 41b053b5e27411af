import PyProof.Rows.All
import Wide.All
import OpenK.AllK
import Wide.FinOn
import HandS.ForMost
import KE.KDictKeyed
import HandS.IsInst
import HandS.Wide
import HandS.EndBits
import HandS.Codes
import HandS.Zip
import HandS.TupAny
import KE.DataCmp
import KE.SortKeyHeap
import HandS.SortKw
import HandS.More
import HandS.SortInts
import HandS.Strs
import HandS.SetFor
import KE.SortData
import HandS.Conv
import HandS.Rev
import HandS.ClsMeth
import PyProof.StrBlock2
import HandS.Iter
import PyProof.ListIndex
import KE.KDictPairs
import PyProof.DictUpdate
import HandS.WordsExc
import HandS.TryOnly
import HandS.ExcInit
import HandS.ExcField
import HandS.ExcIs
import KE.KExcIs
import PyProof.ListMulAny
import PyProof.Rows.ListMulArg
import KE.GoesMore
import KE.GoesZip
import PyProof.TupleOfSeq
import HandS.Text
import HandS.ListItems
import HandS.NoneIn
import PySem.Challenge.RW_twigtable_k13_a_store
set_option Elab.async false
set_option linter.all false
set_option maxRecDepth 100000
set_option maxHeartbeats 2000000
/-! dicts whose keys are trees of tuples -/
namespace L2
open PySem PySem.Spec PyProof.Rows
abbrev NX := List (NestedKey × Addr × Value)
/-- at a stands the dict of the entries xs, in their order -/
def dNO (w : World) (a : Addr) (xs : NX) : HO := .ext fun h => (a == sysModules) = false ∧ xs.length ≤ sizeLine ∧ ∃ o es ep, h.get? a = some o ∧ o.ExactDict ∧ o.data = .dict es ep ∧ es.toList = xs.map (fun x => (⟨x.1.hash w, .ref x.2.1, x.2.2⟩ : DictEntry)) ∧ (xs.map (·.1)).Nodup
/-- at b stands the tree of tuples that is the key q -/
def KeyAt (X : Cx) (H : Hp) (q : NestedKey) (b : Addr) : Prop := q.depth ≤ 8 ∧ ∀ pins σ s, Inv X pins σ H s → NestedIs s.heap q (.ref b)
section
variable {X : Cx} {pins : List (Addr × Obj)} {σ : St} {H : Hp} {s : Shared} {a b : Addr} {q : NestedKey} {xs : NX}
theorem dN_at (I : Inv X pins σ H s) (e : H a = some (dNO X.w a xs)) (ks : ∀ x ∈ xs, KeyAt X H x.1 x.2.1) : (a == sysModules) = false ∧ xs.length ≤ sizeLine ∧ s.heap.DictOfH (nestedKind X.prog X.w) a xs := by
  obtain ⟨h1, h2, o, es, ep, h3, h4, h5, h6, h7⟩ := (I.hok a _ e).1
  exact ⟨h1, h2, o, es, ep, h3, h4, h5, h6, fun x hx => ⟨(ks x hx).2 _ _ _ I, (ks x hx).1⟩, h7⟩
theorem dN_ok {P : Program} {w : World} {H' : Hp} {h : Heap} (hs : (a == sysModules) = false) (hl : xs.length ≤ sizeLine) (d : h.DictOfH (nestedKind P w) a xs) : ObjOk P w H' h a (dNO w a xs) := by
  obtain ⟨o, es, ep, h3, h4, h5, h6, h7, h8⟩ := d
  exact ⟨⟨hs, hl, o, es, ep, h3, h4, h5, h6, h8⟩, ⟨o, h3⟩, fun g1 g2 ⟨p1, p2, o, es, ep, q3, r⟩ k => ⟨p1, p2, o, es, ep, k o q3, r⟩⟩
theorem roomN {A : Around} (hu : A.units + 20 < cLine) : (nestedKind X.prog X.w).room A.in1 := by
  show A.units + 1 + 8 < cLine
  omega
/-! `{}` -/
def tDNewN (w : World) : TE := fun _ H Q => ∀ p, H p = none → Q (.ref p) (upd H p (dNO w p []))
theorem pe_dnewN {pos : Pos} : PE X (.Dict [] [] pos) (tDNewN X.w) := ⟨fun pins s σ H Q I h =>
  wpAny_Dict_empty ⟨.ref s.heap.objs.size, _, I.laid (a := s.heap.objs.size) (o := dNO X.w s.heap.objs.size []) (t' := s.toks) (fun _ _ e => Heap.get?_push_of_some _ e) (Nat.le_refl _)
    (dN_ok (beq_eq_false_iff_ne.mpr (Ne.symm (Nat.ne_of_lt I.big))) (Nat.zero_le _) (Heap.DictOfH.new (knd := nestedKind X.prog X.w) s.heap)), rfl, h _ (I.hok.fresh (Nat.le_refl _))⟩⟩
/-- a dict of this kind and a key for it -/
def AtN (X : Cx) (H : Hp) (x y : V) (a b : Addr) (q : NestedKey) (xs : NX) : Prop := x = .ref a ∧ y = .ref b ∧ H a = some (dNO X.w a xs) ∧ KeyAt X H q b ∧ ∀ x ∈ xs, KeyAt X H x.1 x.2.1
variable {o i e value : Expr} {pos pos' apos cpos : Pos} {td ty tv : TE}
def tNIn (X : Cx) (t : Bool) (ty td : TE) : TE := fun σ H Q => ty σ H fun y H1 => td σ H1 fun x H2 => ∃ a b q xs, AtN X H2 x y a b q xs ∧ Q (.bl ((atKey xs q).isSome == t)) H2
theorem pc_nin (hu : X.A.units + 20 < cLine) (hi : PE X i ty) (ho : PE X o td) : PC X .In i o (tNIn X true ty td) := by
  refine ⟨fun pins s σ H Q I h => ?_⟩
  refine thn (hi.run pins s σ H _ I h) fun iv s1 ⟨y, H1, I1, ry, q1⟩ => thn (ho.run pins s1 σ H1 _ I1 q1) fun u s2 ⟨x, H2, I2, rx, a, b, q, xs, ⟨ex, ey, ea, kb, ks⟩, q2⟩ => ?_
  subst ex ey
  obtain rfl : u = Value.ref a := rx
  obtain rfl : iv = Value.ref b := ry
  obtain ⟨z1, z2, dd⟩ := dN_at I2 ea ks
  exact wpAny_in_heap (knd := nestedKind X.prog X.w) (roomN hu) ⟨kb.2 _ _ _ I2, kb.1⟩ z1 dd ⟨.bl (atKey xs q).isSome, H2, I2.tok _, rfl, by rw [beq_true] at q2; exact q2⟩
theorem pc_nnin (hu : X.A.units + 20 < cLine) (hi : PE X i ty) (ho : PE X o td) : PC X .NotIn i o (tNIn X false ty td) := by
  refine ⟨fun pins s σ H Q I h => ?_⟩
  refine thn (hi.run pins s σ H _ I h) fun iv s1 ⟨y, H1, I1, ry, q1⟩ => thn (ho.run pins s1 σ H1 _ I1 q1) fun u s2 ⟨x, H2, I2, rx, a, b, q, xs, ⟨ex, ey, ea, kb, ks⟩, q2⟩ => ?_
  subst ex ey
  obtain rfl : u = Value.ref a := rx
  obtain rfl : iv = Value.ref b := ry
  obtain ⟨z1, z2, dd⟩ := dN_at I2 ea ks
  exact wpAny_notIn_heap (knd := nestedKind X.prog X.w) (roomN hu) ⟨kb.2 _ _ _ I2, kb.1⟩ z1 dd ⟨.bl (!(atKey xs q).isSome), H2, I2.tok _, rfl, by rw [beq_false] at q2; exact q2⟩
def tNGet (X : Cx) (td ty : TE) : TE := fun σ H Q => td σ H fun x H1 => ty σ H1 fun y H2 => ∃ a b q xs p v, AtN X H2 x y a b q xs ∧ atKey xs q = some p ∧ RelV v p.2 ∧ Q v H2
theorem pe_nget (hu : X.A.units + 20 < cLine) (ho : PE X o td) (hi : PE X i ty) (hs : NoSl i) : PE X (.Subscript o i pos) (tNGet X td ty) := by
  refine ⟨fun pins s σ H Q I h => ?_⟩
  refine subD_of PySem.F.slot_dict_getitem.lookup hs (thn (ho.run pins s σ H _ I h) fun u s1 ⟨x, H1, I1, rx, q1⟩ => thn (hi.run pins s1 σ H1 _ I1 q1) fun iv s2 ⟨y, H2, I2, ry, a, b, q, xs, p, v, ⟨ex, ey, ea, kb, ks⟩, hp, rv, q2⟩ => ?_)
  subst ex ey
  obtain rfl : u = Value.ref a := rx
  obtain rfl : iv = Value.ref b := ry
  obtain ⟨z1, z2, dd⟩ := dN_at I2 ea ks
  exact ⟨dd.typeIs, wpAny_getItem_heap (knd := nestedKind X.prog X.w) (roomN hu) ⟨kb.2 _ _ _ I2, kb.1⟩ dd hp ⟨v, H2, I2.tok _, rv, q2⟩⟩
theorem nwrite {h' : Heap} {t' : Nat} {xs' : NX} (I : Inv X pins σ H s) (ea : H a = some (dNO X.w a xs)) (z1 : (a == sysModules) = false) (sb : Heap.SameBut a s.heap h') (hl : xs'.length ≤ sizeLine) (d : h'.DictOfH (nestedKind X.prog X.w) a xs') :
    Inv X pins σ (upd H a (dNO X.w a xs')) { s with heap := h', toks := t' } :=
  I.write (e := a) (by rw [ea]; trivial) (.inl rfl) (fun c u hc hu => (sb.2 c hc).trans hu) (let ⟨o, _, _, e, _⟩ := d; ⟨o, e⟩) (dN_ok z1 hl d)
/-- d[k] = v -/
def sNPut (X : Cx) (td ty tv : TE) : TS := fun D σ H => tv σ H fun v H1 => td σ H1 fun x H2 => ty σ H2 fun y H3 => ∃ a b q xs, AtN X H3 x y a b q xs ∧ xs.length < sizeLine ∧ ∀ u, RelV v u → D.nx σ (upd H3 a (dNO X.w a (storedH xs q b u)))
theorem storedH_le (xs : NX) (q : NestedKey) (b : Addr) (u : Value) : (storedH xs q b u).length ≤ xs.length + 1 := by
  unfold storedH
  split
  · rw [List.length_map]; omega
  · rw [List.length_append]; exact Nat.le_refl _
theorem ps_nput (hu : X.A.units + 20 < cLine) (ho : PE X o td) (hi : PE X i ty) (hv : PE X value tv) (hs : swapsWith value (some (.Subscript o i pos')) pos.line X.env = pure false) :
    PS X (.Assign [.Subscript o i pos'] value pos) (sNPut X td ty tv) := by
  refine ⟨fun pins s σ H D I h => ?_⟩
  refine wpAny_Assign_Subscript (thn (hv.run pins s σ H _ I h) fun r s1 ⟨v, H1, I1, rv, q1⟩ => thn (ho.run pins s1 σ H1 _ I1 q1) fun u s2 ⟨x, H2, I2, rx, q2⟩ => thn (hi.run pins s2 σ H2 _ I2 q2) fun iv s3 ⟨y, H3, I3, ry, a, b, q, xs, ⟨ex, ey, ea, kb, ks⟩, hl, q3⟩ => ?_) hs
  subst ex ey
  obtain rfl : u = Value.ref a := rx
  obtain rfl : iv = Value.ref b := ry
  obtain ⟨z1, z2, dd⟩ := dN_at I3 ea ks
  exact wpAny_setItem_heap (knd := nestedKind X.prog X.w) (roomN hu) ⟨kb.2 _ _ _ I3, kb.1⟩ dd (fun h' d' sb => ⟨σ, _, nwrite I3 ea z1 sb (Nat.le_trans (storedH_le _ _ _ _) hl) d', q3 _ rv⟩) z2
/-- d.pop(k), there -/
def tNPop (X : Cx) (td ty : TE) : TE := fun σ H Q => td σ H fun x H1 => (∃ a xs, x = .ref a ∧ H1 a = some (dNO X.w a xs) ∧ ∀ x ∈ xs, KeyAt X H1 x.1 x.2.1) ∧ ty σ H1 fun y H2 => ∃ a b q xs p v, AtN X H2 x y a b q xs ∧ atKey xs q = some p ∧ RelV v p.2 ∧ Q v (upd H2 a (dNO X.w a (withoutH xs q)))
theorem pe_npop (hu : X.A.units + 20 < cLine) (ho : PE X o td) (he : PE X e ty) (m : M1 X o "pop" apos e cpos) : PE X (.Call (.Attribute o "pop" apos) [e] [] cpos) (tNPop X td ty) := by
  refine ⟨fun pins s σ H Q I h => ?_⟩
  refine wpAny_Call_method m.base m.few m.line PySem.F.plainAttrs_dict PySem.F.slot_dict_pop PySem.F.type_dict_pop (thn (ho.run pins s σ H _ I h) fun u s1 ⟨x, H1, I1, rx, ⟨a1, xs1, ex1, ea1, ks1⟩, q1⟩ => ?_)
  subst ex1
  obtain rfl : u = Value.ref a1 := rx
  obtain ⟨y1, y2, d1⟩ := dN_at I1 ea1 ks1
  refine ⟨d1.typeIs, fun c hc => ?_, ?_⟩
  · cases hc
    obtain ⟨o, _, _, e1, e2, _⟩ := d1
    exact ⟨o, e1, e2.2.1⟩
  rw [m.trees]
  refine Calls.callWith_builtin rfl (Calls.evalArgs_plain (Calls.spliced_cons (thn (he.run pins s1 σ H1 _ I1 q1) fun iv s2 ⟨y, H2, I2, ry, a, b, q, xs, p, v, ⟨ex, ey, ea, kb, ks⟩, hp, rv, q2⟩ => Calls.spliced_nil ?_)))
  subst ey
  cases ex
  obtain rfl : iv = Value.ref b := ry
  obtain ⟨z1, z2, dd⟩ := dN_at I2 ea ks
  exact call_pop_heap (knd := nestedKind X.prog X.w) (.inl rfl) (PySem.F.args_dict_pop_2 _ _) (roomN hu) ⟨kb.2 _ _ _ I2, kb.1⟩ z1 dd hp
    (fun h' d' sb => ⟨v, _, nwrite I2 ea z1 sb (Nat.le_trans (List.length_filter_le _ _) z2) d', rv, q2⟩) z2
end
end L2

/-! Fx: a def's body as a function on data: trees for what is never changed, numbered cells for lists that are. -/
namespace Fx
open PySem PySem.Spec PyProof.Rows L2

/-! ### data -/
inductive D where
  | non | bl (b : Bool) | int (i : Int) | str (x : Str) | tup (xs : List D) | lst (xs : List D) | cell (n : Nat) | ref (a : Addr) | pr (a b : D)
inductive Cell where
  | lst (xs : List D) | dct (kvs : List (Key × D)) | obj (x : Str) (fs : List (Str × D)) | dctL (o : Obj) (us : List (Key × V)) (kvs : List (Key × D)) | dctN (wd : World) (kvs : List (NestedKey × D))
structure S where
  loc : List (Option D)
  vh : List Cell
structure Ex where
  cls : Str
  fs : List (Str × D)
inductive Res (α : Type) where
  | ok (a : α) (s : S) | exc (e : Ex) (s : S) | bad
abbrev M (α : Type) := S → Res α
def ret {α : Type} (a : α) : M α := fun s => .ok a s
def fail {α : Type} : M α := fun _ => .bad
def bnd {α β : Type} (m : M α) (k : α → M β) : M β := fun s => match m s with
  | .ok a s' => k a s'
  | .exc e s' => .exc e s'
  | .bad => .bad
mutual
def nkD : D → Option NestedKey
  | .non => some .none
  | .bl b => some (.num (if b = true then 1 else 0))
  | .int i => some (.num i)
  | .str x => some (.text x)
  | .tup ds => (nkL ds).map .tup
  | _ => none
def nkL : List D → Option (List NestedKey)
  | [] => some []
  | d :: r => match nkD d, nkL r with
    | some k, some ks => some (k :: ks)
    | _, _ => none
end
/-- data that stand in the abstract heap -/
structure Wd where
  ρ : List Addr
  F : Hp
def Wd.le (w w' : Wd) : Prop := (∀ (n : Nat) a, w.ρ[n]? = some a → w'.ρ[n]? = some a) ∧ ∀ a o, w.F a = some o → w'.F a = some o
theorem Wd.le.refl (w : Wd) : w.le w := ⟨fun _ _ h => h, fun _ _ h => h⟩
theorem Wd.le.trans {a b c : Wd} (x : a.le b) (y : b.le c) : a.le c := ⟨fun n q h => y.1 n q (x.1 n q h), fun q o h => y.2 q o (x.2 q o h)⟩
/-- a tuple that has no dict of its own -/
def TupC (F : Hp) (a : Addr) (vs : List V) : Prop := ∃ o : Obj, F a = some (.frz o (.tup vs)) ∧ o.dict = none
section
variable (K : PySem.W.Frag)
mutual
inductive Rep : Wd → V → D → Prop
  | non {w : Wd} : Rep w .non .non
  | bl {w : Wd} (b : Bool) : Rep w (.bl b) (.bl b)
  | int {w : Wd} (i : Int) : Rep w (.int i) (.int i)
  | str {w : Wd} (x : Str) : Rep w (.str x) (.str x)
  | ref {w : Wd} (a : Addr) : Rep w (.ref a) (.ref a)
  | tup {w : Wd} {a : Addr} {vs : List V} {ds : List D} (h : TupC w.F a vs) (t : RepL w vs ds) : Rep w (.ref a) (.tup ds)
  | pr {w : Wd} {a : Addr} {v u : V} {d e : D} (h : SqT K w.F a [v, u]) (r : Rep w v d) (q : Rep w u e) : Rep w (.ref a) (.pr d e)
  | lst {w : Wd} {a : Addr} {vs : List V} {ds : List D} (h : SqL K w.F a vs) (t : RepL w vs ds) : Rep w (.ref a) (.lst ds)
  | cell {w : Wd} {a : Addr} {n : Nat} (h : w.ρ[n]? = some a) : Rep w (.ref a) (.cell n)
inductive RepL : Wd → List V → List D → Prop
  | nil {w : Wd} : RepL w [] []
  | cons {w : Wd} {v : V} {d : D} {vs : List V} {ds : List D} (h : Rep w v d) (t : RepL w vs ds) : RepL w (v :: vs) (d :: ds)
end
inductive RepK : Wd → List (Key × V) → List (Key × D) → Prop
  | nil {w : Wd} : RepK w [] []
  | cons {w : Wd} {k : Key} {v : V} {d : D} {vs : List (Key × V)} {ds : List (Key × D)} (h : Rep K w v d) (t : RepK w vs ds) : RepK w ((k, v) :: vs) ((k, d) :: ds)
inductive RepF : Wd → List (Str × V) → List (Str × D) → Prop
  | nil {w : Wd} : RepF w [] []
  | cons {w : Wd} {k : Str} {v : V} {d : D} {vs : List (Str × V)} {ds : List (Str × D)} (h : Rep K w v d) (t : RepF w vs ds) : RepF w ((k, v) :: vs) ((k, d) :: ds)
inductive RepN : Wd → NX → List (NestedKey × D) → Prop
  | nil {w : Wd} : RepN w [] []
  | cons {w : Wd} {q : NestedKey} {b : Addr} {u : Value} {kd : D} {v : V} {d : D} {xs : NX} {ds : List (NestedKey × D)} (hk : nkD kd = some q) (hq : q.depth ≤ 8) (r : Rep K w (.ref b) kd) (ru : RelV v u) (h : Rep K w v d) (t : RepN w xs ds) : RepN w ((q, b, u) :: xs) ((q, d) :: ds)
def CellIs (w : Wd) (H : Hp) (a : Addr) : Cell → Prop
  | .dctN wd kvs => ∃ xs, H a = some (dNO wd a xs) ∧ RepN K w xs kvs
  | .lst ds => ∃ vs, H a = some (.lst vs) ∧ RepL K w vs ds
  | .dct kvs => ∃ vs, H a = some (.dK vs) ∧ RepK K w vs kvs
  | .obj x fs => ∃ C dx vs, PySem.W.nsIn K mainGlobals x = some (some (.ref C)) ∧ H a = some (.ins C dx vs) ∧ RepF K w vs fs
  | .dctL o us kvs => H a = some (.frz o (.dK us)) ∧ RepK K w us kvs
structure RS (w : Wd) (H : Hp) (σ : L2.St) (s : S) : Prop where
  sub : ∀ a o, w.F a = some o → H a = some o
  len : σ.length = s.loc.length
  loc : ∀ (i : Nat) d, s.loc[i]? = some (some d) → ∃ v, σ[i]? = some (some v) ∧ Rep K w v d
  cl : w.ρ.length = s.vh.length
  nd : w.ρ.Nodup
  out : ∀ a ∈ w.ρ, w.F a = none
  cells : ∀ (n : Nat) a c, w.ρ[n]? = some a → s.vh[n]? = some c → CellIs K w H a c
end
section
variable {K : PySem.W.Frag} {w w' : Wd} {H H' : Hp} {σ : L2.St} {s s' : S}
theorem TupC.up {F F' : Hp} (h : ∀ a o, F a = some o → F' a = some o) {a : Addr} {vs : List V} (x : TupC F a vs) : TupC F' a vs := let ⟨o, e, d⟩ := x; ⟨o, h _ _ e, d⟩
theorem TupC.sq {F : Hp} {a : Addr} {vs : List V} (x : TupC F a vs) : SqT K F a vs := let ⟨o, e, _⟩ := x; .inl (.inr ⟨o, e⟩)
theorem sqT_up {F F' : Hp} (h : ∀ a o, F a = some o → F' a = some o) {a : Addr} {vs : List V} (x : SqT K F a vs) : SqT K F' a vs := by
  rcases x with (x | ⟨o, x⟩) | x
  · exact .inl (.inl (h _ _ x))
  · exact .inl (.inr ⟨o, h _ _ x⟩)
  · exact .inr x
theorem rd_up {F F' : Hp} (h : ∀ a o, F a = some o → F' a = some o) {a : Addr} {u : HO} (x : L2.Rd F a u) : L2.Rd F' a u := by
  rcases x with x | ⟨o, x⟩
  · exact .inl (h _ _ x)
  · exact .inr ⟨o, h _ _ x⟩
theorem sqL_up {F F' : Hp} (h : ∀ a o, F a = some o → F' a = some o) {a : Addr} {vs : List V} (x : SqL K F a vs) : SqL K F' a vs := by
  rcases x with (x | ⟨o, x⟩) | x
  · exact .inl (.inl (h _ _ x))
  · exact .inl (.inr ⟨o, h _ _ x⟩)
  · exact .inr x
mutual
theorem Rep.upW (l : w.le w') : ∀ {v : V} {d : D}, Rep K w v d → Rep K w' v d
  | _, _, .non => .non
  | _, _, .bl b => .bl b
  | _, _, .int i => .int i
  | _, _, .str x => .str x
  | _, _, .ref a => .ref a
  | _, _, .tup h t => .tup (h.up l.2) (RepL.upW l t)
  | _, _, .pr h r q => .pr (sqT_up l.2 h) (Rep.upW l r) (Rep.upW l q)
  | _, _, .lst h t => .lst (sqL_up l.2 h) (RepL.upW l t)
  | _, _, .cell h => .cell (l.1 _ _ h)
theorem RepL.upW (l : w.le w') : ∀ {vs : List V} {ds : List D}, RepL K w vs ds → RepL K w' vs ds
  | _, _, .nil => .nil
  | _, _, .cons h t => .cons (Rep.upW l h) (RepL.upW l t)
end
theorem RepK.upW (l : w.le w') : ∀ {vs : List (Key × V)} {ds : List (Key × D)}, RepK K w vs ds → RepK K w' vs ds
  | _, _, .nil => .nil
  | _, _, .cons h t => .cons (h.upW l) (RepK.upW l t)
theorem RepF.upW (l : w.le w') : ∀ {vs : List (Str × V)} {ds : List (Str × D)}, RepF K w vs ds → RepF K w' vs ds
  | _, _, .nil => .nil
  | _, _, .cons h t => .cons (h.upW l) (RepF.upW l t)
theorem RepN.upW (l : w.le w') : ∀ {xs : NX} {ds : List (NestedKey × D)}, RepN K w xs ds → RepN K w' xs ds
  | _, _, .nil => .nil
  | _, _, .cons hk hq r ru h t => .cons hk hq (r.upW l) ru (h.upW l) (RepN.upW l t)
theorem RepL.length : ∀ {vs : List V} {ds : List D}, RepL K w vs ds → vs.length = ds.length
  | _, _, .nil => rfl
  | _, _, .cons _ t => by simp only [List.length_cons]; rw [RepL.length t]
theorem RepL.get : ∀ {vs : List V} {ds : List D} {i : Nat} {d : D}, RepL K w vs ds → ds[i]? = some d → ∃ v, vs[i]? = some v ∧ Rep K w v d
  | _, _, i, d, .nil, e => by simp at e
  | _, _, 0, d, .cons h t, e => by simp at e; subst e; exact ⟨_, rfl, h⟩
  | _, _, i + 1, d, .cons h t, e => by
    obtain ⟨v, h1, h2⟩ := RepL.get (i := i) (d := d) t (by simpa using e)
    exact ⟨v, by simpa using h1, h2⟩
theorem RepL.get' : ∀ {vs : List V} {ds : List D} {i : Nat} {v : V}, RepL K w vs ds → vs[i]? = some v → ∃ d, ds[i]? = some d ∧ Rep K w v d
  | _, _, i, d, .nil, e => by simp at e
  | _, _, 0, d, .cons h t, e => by simp at e; subst e; exact ⟨_, rfl, h⟩
  | _, _, i + 1, d, .cons h t, e => by
    obtain ⟨v, h1, h2⟩ := RepL.get' (i := i) (v := d) t (by simpa using e)
    exact ⟨v, by simpa using h1, h2⟩
theorem RepL.append : ∀ {vs us : List V} {ds es : List D}, RepL K w vs ds → RepL K w us es → RepL K w (vs ++ us) (ds ++ es)
  | _, _, _, _, .nil, s => s
  | _, _, _, _, .cons r t, s => .cons r (RepL.append t s)
theorem RepL.take : ∀ {vs : List V} {ds : List D} (n : Nat), RepL K w vs ds → RepL K w (vs.take n) (ds.take n)
  | _, _, 0, _ => .nil
  | _, _, _ + 1, .nil => .nil
  | _, _, n + 1, .cons r t => .cons r (RepL.take n t)
theorem RepL.drop : ∀ {vs : List V} {ds : List D} (n : Nat), RepL K w vs ds → RepL K w (vs.drop n) (ds.drop n)
  | _, _, 0, r => r
  | _, _, _ + 1, .nil => .nil
  | _, _, n + 1, .cons _ t => RepL.drop n t
theorem RepL.set {v : V} {d : D} (r : Rep K w v d) : ∀ {vs : List V} {ds : List D} (i : Nat), RepL K w vs ds → RepL K w (vs.set i v) (ds.set i d)
  | _, _, _, .nil => .nil
  | _, _, 0, .cons _ t => .cons r t
  | _, _, i + 1, .cons q t => .cons q (RepL.set r i t)
theorem CellIs.upW (l : w.le w') {a : Addr} {c : Cell} (e : H' a = H a) (h : CellIs K w H a c) : CellIs K w' H' a c := by
  cases c with
  | lst ds => obtain ⟨vs, h1, h2⟩ := h; exact ⟨vs, by rw [e]; exact h1, h2.upW l⟩
  | dct kvs => obtain ⟨vs, h1, h2⟩ := h; exact ⟨vs, by rw [e]; exact h1, h2.upW l⟩
  | obj x fs => obtain ⟨C, dx, vs, h0, h1, h2⟩ := h; exact ⟨C, dx, vs, h0, by rw [e]; exact h1, h2.upW l⟩
  | dctL o us kvs => obtain ⟨h1, h2⟩ := h; exact ⟨by rw [e]; exact h1, h2.upW l⟩
  | dctN wd kvs => obtain ⟨xs, h1, h2⟩ := h; exact ⟨xs, by rw [e]; exact h1, h2.upW l⟩
theorem CellIs.there {a : Addr} {c : Cell} (h : CellIs K w H a c) : ∃ o, H a = some o := by
  cases c with
  | lst ds => obtain ⟨vs, h1, _⟩ := h; exact ⟨_, h1⟩
  | dct kvs => obtain ⟨vs, h1, _⟩ := h; exact ⟨_, h1⟩
  | obj x fs => obtain ⟨C, dx, vs, _, h1, _⟩ := h; exact ⟨_, h1⟩
  | dctL o us kvs => exact ⟨_, h.1⟩
  | dctN wd kvs => obtain ⟨xs, h1, _⟩ := h; exact ⟨_, h1⟩
theorem RS.cellOf (R : RS K w H σ s) {n : Nat} {a : Addr} (h : w.ρ[n]? = some a) : ∃ c, s.vh[n]? = some c ∧ CellIs K w H a c := by
  have hn : n < w.ρ.length := (List.getElem?_eq_some_iff.mp h).1
  have hm : n < s.vh.length := by rw [← R.cl]; exact hn
  exact ⟨s.vh[n], List.getElem?_eq_getElem hm, R.cells n a _ h (List.getElem?_eq_getElem hm)⟩
theorem RS.addrOf (R : RS K w H σ s) {n : Nat} {c : Cell} (h : s.vh[n]? = some c) : ∃ a, w.ρ[n]? = some a ∧ CellIs K w H a c := by
  have hn : n < s.vh.length := (List.getElem?_eq_some_iff.mp h).1
  have hm : n < w.ρ.length := by rw [R.cl]; exact hn
  exact ⟨w.ρ[n], List.getElem?_eq_getElem hm, R.cells n _ _ (List.getElem?_eq_getElem hm) h⟩
theorem RS.fresh (R : RS K w H σ s) {p : Addr} (hp : H p = none) : w.F p = none ∧ p ∉ w.ρ := by
  refine ⟨?_, fun hm => ?_⟩
  · cases q : w.F p with
    | none => rfl
    | some o => rw [R.sub p o q] at hp; cases hp
  · obtain ⟨n, hn, e⟩ := List.mem_iff_getElem.mp hm
    obtain ⟨c, _, hc⟩ := R.cellOf (n := n) (a := p) (by rw [List.getElem?_eq_getElem hn, e])
    obtain ⟨o, ho⟩ := hc.there
    rw [ho] at hp; cases hp
theorem RS.ne (R : RS K w H σ s) {p a : Addr} {n : Nat} (hp : H p = none) (h : w.ρ[n]? = some a) : a ≠ p := by
  intro e; subst e
  exact (R.fresh hp).2 (List.mem_of_getElem? h)
/-- something new is laid, that will not change -/
def Wd.frz (w : Wd) (p : Addr) (o : HO) : Wd := ⟨w.ρ, upd w.F p o⟩
theorem Wd.frz_le {p : Addr} {o : HO} (h : w.F p = none) : w.le (w.frz p o) := ⟨fun _ _ e => e, fun a q e => by
  show upd w.F p o a = some q
  rw [upd_ne (ne_of_none e h)]; exact e⟩
theorem RS.lay (R : RS K w H σ s) {p : Addr} {o : HO} (hp : H p = none) : RS K (w.frz p o) (upd H p o) σ s := by
  have f := R.fresh hp
  have le := Wd.frz_le (o := o) f.1
  refine ⟨fun a q e => ?_, R.len, fun i d e => ?_, R.cl, R.nd, fun a ha => ?_, fun n a c e1 e2 => ?_⟩
  · have e : upd w.F p o a = some q := e
    by_cases h : a = p
    · subst h; rw [upd_same] at e ⊢; exact e
    · rw [upd_ne h] at e ⊢; exact R.sub a q e
  · obtain ⟨v, h1, h2⟩ := R.loc i d e
    exact ⟨v, h1, h2.upW le⟩
  · show upd w.F p o a = none
    rw [upd_ne (fun (e : a = p) => f.2 (e ▸ ha))]; exact R.out a ha
  · exact (R.cells n a c e1 e2).upW le (upd_ne (R.ne hp e1))
/-- something new is laid that stands by itself (a cell) -/
def Wd.own (w : Wd) (p : Addr) : Wd := ⟨w.ρ ++ [p], w.F⟩
theorem Wd.own_le {p : Addr} : w.le (w.own p) := ⟨fun n a e => by
  show (w.ρ ++ [p])[n]? = some a
  rw [List.getElem?_append_left (List.getElem?_eq_some_iff.mp e).1]; exact e, fun _ _ e => e⟩
theorem RS.addCell (R : RS K w H σ s) {p : Addr} {c : Cell} (hf : w.F p = none) (hr : p ∉ w.ρ) (hc : CellIs K w H p c) : RS K (w.own p) H σ { s with vh := s.vh ++ [c] } := by
  refine ⟨R.sub, R.len, fun i d e => ?_, ?_, ?_, fun a ha => ?_, fun n a c' e1 e2 => ?_⟩
  · obtain ⟨v, h1, h2⟩ := R.loc i d e
    exact ⟨v, h1, h2.upW Wd.own_le⟩
  · show (w.ρ ++ [p]).length = (s.vh ++ [c]).length
    rw [List.length_append, List.length_append, R.cl]; rfl
  · show (w.ρ ++ [p]).Nodup
    rw [List.nodup_append]
    refine ⟨R.nd, by simp, fun a ha b hb => ?_⟩
    rw [List.mem_singleton] at hb; subst hb
    intro e; subst e; exact hr ha
  · rcases List.mem_append.mp ha with h | h
    · exact R.out a h
    · rw [List.mem_singleton] at h; subst h; exact hf
  · have e1 : (w.ρ ++ [p])[n]? = some a := e1
    have e2 : (s.vh ++ [c])[n]? = some c' := e2
    by_cases hn : n < w.ρ.length
    · rw [List.getElem?_append_left hn] at e1
      rw [List.getElem?_append_left (by rw [← R.cl]; exact hn)] at e2
      exact (R.cells n a c' e1 e2).upW Wd.own_le rfl
    · have hn' : n < w.ρ.length + 1 := by
        have := (List.getElem?_eq_some_iff.mp e1).1
        rw [List.length_append] at this; exact this
      have en : n = w.ρ.length := by omega
      subst en
      rw [List.getElem?_append_right (Nat.le_refl _), Nat.sub_self] at e1
      rw [R.cl, List.getElem?_append_right (Nat.le_refl _), Nat.sub_self] at e2
      cases e1; cases e2
      exact hc.upW Wd.own_le rfl
/-- a cell changes -/
theorem RS.setCell (R : RS K w H σ s) {n : Nat} {a : Addr} {c : Cell} {o : HO} (h : w.ρ[n]? = some a) (hc : CellIs K w (upd H a o) a c) : RS K w (upd H a o) σ { s with vh := s.vh.set n c } := by
  have fa : w.F a = none := R.out a (List.mem_of_getElem? h)
  refine ⟨fun b q e => ?_, R.len, R.loc, by rw [List.length_set]; exact R.cl, R.nd, R.out, fun m b c' e1 e2 => ?_⟩
  · rw [upd_ne (ne_of_none e fa)]; exact R.sub b q e
  · by_cases hm : m = n
    · subst hm
      rw [h] at e1; cases e1
      have hl : m < s.vh.length := by rw [← R.cl]; exact (List.getElem?_eq_some_iff.mp h).1
      rw [List.getElem?_set_self hl] at e2; cases e2
      exact hc
    · rw [List.getElem?_set_ne (Ne.symm hm)] at e2
      have hb : b ≠ a := fun e => by
        subst e
        have h1 := List.getElem?_eq_some_iff.mp e1
        have h2 := List.getElem?_eq_some_iff.mp h
        exact hm ((List.getElem_inj R.nd).mp (h1.2.trans h2.2.symm))
      exact (R.cells m b c' e1 e2).upW (Wd.le.refl w) (upd_ne hb)
theorem RS.set (R : RS K w H σ s) {i : Nat} {v : V} {d : D} (r : Rep K w v d) : RS K w H (σ.set i (some v)) { s with loc := s.loc.set i (some d) } := by
  refine ⟨R.sub, by rw [List.length_set, List.length_set]; exact R.len, fun j e h => ?_, R.cl, R.nd, R.out, R.cells⟩
  by_cases hj : j = i
  · subst hj
    have hl : j < s.loc.length := by
      have := (List.getElem?_eq_some_iff.mp h).1
      rw [List.length_set] at this; exact this
    rw [List.getElem?_set_self hl] at h; cases h
    exact ⟨v, List.getElem?_set_self (by rw [R.len]; exact hl), r⟩
  · rw [List.getElem?_set_ne (Ne.symm hj)] at h ⊢
    exact R.loc j e h
/-- other slots, the same heap -/
theorem RS.other {σ' : L2.St} {l : List (Option D)} (R : RS K w H σ s) (hl : σ'.length = l.length) (h : ∀ (i : Nat) d, l[i]? = some (some d) → ∃ v, σ'[i]? = some (some v) ∧ Rep K w v d) : RS K w H σ' { s with loc := l } :=
  ⟨R.sub, hl, h, R.cl, R.nd, R.out, R.cells⟩
end

/-! ### from one state to a later one -/
structure Le (w : Wd) (H : Hp) (w' : Wd) (H' : Hp) : Prop where
  le : w.le w'
  keep : ∀ a o, H a = some o → a ∉ w.ρ → H' a = some o
  newρ : ∀ a, a ∈ w'.ρ → a ∈ w.ρ ∨ H a = none
  newF : ∀ a o, w'.F a = some o → w.F a = some o ∨ H a = none ∨ a ∈ w.ρ
section
variable {K : PySem.W.Frag} {w w' w1 w2 : Wd} {H H' H1 H2 : Hp} {σ : L2.St} {s : S}
theorem Le.refl (w : Wd) (H : Hp) : Le w H w H := ⟨Wd.le.refl w, fun _ _ h _ => h, fun _ h => .inl h, fun _ _ h => .inl h⟩
theorem mem_up (l : w.le w') {a : Addr} (h : a ∈ w.ρ) : a ∈ w'.ρ := by
  obtain ⟨n, hn, e⟩ := List.mem_iff_getElem.mp h
  exact List.mem_of_getElem? (l.1 n a (by rw [List.getElem?_eq_getElem hn, e]))
theorem Le.back (l : Le w H w1 H1) {a : Addr} (h : H1 a = none) : H a = none ∨ a ∈ w.ρ := by
  cases e : H a with
  | none => exact .inl rfl
  | some o =>
    by_cases ha : a ∈ w.ρ
    · exact .inr ha
    · rw [l.keep a o e ha] at h; cases h
theorem Le.trans (x : Le w H w1 H1) (y : Le w1 H1 w2 H2) : Le w H w2 H2 := by
  refine ⟨x.le.trans y.le, fun a o e h => ?_, fun a h => ?_, fun a o h => ?_⟩
  · refine y.keep a o (x.keep a o e h) fun h1 => ?_
    rcases x.newρ a h1 with h2 | h2
    · exact h h2
    · rw [e] at h2; cases h2
  · rcases y.newρ a h with h1 | h1
    · exact x.newρ a h1
    · rcases x.back h1 with h2 | h2
      · exact .inr h2
      · exact .inl h2
  · rcases y.newF a o h with h1 | h1 | h1
    · exact x.newF a o h1
    · rcases x.back h1 with h2 | h2
      · exact .inr (.inl h2)
      · exact .inr (.inr h2)
    · rcases x.newρ a h1 with h2 | h2
      · exact .inr (.inr h2)
      · exact .inr (.inl h2)
theorem Rep.up (l : Le w H w' H') {v : V} {d : D} (h : Rep K w v d) : Rep K w' v d := h.upW l.le
theorem RepL.up (l : Le w H w' H') {v : List V} {d : List D} (h : RepL K w v d) : RepL K w' v d := h.upW l.le
theorem RepK.up (l : Le w H w' H') {v : List (Key × V)} {d : List (Key × D)} (h : RepK K w v d) : RepK K w' v d := h.upW l.le
theorem Le.laid {p : Addr} {o : HO} (hp : H p = none) : Le w H w (upd H p o) := ⟨Wd.le.refl w, fun a q e _ => by rw [upd_ne (ne_of_none e hp)]; exact e, fun _ h => .inl h, fun _ _ h => .inl h⟩
theorem Le.lay {p : Addr} {o : HO} (hp : H p = none) (hf : w.F p = none) : Le w H (w.frz p o) (upd H p o) := ⟨Wd.frz_le hf, fun a q e _ => by rw [upd_ne (ne_of_none e hp)]; exact e, fun _ h => .inl h, fun a q h => by
  by_cases e : a = p
  · subst e; exact .inr (.inl hp)
  · have h : upd w.F p o a = some q := h
    rw [upd_ne e] at h; exact .inl h⟩
/-- a tracked thing that was new is frozen | becomes a cell -/
theorem Le.frz {p : Addr} {o : HO} (l : Le w H w1 H1) (hp : H p = none) (hf : w1.F p = none) : Le w H (w1.frz p o) H1 := ⟨l.le.trans (Wd.frz_le hf), l.keep, l.newρ, fun a q h => by
  by_cases e : a = p
  · subst e; exact .inr (.inl hp)
  · have h : upd w1.F p o a = some q := h
    rw [upd_ne e] at h; exact l.newF a q h⟩
theorem Le.own {p : Addr} (l : Le w H w1 H1) (hp : H p = none) : Le w H (w1.own p) H1 := ⟨l.le.trans Wd.own_le, l.keep, fun a h => by
  rcases List.mem_append.mp h with h | h
  · exact l.newρ a h
  · rw [List.mem_singleton] at h; subst h; exact .inr hp, l.newF⟩
theorem Le.write {a : Addr} {o : HO} (h : a ∈ w.ρ) : Le w H w (upd H a o) := ⟨Wd.le.refl w, fun b q e hb => by
  have hne : b ≠ a := fun (z : b = a) => hb (z ▸ h)
  rw [upd_ne hne]; exact e, fun _ h => .inl h, fun _ _ h => .inl h⟩
end
/-! ### what is wanted behind a step -/
abbrev WX := Ex → Wd → Hp → L2.St → Prop
def W0 : WX := fun _ _ _ _ => False
/-- how a result is told: by the heap ahead, the state behind -/
structure Pr (ν α : Type) where
  p : Hp → Wd → Hp → ν → α → Prop
  mono : ∀ (w : Wd) H w1 H1 w' H' v a, Le w H w1 H1 → w1.le w' → p H1 w' H' v a → p H w' H' v a
section
variable (K : PySem.W.Frag) (W : WX)
def Post {α ν : Type} (P : Pr ν α) (w : Wd) (H : Hp) (σ : L2.St) (r : Res α) (Q : ν → Hp → Prop) : Prop := match r with
  | .ok a s => ∀ w' H' v, Le w H w' H' → RS K w' H' σ s → P.p H w' H' v a → Q v H'
  | .exc e s => ∀ w' H', Le w H w' H' → RS K w' H' σ s → W e w' H' σ
  | .bad => False
/-- the reading t does what f says -/
def Fol {α ν : Type} (P : Pr ν α) (t : L2.St → Hp → (ν → Hp → Prop) → Prop) (f : M α) : Prop :=
  ∀ w H σ s Q, RS K w H σ s → Post K W P w H σ (f s) Q → t σ H Q
@[reducible] def pD : Pr V D := ⟨fun _ w _ v d => Rep K w v d, fun _ _ _ _ _ _ _ _ _ _ h => h⟩
@[reducible] def pL : Pr (List V) (List D) := ⟨fun _ w _ v d => RepL K w v d, fun _ _ _ _ _ _ _ _ _ _ h => h⟩
@[reducible] def pB : Pr Bool Bool := ⟨fun _ _ _ a b => a = b, fun _ _ _ _ _ _ _ _ _ _ h => h⟩
/-- a new object that nothing else knows -/
structure New (H : Hp) (w : Wd) (H' : Hp) (p : Addr) (c : Cell) : Prop where
  f : w.F p = none
  r : p ∉ w.ρ
  c : CellIs K w H' p c
  n : H p = none
@[reducible] def pN : Pr V Cell := ⟨fun H w H' v c => ∃ p, v = .ref p ∧ New K H w H' p c, fun w H w1 H1 w' H' v a l l' ⟨p, e, h⟩ => ⟨p, e, h.f, h.r, h.c, by
  rcases l.back h.n with z | z
  · exact z
  · exact (h.r (mem_up (l.le.trans l') z)).elim⟩⟩
end
section
variable {K : PySem.W.Frag} {W : WX} {α β ν μ : Type} {P : Pr ν α} {P2 : Pr μ β} {w w1 : Wd} {H H1 : Hp} {σ : L2.St} {s : S}
theorem Post.up {r : Res α} {Q : ν → Hp → Prop} (l : Le w H w1 H1) (h : Post K W P w H σ r Q) : Post K W P w1 H1 σ r Q := by
  cases r with
  | ok a s => exact fun w' H' v l' R p => h w' H' v (l.trans l') R (P.mono w H w1 H1 w' H' v a l l'.le p)
  | exc e s => exact fun w' H' l' R => h w' H' (l.trans l') R
  | bad => exact h
theorem Post.bnd {m : M α} {k : α → M β} {Q : ν → Hp → Prop} {Q2 : μ → Hp → Prop} (h : Post K W P2 w H σ (bnd m k s) Q2)
    (f : ∀ a s' w' H' v, Le w H w' H' → RS K w' H' σ s' → P.p H w' H' v a → Post K W P2 w' H' σ (k a s') Q2 → Q v H') : Post K W P w H σ (m s) Q := by
  unfold Fx.bnd at h
  cases e : m s with
  | ok a s' => rw [e] at h; exact fun w' H' v l R p => f a s' w' H' v l R p (h.up l)
  | exc x s' => rw [e] at h; exact h
  | bad => rw [e] at h; exact h
theorem Fol.bnd {t : L2.St → Hp → (ν → Hp → Prop) → Prop} {f : M α} {k : α → M β} {Q2 : μ → Hp → Prop} {Q : ν → Hp → Prop} (h : Fol K W P t f) (R : RS K w H σ s) (p : Post K W P2 w H σ (Fx.bnd f k s) Q2)
    (g : ∀ a s' w' H' v, Le w H w' H' → RS K w' H' σ s' → P.p H w' H' v a → Post K W P2 w' H' σ (k a s') Q2 → Q v H') : t σ H Q := h w H σ s Q R (p.bnd g)
end
end Fx

namespace Fx
open PySem PySem.Spec PyProof.Rows L2
/-! ### reading data -/
def lstOf (s : S) : D → Option (List D)
  | .lst ds => some ds
  | .cell n => match s.vh[n]? with
    | some (.lst ds) => some ds
    | _ => none
  | _ => none
def tupOf : D → Option (List D)
  | .tup ds => some ds
  | _ => none
def dctOf (s : S) : D → Option (List (Key × D))
  | .cell n => match s.vh[n]? with
    | some (.dct ds) => some ds
    | _ => none
  | _ => none
section
variable {K : PySem.W.Frag} {W : WX} {w : Wd} {H : Hp} {σ : L2.St} {s : S} {v : V} {d : D}
theorem RS.list (R : RS K w H σ s) (r : Rep K w v d) {ds : List D} (h : lstOf s d = some ds) : ∃ a vs, v = .ref a ∧ SqL K H a vs ∧ RepL K w vs ds := by
  cases r with
  | lst h1 t =>
    cases h
    exact ⟨_, _, rfl, sqL_up R.sub h1, t⟩
  | cell h1 =>
    obtain ⟨c, e, hc⟩ := R.cellOf h1
    unfold lstOf at h
    simp only [e] at h
    cases c with
    | lst xs => simp at h; subst h; obtain ⟨vs, h2, h3⟩ := hc; exact ⟨_, _, rfl, SqL.of h2, h3⟩
    | dct _ => simp at h
    | obj _ _ => simp at h
    | dctL _ _ _ => simp at h
    | dctN _ _ => simp at h
  | _ => simp [lstOf] at h
theorem RS.tuple (R : RS K w H σ s) (r : Rep K w v d) {ds : List D} (h : tupOf d = some ds) : ∃ a vs, v = .ref a ∧ SqT K H a vs ∧ RepL K w vs ds := by
  cases r with
  | tup h1 t =>
    cases h
    exact ⟨_, _, rfl, sqT_up R.sub h1.sq, t⟩
  | _ => simp [tupOf] at h
theorem RS.dict (R : RS K w H σ s) (r : Rep K w v d) {ds : List (Key × D)} (h : dctOf s d = some ds) : ∃ a vs, v = .ref a ∧ H a = some (.dK vs) ∧ RepK K w vs ds := by
  cases r with
  | cell h1 =>
    obtain ⟨c, e, hc⟩ := R.cellOf h1
    unfold dctOf at h
    simp only [e] at h
    cases c with
    | lst xs => simp at h
    | dct _ => simp at h; subst h; obtain ⟨vs, h2, h3⟩ := hc; exact ⟨_, _, rfl, h2, h3⟩
    | obj _ _ => simp at h
    | dctL _ _ _ => simp at h
    | dctN _ _ => simp at h
  | _ => simp [dctOf] at h
/-- a new list that will not change -/
theorem RS.newL (R : RS K w H σ s) {p : Addr} {vs : List V} {ds : List D} (hp : H p = none) (r : RepL K w vs ds) :
    Le w H (w.frz p (.lst vs)) (upd H p (.lst vs)) ∧ RS K (w.frz p (.lst vs)) (upd H p (.lst vs)) σ s ∧ Rep K (w.frz p (.lst vs)) (.ref p) (.lst ds) := by
  have l := Le.lay (o := .lst vs) hp (R.fresh hp).1
  exact ⟨l, R.lay hp, .lst (SqL.of upd_same) (r.up l)⟩
theorem RS.newT (R : RS K w H σ s) {p : Addr} {vs : List V} {ds : List D} {o : Obj} (hp : H p = none) (r : RepL K w vs ds) (ho : o.dict = none) :
    Le w H (w.frz p (.frz o (.tup vs))) (upd H p (.frz o (.tup vs))) ∧ RS K (w.frz p (.frz o (.tup vs))) (upd H p (.frz o (.tup vs))) σ s ∧ Rep K (w.frz p (.frz o (.tup vs))) (.ref p) (.tup ds) := by
  have l := Le.lay (o := .frz o (.tup vs)) hp (R.fresh hp).1
  exact ⟨l, R.lay hp, .tup ⟨o, upd_same, ho⟩ (r.up l)⟩
theorem RS.newP (R : RS K w H σ s) {p : Addr} {v u : V} {d e : D} (hp : H p = none) (r : Rep K w v d) (q : Rep K w u e) :
    Le w H (w.frz p (.tup [v, u])) (upd H p (.tup [v, u])) ∧ RS K (w.frz p (.tup [v, u])) (upd H p (.tup [v, u])) σ s ∧ Rep K (w.frz p (.tup [v, u])) (.ref p) (.pr d e) := by
  have l := Le.lay (o := .tup [v, u]) hp (R.fresh hp).1
  exact ⟨l, R.lay hp, .pr (.inl (.inl upd_same)) (r.up l) (q.up l)⟩
/-- a new object, its use still open -/
theorem RS.laid (R : RS K w H σ s) {p : Addr} {o : HO} (hp : H p = none) : RS K w (upd H p o) σ s := by
  have f := R.fresh hp
  refine ⟨fun a q e => ?_, R.len, R.loc, R.cl, R.nd, R.out, fun n a c e1 e2 => (R.cells n a c e1 e2).upW (Wd.le.refl w) (upd_ne (R.ne hp e1))⟩
  rw [upd_ne (ne_of_none e f.1)]; exact R.sub a q e
end
/-! ### the judgements -/
variable {X : Cx} {W : WX}
def DE (X : Cx) (W : WX) (e : Expr) (f : M D) : Prop := ∃ t, PE X e t ∧ Fol X.K W (pD X.K) t f
def DN (X : Cx) (W : WX) (e : Expr) (f : M Cell) : Prop := ∃ t, PE X e t ∧ Fol X.K W (pN X.K) t f
def DT (X : Cx) (W : WX) (e : Expr) (f : M Bool) : Prop := ∃ t, PT X e t ∧ Fol X.K W pB t f
def DA (X : Cx) (W : WX) (es : List Expr) (f : M (List D)) : Prop := ∃ t, PA X es t ∧ Fol X.K W (pL X.K) t f
section
variable {K : PySem.W.Frag} {α ν : Type} {P : Pr ν α} {w : Wd} {σ : L2.St} {s : S} {H : Hp}
theorem Post.here {a : α} {v : ν} {Q : ν → Hp → Prop} (h : Post K W P w H σ (ret a s) Q) (R : RS K w H σ s) (p : P.p H w H v a) : Q v H := h w H v (Le.refl w H) R p
end
/-! ### names, constants -/
def getL (i : Nat) : M D := fun s => match s.loc[i]? with
  | some (some d) => .ok d s
  | _ => .bad
theorem de_var {i : Nat} {e : Expr} (h : PE X e (tVar i)) : DE X W e (getL i) := by
  refine ⟨_, h, fun w H σ s Q R p => ?_⟩
  unfold getL at p
  split at p
  · next d hd =>
    obtain ⟨v, h1, h2⟩ := R.loc i d hd
    exact ⟨v, h1, Post.here p R h2⟩
  · exact p.elim
theorem de_v (i : Nat) {x : Str} {pos : Pos} (hN : X.N[i]? = some x := by rfl) (hv : Vis X.env.scope x := by first | exact Or.inl rfl | exact Or.inr (Or.inl rfl) | exact Or.inr (Or.inr rfl)) (hd : (x == ("__debug__" : Str)) = false := by decide)
    (hcd : (x == ("__classdict__" : Str)) = false := by decide) : DE X W (.Name x pos) (getL i) := de_var (pe_var hN hv hd hcd)
theorem de_c {e : Expr} {v : V} {d : D} (h : PE X e (tC v)) (r : ∀ w, Rep X.K w v d) : DE X W e (ret d) :=
  ⟨_, h, fun w H σ s Q R p => Post.here p R (r w)⟩
theorem de_int {i j pos} : DE X W (.Constant (.int i) j pos) (ret (.int i)) := de_c pe_int fun _ => .int i
theorem de_bl {b j pos} : DE X W (.Constant (.bool b) j pos) (ret (.bl b)) := de_c pe_bl fun _ => .bl b
theorem de_non {j pos} : DE X W (.Constant .none j pos) (ret .non) := de_c pe_non fun _ => .non
theorem de_str {x j pos} : DE X W (.Constant (.str x) j pos) (ret (.str x)) := de_c pe_str fun _ => .str x
/-- a module's constant -/
theorem de_gI {x : Str} {i : Int} {t : Tok} {pos : Pos} (hg : Gl X x) (hm : X.mg x = some (.int i t)) (hd : (x == ("__debug__" : Str)) = false := by decide) : DE X W (.Name x pos) (ret (.int i)) :=
  de_c (pe_glob (v := .int i) hg hm ⟨t, rfl⟩ hd) fun _ => .int i
theorem de_gS {x z : Str} {t : Tok} {pos : Pos} (hg : Gl X x) (hm : X.mg x = some (.str z t)) (hd : (x == ("__debug__" : Str)) = false := by decide) : DE X W (.Name x pos) (ret (.str z)) :=
  de_c (pe_glob (v := .str z) hg hm ⟨t, rfl⟩ hd) fun _ => .str z
/-! ### operators -/
def ROp (X : Cx) (r : R2) (g : D → D → M D) : Prop := ∀ (W : WX) w H σ s x y d e Q, RS X.K w H σ s → Rep X.K w x d → Rep X.K w y e → Post X.K W (pD X.K) w H σ (g d e s) Q → r x y H Q
theorem de_op {op : Operator} {r : R2} {g : D → D → M D} {a b : Expr} {fa fb : M D} {pos : Pos} (ho : OpR X (binaryOp op) r) (hr : ROp X r g) (ha : DE X W a fa) (hb : DE X W b fb) :
    DE X W (.BinOp a op b pos) (bnd fa fun d => bnd fb fun e => g d e) := by
  obtain ⟨ta, pa, ra⟩ := ha
  obtain ⟨tb, pb, rb⟩ := hb
  refine ⟨tOp r ta tb, pe_op ho pa pb, fun w H σ s Q R p => ?_⟩
  refine ra.bnd R p fun d s1 w1 H1 v1 l1 R1 r1 p1 => ?_
  refine rb.bnd R1 p1 fun e s2 w2 H2 v2 l2 R2 r2 p2 => ?_
  exact hr W w2 H2 σ s2 v1 v2 d e Q R2 (Rep.up l2 r1) r2 p2
theorem de_cmp {op : CmpOp} {r : R2} {g : D → D → M D} {a b : Expr} {fa fb : M D} {pos : Pos} (ho : OpR X (compareOp op) r) (hr : ROp X r g) (ha : DE X W a fa) (hb : DE X W b fb) (hm : behindInMarks op b = false := by first | exact nobehind _ (by decide) (by decide) | rfl) :
    DE X W (.Compare a [op] [b] pos) (bnd fa fun d => bnd fb fun e => g d e) := by
  obtain ⟨ta, pa, ra⟩ := ha
  obtain ⟨tb, pb, rb⟩ := hb
  refine ⟨tOp r ta tb, pe_cmpR ho pa pb hm, fun w H σ s Q R p => ?_⟩
  refine ra.bnd R p fun d s1 w1 H1 v1 l1 R1 r1 p1 => ?_
  refine rb.bnd R1 p1 fun e s2 w2 H2 v2 l2 R2 r2 p2 => ?_
  exact hr W w2 H2 σ s2 v1 v2 d e Q R2 (Rep.up l2 r1) r2 p2
def asB : D → M Bool
  | .bl b => ret b
  | _ => fail
theorem asB_fol {K : PySem.W.Frag} {w : Wd} {H : Hp} {σ : L2.St} {s : S} {v : V} {d : D} {Q : Bool → Hp → Prop} (R : RS K w H σ s) (r : Rep K w v d) (p : Post K W pB w H σ (asB d s) Q) : ∃ k, v = .bl k ∧ Q k H := by
  cases r with
  | bl b => exact ⟨b, rfl, Post.here p R rfl⟩
  | _ => exact p.elim
theorem dt_cmp {op : CmpOp} {r : R2} {g : D → D → M D} {a b : Expr} {fa fb : M D} {pos : Pos} (ho : OpR X (compareOp op) r) (hr : ROp X r g) (ha : DE X W a fa) (hb : DE X W b fb) (hm : behindInMarks op b = false := by first | exact nobehind _ (by decide) (by decide) | rfl) :
    DT X W (.Compare a [op] [b] pos) (bnd (bnd fa fun d => bnd fb fun e => g d e) asB) := by
  obtain ⟨ta, pa, ra⟩ := ha
  obtain ⟨tb, pb, rb⟩ := hb
  have h := de_cmp (pos := pos) ho hr ⟨ta, pa, ra⟩ ⟨tb, pb, rb⟩ hm
  refine ⟨tTest (tOp r ta tb), pt_cmpR ho pa pb hm, fun w H σ s Q R p => ?_⟩
  have key : Fol X.K W (pD X.K) (tOp r ta tb) (bnd fa fun d => bnd fb fun e => g d e) := fun w H σ s Q R p => by
    refine ra.bnd R p fun d s1 w1 H1 v1 l1 R1 r1 p1 => ?_
    refine rb.bnd R1 p1 fun e s2 w2 H2 v2 l2 R2 r2 p2 => ?_
    exact hr W w2 H2 σ s2 v1 v2 d e Q R2 (Rep.up l2 r1) r2 p2
  exact key.bnd R p fun d s1 w1 H1 v1 l1 R1 r1 p1 => asB_fol R1 r1 p1
/-- an expression that gives True or False, as a test -/
theorem dt_val {e : Expr} {f : M D} (h : DE X W e f) (he : ∀ whole, isTrue e X.env whole = (do let v ← whole; standAt e.pos; holding [v] (truthy v)) := by intro _; rfl) : DT X W e (bnd f asB) := by
  obtain ⟨t, p, r⟩ := h
  exact ⟨tB t, pt_val p he, fun w H σ s Q R p => r.bnd R p fun d s1 w1 H1 v1 l1 R1 r1 p1 => asB_fol R1 r1 p1⟩
/-! ints -/
def i2 (g : Int → Int → D) : D → D → M D
  | .int i, .int j => ret (g i j)
  | _, _ => fail
def i2c (c : Int → Int → Bool) (g : Int → Int → D) : D → D → M D
  | .int i, .int j => if c i j = true then ret (g i j) else fail
  | _, _ => fail
theorem rop_i2 {g : Int → Int → D} {g' : Int → Int → V} (h : ∀ w i j, Rep X.K w (g' i j) (g i j)) : ROp X (rI0 g') (i2 g) := fun W w H σ s x y d e Q R rx ry p => by
  cases rx with
  | int i =>
    cases ry with
    | int j => exact ⟨i, j, rfl, rfl, Post.here p R (h w i j)⟩
    | _ => exact p.elim
  | _ => exact p.elim
theorem rop_i2c {C : Int → Int → Prop} {c : Int → Int → Bool} {g : Int → Int → D} {g' : Int → Int → V} (hc : ∀ i j, c i j = true → C i j) (h : ∀ w i j, Rep X.K w (g' i j) (g i j)) : ROp X (rI C g') (i2c c g) := fun W w H σ s x y d e Q R rx ry p => by
  cases rx with
  | int i =>
    cases ry with
    | int j =>
      unfold i2c at p
      dsimp only at p
      split at p
      · next k => exact ⟨i, j, rfl, rfl, hc i j k, Post.here p R (h w i j)⟩
      · exact p.elim
    | _ => exact p.elim
  | _ => exact p.elim
theorem ROp.or {r1 r2 : R2} {g : D → D → M D} {g1 g2 : D → D → M D} (h1 : ROp X r1 g1) (h2 : ROp X r2 g2) (h : ∀ d e, g d e = g1 d e ∨ g d e = g2 d e) : ROp X (fun x y H Q => r1 x y H Q ∨ r2 x y H Q) g := fun W w H σ s x y d e Q R rx ry p => by
  rcases h d e with q | q
  · rw [q] at p; exact .inl (h1 W w H σ s x y d e Q R rx ry p)
  · rw [q] at p; exact .inr (h2 W w H σ s x y d e Q R rx ry p)
theorem opr_or {f : Value → Value → Sem Value} {r1 r2 : R2} (h1 : OpR X f r1) (h2 : OpR X f r2) : OpR X f (fun x y H Q => r1 x y H Q ∨ r2 x y H Q) := by
  intro pins s σ H x y v u Q I rx ry h
  rcases h with h | h
  · exact h1 pins s σ H x y v u Q I rx ry h
  · exact h2 pins s σ H x y v u Q I rx ry h
/-- * of two factors of together less than a hundred million bits -/
def CMulX (i j : Int) : Prop := i.natAbs.log2 + j.natAbs.log2 < 100000000
theorem CMulX.fits {i j : Int} (h : CMulX i j) : IntMulOk i j := by
  have b : ∀ x : Int, Builtin.Int.intBits x ≤ x.natAbs.log2 + 1 := fun x => by
    unfold Builtin.Int.intBits
    split <;> omega
  have b1 := b i
  have b2 := b j
  have h3 : i.natAbs.log2 + j.natAbs.log2 < 100000000 := h
  have line : bitsLine = 134217728 := by decide
  unfold IntMulOk
  intro z
  rw [Bool.and_eq_true] at z
  have y := z.2
  unfold Builtin.Int.intTooBig at y
  have x := of_decide_eq_true y
  rw [line] at x
  omega
theorem op_mulX : OpR X (binaryOp .Mult) (rI CMulX fun i j => .int (i * j)) := opI fun _ _ _ _ _ _ _ hc q => mul_int q hc.fits
def subM : D → D → M D := i2 fun i j => .int (i - j)
def mulM : D → D → M D := i2c (fun i j => decide (i.natAbs.log2 + j.natAbs.log2 < 100000000)) fun i j => .int (i * j)
def divM : D → D → M D := i2c (fun _ j => decide (0 < j) && decide (j.natAbs.log2 < 9000)) fun i j => .int (i / j)
def modM : D → D → M D := i2c (fun _ j => decide (0 < j)) fun i j => .int (i % j)
def powM : D → D → M D := i2c (fun i j => decide (0 ≤ j) && (decide (j ≤ 1000000) && decide (i.natAbs < 2 ^ 64))) fun i j => .int (i ^ j.toNat)
def shlM : D → D → M D := i2c (fun i j => decide (0 ≤ j) && (decide (j ≤ 1000000) && decide (i.natAbs < 2 ^ 64))) fun i j => .int (i * 2 ^ j.toNat)
def shrM : D → D → M D := i2c (fun _ j => decide (0 ≤ j)) fun i j => .int (i / 2 ^ j.toNat)
def andM : D → D → M D := i2 fun i j => .int (Builtin.bitAnd i j)
def orM : D → D → M D := i2 fun i j => .int (Builtin.bitOr i j)
def xorM : D → D → M D := i2 fun i j => .int (Builtin.bitXor i j)
theorem rop_sub : ROp X (rI0 fun i j => .int (i - j)) subM := rop_i2 fun _ _ _ => .int _
theorem rop_mul : ROp X (rI CMulX fun i j => .int (i * j)) mulM := rop_i2c (fun i j h => (of_decide_eq_true h : i.natAbs.log2 + j.natAbs.log2 < 100000000)) fun _ _ _ => .int _
theorem rop_div : ROp X (rI CDivW fun i j => .int (i / j)) divM := rop_i2c (fun i j h => by
  rw [Bool.and_eq_true, decide_eq_true_eq, decide_eq_true_eq] at h; exact h) fun _ _ _ => .int _
theorem rop_mod : ROp X (rI (fun _ j => 0 < j) fun i j => .int (i % j)) modM := rop_i2c (fun i j h => of_decide_eq_true h) fun _ _ _ => .int _
theorem rop_pow : ROp X (rI CPow fun i j => .int (i ^ j.toNat)) powM := rop_i2c (fun i j h => by
  rw [Bool.and_eq_true, Bool.and_eq_true, decide_eq_true_eq, decide_eq_true_eq, decide_eq_true_eq] at h; exact h) fun _ _ _ => .int _
theorem rop_shl : ROp X (rI CPow fun i j => .int (i * 2 ^ j.toNat)) shlM := rop_i2c (fun i j h => by
  rw [Bool.and_eq_true, Bool.and_eq_true, decide_eq_true_eq, decide_eq_true_eq, decide_eq_true_eq] at h; exact h) fun _ _ _ => .int _
theorem rop_shr : ROp X (rI (fun _ j => 0 ≤ j) fun i j => .int (i / 2 ^ j.toNat)) shrM := rop_i2c (fun i j h => of_decide_eq_true h) fun _ _ _ => .int _
theorem rop_and : ROp X (rI0 fun i j => .int (Builtin.bitAnd i j)) andM := rop_i2 fun _ _ _ => .int _
theorem rop_or : ROp X (rI0 fun i j => .int (Builtin.bitOr i j)) orM := rop_i2 fun _ _ _ => .int _
theorem rop_xor : ROp X (rI0 fun i j => .int (Builtin.bitXor i j)) xorM := rop_i2 fun _ _ _ => .int _
section
variable {a b : Expr} {fa fb : M D} {pos : Pos}
theorem de_sub (ha : DE X W a fa) (hb : DE X W b fb) : DE X W (.BinOp a .Sub b pos) (bnd fa fun d => bnd fb fun e => subM d e) := de_op op_sub rop_sub ha hb
theorem de_mul (ha : DE X W a fa) (hb : DE X W b fb) : DE X W (.BinOp a .Mult b pos) (bnd fa fun d => bnd fb fun e => mulM d e) := de_op op_mulX rop_mul ha hb
theorem de_div (ha : DE X W a fa) (hb : DE X W b fb) : DE X W (.BinOp a .FloorDiv b pos) (bnd fa fun d => bnd fb fun e => divM d e) := de_op op_fdivW rop_div ha hb
theorem de_mod (ha : DE X W a fa) (hb : DE X W b fb) : DE X W (.BinOp a .Mod b pos) (bnd fa fun d => bnd fb fun e => modM d e) := de_op op_mod rop_mod ha hb
theorem de_pow (ha : DE X W a fa) (hb : DE X W b fb) : DE X W (.BinOp a .Pow b pos) (bnd fa fun d => bnd fb fun e => powM d e) := de_op op_pow rop_pow ha hb
theorem de_shl (ha : DE X W a fa) (hb : DE X W b fb) : DE X W (.BinOp a .LShift b pos) (bnd fa fun d => bnd fb fun e => shlM d e) := de_op op_shl rop_shl ha hb
theorem de_shr (ha : DE X W a fa) (hb : DE X W b fb) : DE X W (.BinOp a .RShift b pos) (bnd fa fun d => bnd fb fun e => shrM d e) := de_op op_shr rop_shr ha hb
theorem de_band (ha : DE X W a fa) (hb : DE X W b fb) : DE X W (.BinOp a .BitAnd b pos) (bnd fa fun d => bnd fb fun e => andM d e) := de_op op_and rop_and ha hb
theorem de_bxor (ha : DE X W a fa) (hb : DE X W b fb) : DE X W (.BinOp a .BitXor b pos) (bnd fa fun d => bnd fb fun e => xorM d e) := de_op op_xor rop_xor ha hb
theorem de_bor (ha : DE X W a fa) (hb : DE X W b fb) : DE X W (.BinOp a .BitOr b pos) (bnd fa fun d => bnd fb fun e => orM d e) := de_op op_or rop_or ha hb
end
/-! ### and, or, not, if else -/
section
variable {a b : Expr} {rest : List Expr} {fa fb : M D} {ta tb : M Bool} {pos : Pos}
def andT (p q : M Bool) : M Bool := bnd p fun c => if c = true then q else ret false
def orT (p q : M Bool) : M Bool := bnd p fun c => if c = true then ret true else q
def notT (p : M Bool) : M Bool := bnd p fun c => ret (!c)
def andV (p q : M D) : M D := bnd p fun d => bnd (asB d) fun c => if c = true then q else ret (.bl false)
def orV (p q : M D) : M D := bnd p fun d => bnd (asB d) fun c => if c = true then ret (.bl true) else q
def notV (p : M D) : M D := bnd p fun d => bnd (asB d) fun c => ret (.bl (!c))
def iteM (c : M Bool) (p q : M D) : M D := bnd c fun b => if b = true then p else q
/-- and, or within a test -/
def DW (X : Cx) (W : WX) (e : Expr) (f : M Bool) : Prop := ∃ t, PW X e t ∧ Fol X.K W pB t f
theorem dw_and1 (h : DT X W a ta) : DW X W (.BoolOp .And [a] pos) ta := let ⟨t, p, r⟩ := h; ⟨t, pw_and1 p, r⟩
theorem dw_or1 (h : DT X W a ta) : DW X W (.BoolOp .Or [a] pos) ta := let ⟨t, p, r⟩ := h; ⟨t, pw_or1 p, r⟩
theorem dw_and (h : DT X W a ta) (k : DW X W (.BoolOp .And (b :: rest) pos) tb) : DW X W (.BoolOp .And (a :: b :: rest) pos) (andT ta tb) := by
  obtain ⟨t, p, r⟩ := h
  obtain ⟨u, q, k⟩ := k
  refine ⟨_, pw_and p q, fun w H σ s Q R z => ?_⟩
  refine r.bnd R z fun c s1 w1 H1 v1 l1 R1 r1 p1 => ?_
  cases r1
  cases c with
  | true => exact k w1 H1 σ s1 Q R1 p1
  | false => exact Post.here p1 R1 rfl
theorem dw_or (h : DT X W a ta) (k : DW X W (.BoolOp .Or (b :: rest) pos) tb) : DW X W (.BoolOp .Or (a :: b :: rest) pos) (orT ta tb) := by
  obtain ⟨t, p, r⟩ := h
  obtain ⟨u, q, k⟩ := k
  refine ⟨_, pw_or p q, fun w H σ s Q R z => ?_⟩
  refine r.bnd R z fun c s1 w1 H1 v1 l1 R1 r1 p1 => ?_
  cases r1
  cases c with
  | false => exact k w1 H1 σ s1 Q R1 p1
  | true => exact Post.here p1 R1 rfl
theorem dt_w {e : Expr} {f : M Bool} (h : DW X W e f) : DT X W e f := let ⟨t, p, r⟩ := h; ⟨t, p.pt, r⟩
theorem dt_not (h : DT X W a ta) : DT X W (.UnaryOp .Not a pos) (notT ta) := by
  obtain ⟨t, p, r⟩ := h
  refine ⟨_, pt_not p, fun w H σ s Q R z => ?_⟩
  refine r.bnd R z fun c s1 w1 H1 v1 l1 R1 r1 p1 => ?_
  cases r1
  exact Post.here p1 R1 rfl
theorem asB_bnd {K : PySem.W.Frag} {α ν : Type} {P : Pr ν α} {w : Wd} {H : Hp} {σ : L2.St} {s : S} {v : V} {d : D} {k : Bool → M α} {Q : ν → Hp → Prop} (r : Rep K w v d) (p : Post K W P w H σ (bnd (asB d) k s) Q) : ∃ c, v = .bl c ∧ Post K W P w H σ (k c s) Q := by
  cases r with
  | bl b => exact ⟨b, rfl, p⟩
  | _ => exact p.elim
theorem de_one {op} (h : DE X W a fa) : DE X W (.BoolOp op [a] pos) fa := let ⟨t, p, r⟩ := h; ⟨t, pe_one p, r⟩
theorem de_and (h : DE X W a fa) (k : DE X W (.BoolOp .And (b :: rest) pos) fb) : DE X W (.BoolOp .And (a :: b :: rest) pos) (andV fa fb) := by
  obtain ⟨t, p, r⟩ := h
  obtain ⟨u, q, k⟩ := k
  refine ⟨_, pe_and p q, fun w H σ s Q R z => ?_⟩
  refine r.bnd R z fun d s1 w1 H1 v1 l1 R1 r1 p1 => ?_
  obtain ⟨c, e, p2⟩ := asB_bnd r1 p1
  refine ⟨c, e, ?_⟩
  cases c with
  | true => exact k w1 H1 σ s1 Q R1 p2
  | false => exact Post.here p2 R1 (Rep.bl false)
theorem de_or (h : DE X W a fa) (k : DE X W (.BoolOp .Or (b :: rest) pos) fb) : DE X W (.BoolOp .Or (a :: b :: rest) pos) (orV fa fb) := by
  obtain ⟨t, p, r⟩ := h
  obtain ⟨u, q, k⟩ := k
  refine ⟨_, pe_or p q, fun w H σ s Q R z => ?_⟩
  refine r.bnd R z fun d s1 w1 H1 v1 l1 R1 r1 p1 => ?_
  obtain ⟨c, e, p2⟩ := asB_bnd r1 p1
  refine ⟨c, e, ?_⟩
  cases c with
  | false => exact k w1 H1 σ s1 Q R1 p2
  | true => exact Post.here p2 R1 (Rep.bl true)
theorem de_not (h : DE X W a fa) : DE X W (.UnaryOp .Not a pos) (notV fa) := by
  obtain ⟨t, p, r⟩ := h
  refine ⟨_, pe_not p, fun w H σ s Q R z => ?_⟩
  refine r.bnd R z fun d s1 w1 H1 v1 l1 R1 r1 p1 => ?_
  obtain ⟨c, e, p2⟩ := asB_bnd r1 p1
  exact ⟨c, e, Post.here p2 R1 (Rep.bl (!c))⟩
theorem de_ite {c : Expr} (h : DT X W c ta) (ha : DE X W a fa) (hb : DE X W b fb) : DE X W (.IfExp c a b pos) (iteM ta fa fb) := by
  obtain ⟨t, p, r⟩ := h
  obtain ⟨u, pa, ra⟩ := ha
  obtain ⟨u', pb, rb⟩ := hb
  refine ⟨_, pe_ifExp p pa pb, fun w H σ s Q R z => ?_⟩
  refine r.bnd R z fun c s1 w1 H1 v1 l1 R1 r1 p1 => ?_
  cases r1
  cases c with
  | true => exact ra w1 H1 σ s1 Q R1 p1
  | false => exact rb w1 H1 σ s1 Q R1 p1
end
/-! ### lists of arguments, displays -/
section
variable {a : Expr} {es : List Expr} {fa : M D} {fs : M (List D)} {pos : Pos}
def consM (p : M D) (q : M (List D)) : M (List D) := bnd p fun d => bnd q fun ds => ret (d :: ds)
theorem da_nil : DA X W [] (ret []) := ⟨_, pa_nil, fun w H σ s Q R p => Post.here p R (RepL.nil (K := X.K) (w := w))⟩
theorem da_cons (h : DE X W a fa) (k : DA X W es fs) (hst : starEach (a :: es) X.env = (false, eval a X.env) :: starEach es X.env := by rfl) : DA X W (a :: es) (consM fa fs) := by
  obtain ⟨t, p, r⟩ := h
  obtain ⟨u, q, k⟩ := k
  refine ⟨_, pa_cons p q hst, fun w H σ s Q R z => ?_⟩
  refine r.bnd R z fun d s1 w1 H1 v1 l1 R1 r1 p1 => ?_
  refine k.bnd R1 p1 fun ds s2 w2 H2 v2 l2 R2 r2 p2 => ?_
  exact Post.here p2 R2 (RepL.cons (Rep.up l2 r1) r2)
def lenOk (n : Nat) : Bool := decide (n ≤ sizeLine)
def tupM (q : M (List D)) : M D := bnd q fun ds => if lenOk ds.length = true then ret (.tup ds) else fail
def lstN (q : M (List D)) : M Cell := bnd q fun ds => if lenOk ds.length = true then ret (.lst ds) else fail
/-- a display, its object known -/
def tTupC (t : TA) : TE := fun σ H Q => t σ H fun vs H1 => vs.length ≤ sizeLine ∧ ∀ (p : Addr) (o : Obj), o.dict = none → H1 p = none → Q (.ref p) (upd H1 p (.frz o (.tup vs)))
theorem pe_tupC {t : TA} {x1} (h : PA X es t) : PE X (.Tuple es x1 pos) (tTupC t) :=
  ⟨fun pins s σ H Q I q => wpAny_Tuple_spliced (thn (h.run pos pins s σ H _ I q) fun us s1 ⟨vs, H1, I1, r, hz, k⟩ => by
    have hn : H1 s1.heap.objs.size = none := I1.hok.fresh (Nat.le_refl _)
    have hg : (s1.heap.push { cls := .type "tuple", data := .seq us.toArray }).get? s1.heap.objs.size = some { cls := .type "tuple", data := .seq us.toArray } := Heap.get?_push_size _ rfl
    refine ⟨by rw [← r.length]; exact hz, .ref s1.heap.objs.size, _, ?_, rfl, k _ { cls := .type "tuple", data := .seq us.toArray } rfl hn⟩
    exact I1.laid (t' := s1.toks) (fun b u e => Heap.get?_push_of_some _ e) (Nat.le_refl _) ⟨hg, hz, us, r, ⟨_, hg, rfl, _, rfl⟩⟩)⟩
theorem de_tup {x1} (h : DA X W es fs) : DE X W (.Tuple es x1 pos) (tupM fs) := by
  obtain ⟨t, p, r⟩ := h
  refine ⟨_, pe_tupC p, fun w H σ s Q R z => ?_⟩
  refine r.bnd R z fun ds s1 w1 H1 v1 l1 R1 r1 p1 => ?_
  split at p1
  · next k =>
    refine ⟨by rw [RepL.length r1]; exact of_decide_eq_true k, fun q o ho hq => ?_⟩
    obtain ⟨l2, R2, r2⟩ := R1.newT hq r1 ho
    exact p1 _ _ _ l2 R2 r2
  · exact p1.elim
theorem dn_lst (h : DA X W es fs) : DN X W (.List es pos) (lstN fs) := by
  obtain ⟨t, p, r⟩ := h
  refine ⟨_, pe_lst p, fun w H σ s Q R z => ?_⟩
  refine r.bnd R z fun ds s1 w1 H1 v1 l1 R1 r1 p1 => ?_
  split at p1
  · next k =>
    refine ⟨by rw [RepL.length r1]; exact of_decide_eq_true k, fun q hq => ?_⟩
    exact p1 w1 _ _ (Le.laid hq) (R1.laid hq) ⟨q, rfl, (R1.fresh hq).1, (R1.fresh hq).2, ⟨_, upd_same, r1⟩, hq⟩
  · exact p1.elim
/-- a new list, never changed from here on -/
def frzM (m : M Cell) : M D := bnd m fun c => match c with
  | .lst ds => ret (.lst ds)
  | _ => fail
/-- a new list or dict that stands by itself -/
def ownM (m : M Cell) : M D := bnd m fun c s => .ok (.cell s.vh.length) { s with vh := s.vh ++ [c] }
theorem RS.frz {K : PySem.W.Frag} {w : Wd} {H : Hp} {σ : L2.St} {s : S} {p : Addr} {o : HO} (R : RS K w H σ s) (h : H p = some o) (hf : w.F p = none) (hr : p ∉ w.ρ) : RS K (w.frz p o) H σ s := by
  have le := Wd.frz_le (o := o) hf
  refine ⟨fun a q e => ?_, R.len, fun i d e => ?_, R.cl, R.nd, fun a ha => ?_, fun n a c e1 e2 => ?_⟩
  · have e : upd w.F p o a = some q := e
    by_cases hh : a = p
    · subst hh; rw [upd_same] at e; cases e; exact h
    · rw [upd_ne hh] at e; exact R.sub a q e
  · obtain ⟨v, h1, h2⟩ := R.loc i d e
    exact ⟨v, h1, h2.upW le⟩
  · show upd w.F p o a = none
    rw [upd_ne (fun (e : a = p) => hr (e ▸ ha))]; exact R.out a ha
  · exact (R.cells n a c e1 e2).upW le rfl
theorem frz_fol {t : TE} {f : M Cell} (r : Fol X.K W (pN X.K) t f) : Fol X.K W (pD X.K) t (frzM f) := fun w H σ s Q R z => by
  refine r w H σ s Q R ?_
  unfold frzM bnd at z
  cases hf : f s with
  | bad => rw [hf] at z; exact z.elim
  | exc x s1 => rw [hf] at z; exact z
  | ok c s1 =>
    rw [hf] at z
    rintro w1 H1 _ l1 R1 ⟨q, rfl, N⟩
    cases c with
    | dct _ => exact z.elim
    | obj _ _ => exact z.elim
    | dctL _ _ _ => exact z.elim
    | dctN _ _ => exact z.elim
    | lst ds =>
      obtain ⟨vs, h1, h2⟩ := N.c
      exact z _ _ _ (l1.frz N.n N.f) (R1.frz h1 N.f N.r) (.lst (SqL.of upd_same) (h2.upW (Wd.frz_le N.f)))
theorem own_fol {t : TE} {f : M Cell} (r : Fol X.K W (pN X.K) t f) : Fol X.K W (pD X.K) t (ownM f) := fun w H σ s Q R z => by
  refine r w H σ s Q R ?_
  unfold ownM bnd at z
  cases hf : f s with
  | bad => rw [hf] at z; exact z.elim
  | exc x s1 => rw [hf] at z; exact z
  | ok c s1 =>
    rw [hf] at z
    rintro w1 H1 _ l1 R1 ⟨q, rfl, N⟩
    refine z _ _ _ (l1.own N.n) (R1.addCell N.f N.r N.c) (.cell ?_)
    show (w1.ρ ++ [q])[s1.vh.length]? = some q
    rw [← R1.cl, List.getElem?_append_right (Nat.le_refl _), Nat.sub_self]
    rfl
theorem de_frz {f : M Cell} (h : DN X W a f) : DE X W a (frzM f) := let ⟨t, p, r⟩ := h; ⟨t, p, frz_fol r⟩
theorem de_own {f : M Cell} (h : DN X W a f) : DE X W a (ownM f) := let ⟨t, p, r⟩ := h; ⟨t, p, own_fol r⟩
end
end Fx

namespace Fx
open PySem PySem.Spec PyProof.Rows L2
open Classical
/-! ### a reading made of f itself -/
def tM {α ν : Type} (K : PySem.W.Frag) (W : WX) (P : Pr ν α) (f : M α) : L2.St → Hp → (ν → Hp → Prop) → Prop := fun σ H Q => ∃ w s, RS K w H σ s ∧ Post K W P w H σ (f s) Q
theorem tM_fol {α ν : Type} {K : PySem.W.Frag} {W : WX} {P : Pr ν α} {f : M α} : Fol K W P (tM K W P f) f := fun w H σ s Q R p => ⟨w, s, R, p⟩
variable {X : Cx} {W : WX}
theorem DE.pe {e : Expr} {f : M D} (h : DE X W e f) : PE X e (tM X.K W (pD X.K) f) := by
  obtain ⟨t, p, r⟩ := h
  exact ⟨fun pins s σ H Q I ⟨w, z, R, q⟩ => p.run pins s σ H Q I (r w H σ z Q R q)⟩
theorem DT.pt {e : Expr} {f : M Bool} (h : DT X W e f) : PT X e (tM X.K W pB f) := by
  obtain ⟨t, p, r⟩ := h
  exact ⟨fun pins s σ H Q I ⟨w, z, R, q⟩ => p.run pins s σ H Q I (r w H σ z Q R q)⟩
/-! ### statements -/
inductive Out where
  | nx | brk | cnt | rt (d : D)
section
variable (K : PySem.W.Frag) (W : WX)
def PostS (w : Wd) (H : Hp) (r : Res Out) (D : Ends) : Prop := match r with
  | .ok .nx s => ∀ w' H' σ', Le w H w' H' → RS K w' H' σ' s → D.nx σ' H'
  | .ok .brk s => ∀ w' H' σ', Le w H w' H' → RS K w' H' σ' s → D.bk σ' H'
  | .ok .cnt s => ∀ w' H' σ', Le w H w' H' → RS K w' H' σ' s → D.ct σ' H'
  | .ok (.rt d) s => ∀ w' H' σ' v, Le w H w' H' → RS K w' H' σ' s → Rep K w' v d → D.rt v H'
  | .exc e s => ∀ w' H' σ', Le w H w' H' → RS K w' H' σ' s → W e w' H' σ'
  | .bad => False
def FolS (t : TS) (f : M Out) : Prop := ∀ w H σ s D, RS K w H σ s → PostS K W w H (f s) D → t D σ H
end
section
variable {K : PySem.W.Frag} {α ν : Type} {P : Pr ν α} {w w1 : Wd} {σ : L2.St} {s : S} {H : Hp} {D : Ends}
theorem PostS.up {H1 : Hp} {r : Res Out} (l : Le w H w1 H1) (h : PostS K W w H r D) : PostS K W w1 H1 r D := by
  cases r with
  | ok a s =>
    cases a with
    | rt d => exact fun w' H' σ' v l' R r => h w' H' σ' v (l.trans l') R r
    | _ => exact fun w' H' σ' l' R => h w' H' σ' (l.trans l') R
  | exc e s => exact fun w' H' σ' l' R => h w' H' σ' (l.trans l') R
  | bad => exact h
theorem PostS.bnd {m : M α} {k : α → M Out} {Q : ν → Hp → Prop} (h : PostS K W w H (Fx.bnd m k s) D) (f : ∀ a s' w' H' v, Le w H w' H' → RS K w' H' σ s' → P.p H w' H' v a → PostS K W w' H' (k a s') D → Q v H') : Post K W P w H σ (m s) Q := by
  unfold Fx.bnd at h
  cases e : m s with
  | ok a s' => rw [e] at h; exact fun w' H' v l R p => f a s' w' H' v l R p (h.up l)
  | exc x s' => rw [e] at h; exact fun w' H' l R => h w' H' σ l R
  | bad => rw [e] at h; exact h
theorem Fol.bndS {t : L2.St → Hp → (ν → Hp → Prop) → Prop} {f : M α} {k : α → M Out} {Q : ν → Hp → Prop} (h : Fol K W P t f) (R : RS K w H σ s) (p : PostS K W w H (Fx.bnd f k s) D)
    (g : ∀ a s' w' H' v, Le w H w' H' → RS K w' H' σ s' → P.p H w' H' v a → PostS K W w' H' (k a s') D → Q v H') : t σ H Q := h w H σ s Q R (p.bnd g)
theorem PostS.nx (h : PostS K W w H (ret .nx s) D) (R : RS K w H σ s) : D.nx σ H := h w H σ (Le.refl w H) R
end
def DS (X : Cx) (W : WX) (st : Stmt) (f : M Out) : Prop := ∃ t, PS X st t ∧ FolS X.K W t f
def DSs (X : Cx) (W : WX) (sts : List Stmt) (f : M Out) : Prop := ∃ t, PSs X sts t ∧ FolS X.K W t f
def seqM (p q : M Out) : M Out := fun s => match p s with
  | .ok .nx s' => q s'
  | r => r
section
variable {st : Stmt} {rest : List Stmt} {e c : Expr} {f g : M Out} {fe : M D} {fc : M Bool} {pos : Pos}
theorem dss_nil : DSs X W [] (ret .nx) := ⟨_, pss_nil, fun w H σ s D R p => p.nx R⟩
theorem dss_cons (h : DS X W st f) (k : DSs X W rest g) : DSs X W (st :: rest) (seqM f g) := by
  obtain ⟨t, p, r⟩ := h
  obtain ⟨u, q, k⟩ := k
  refine ⟨_, pss_cons p q, fun w H σ s D R z => ?_⟩
  refine r w H σ s { D with nx := u D } R ?_
  unfold seqM at z
  cases hf : f s with
  | ok a s' =>
    rw [hf] at z
    cases a with
    | nx => exact fun w' H' σ' l R' => k w' H' σ' s' D R' (z.up l)
    | brk => exact z
    | cnt => exact z
    | rt d => exact z
  | exc x s' => rw [hf] at z; exact z
  | bad => rw [hf] at z; exact z
theorem dss_one (h : DS X W st f) : DSs X W [st] f := let ⟨t, p, r⟩ := h; ⟨t, pss_one p, r⟩
theorem ds_pass : DS X W (.Pass pos) (ret .nx) := ⟨_, ps_pass, fun w H σ s D R p => p.nx R⟩
theorem ds_doc {x j pos'} : DS X W (.Expr (.Constant (.str x) j pos) pos') (ret .nx) := ⟨_, ps_doc, fun w H σ s D R p => p.nx R⟩
theorem ds_break : DS X W (.Break pos) (ret .brk) := ⟨_, ps_break, fun w H σ s D R p => p w H σ (Le.refl w H) R⟩
theorem ds_continue : DS X W (.Continue pos) (ret .cnt) := ⟨_, ps_continue, fun w H σ s D R p => p w H σ (Le.refl w H) R⟩
def retM (p : M D) : M Out := bnd p fun d => ret (.rt d)
def dropM (p : M D) : M Out := bnd p fun _ => ret .nx
def ifM (c : M Bool) (p q : M Out) : M Out := bnd c fun b => if b = true then p else q
theorem ds_ret (h : DE X W e fe) : DS X W (.Return (some e) pos) (retM fe) := by
  obtain ⟨t, p, r⟩ := h
  refine ⟨_, ps_ret p, fun w H σ s D R z => ?_⟩
  exact r.bndS R z fun d s1 w1 H1 v1 l1 R1 r1 p1 => p1 w1 H1 σ v1 (Le.refl w1 H1) R1 r1
theorem ds_retN : DS X W (.Return none pos) (ret (.rt .non)) := ⟨_, ps_retN, fun w H σ s D R p => p w H σ .non (Le.refl w H) R .non⟩
theorem ds_expr (h : DE X W e fe) (hs : swapsWith e none pos.line X.env = pure false := by rfl) : DS X W (.Expr e pos) (dropM fe) := by
  obtain ⟨t, p, r⟩ := h
  refine ⟨_, ps_expr p hs, fun w H σ s D R z => ?_⟩
  exact r.bndS R z fun d s1 w1 H1 v1 l1 R1 r1 p1 => p1.nx R1
theorem ds_if {a b : List Stmt} (h : DT X W c fc) (ha : DSs X W a f) (hb : DSs X W b g) : DS X W (.If c a b pos) (ifM fc f g) := by
  obtain ⟨t, p, r⟩ := h
  obtain ⟨u, q, k⟩ := ha
  obtain ⟨u', q', k'⟩ := hb
  refine ⟨_, ps_if p q q', fun w H σ s D R z => ?_⟩
  refine r.bndS R z fun d s1 w1 H1 v1 l1 R1 r1 p1 => ?_
  cases r1
  cases d with
  | true => exact k w1 H1 σ s1 D R1 p1
  | false => exact k' w1 H1 σ s1 D R1 p1
/-! targets -/
def setL (i : Nat) (d : D) : M Out := fun s => .ok .nx { s with loc := s.loc.set i (some d) }
def PostG (K : PySem.W.Frag) (w : Wd) (H : Hp) (r : Res Out) (Q : L2.St → Hp → Prop) : Prop := match r with
  | .ok .nx s => ∀ w' H' σ', Le w H w' H' → RS K w' H' σ' s → Q σ' H'
  | _ => False
def DG (X : Cx) (target : Expr) (t : D → M Out) : Prop := ∃ g, PG X target g ∧ ∀ w H σ s v d Q, RS X.K w H σ s → Rep X.K w v d → PostG X.K w H (t d s) Q → g v σ H Q
theorem dg_name {i : Nat} {x : Str} (hN : X.N.Nodup) (hi : X.N[i]? = some x := by rfl) (hx : Loc X.env.scope x := by first | exact Or.inl rfl | exact Or.inr rfl) (hf : X.fn x = true ∨ X.env.scope.names.lookup x = some .local := by first | exact .inl rfl | exact .inr rfl) : DG X (.Name x pos) (setL i) :=
  ⟨_, pg_name hN hi hx hf, fun w H σ s v d Q R r p => p w H _ (Le.refl w H) (R.set r)⟩
def asgM (p : M D) (t : D → M Out) : M Out := bnd p t
theorem ds_asg {tg : Expr} {t : D → M Out} (h : DE X W e fe) (hg : DG X tg t) (ht : ∀ d s, (∃ s', t d s = .ok .nx s') ∨ t d s = .bad) (hs : swapsWithSole [tg] e pos.line X.env = pure false := by rfl) (hw : swappedStores [tg] e X.env = pure none := by rfl)
    (h1 : (assignEach [tg] X.env).map (·.2) = [assign tg X.env] := by rfl) : DS X W (.Assign [tg] e pos) (asgM fe t) := by
  obtain ⟨u, p, r⟩ := h
  obtain ⟨g, pg, k⟩ := hg
  refine ⟨_, ps_asg p pg hs hw h1, fun w H σ s D R z => ?_⟩
  refine r.bndS R z fun d s1 w1 H1 v1 l1 R1 r1 p1 => ?_
  refine k w1 H1 σ s1 v1 d D.nx R1 r1 ?_
  rcases ht d s1 with ⟨s', e⟩ | e
  · rw [e] at p1 ⊢; exact p1
  · rw [e] at p1; exact p1.elim
theorem setL_ok {i : Nat} (d : D) (s : S) : (∃ s', setL i d s = .ok .nx s') ∨ setL i d s = .bad := .inl ⟨_, rfl⟩
/-- x = e -/
theorem ds_set (i : Nat) {x : Str} {p' : Pos} (h : DE X W e fe) (hN : X.N.Nodup) (hi : X.N[i]? = some x := by rfl) (hx : Loc X.env.scope x := by first | exact Or.inl rfl | exact Or.inr rfl) (hf : X.fn x = true ∨ X.env.scope.names.lookup x = some .local := by first | exact .inl rfl | exact .inr rfl)
    (hs : swapsWithSole [.Name x p'] e pos.line X.env = pure false := by rfl) (hw : swappedStores [.Name x p'] e X.env = pure none := by rfl) (h1 : (assignEach [.Name x p'] X.env).map (·.2) = [assign (.Name x p') X.env] := by rfl) : DS X W (.Assign [.Name x p'] e pos) (asgM fe (setL i)) :=
  ds_asg h (dg_name hN hi hx hf) setL_ok hs hw h1
theorem bnd_ok {α β : Type} {m : M α} {k : α → M β} {s s' : S} {a : α} (h : m s = .ok a s') : bnd m k s = k a s' := by
  unfold bnd
  rw [h]
theorem getL_eq {i : Nat} {s : S} {d : D} (h : s.loc[i]? = some (some d)) : getL i s = .ok d s := by
  unfold getL
  rw [h]
/-- x += e, of ints -/
def augF (f : Int → Int → Int) (i : Nat) : D → D → M Out
  | .int x, .int y => setL i (.int (f x y))
  | _, _ => fail
def augI (f : Int → Int → Int) (i : Nat) (p : M D) : M Out := bnd (getL i) fun a => bnd p fun b => augF f i a b
theorem ds_augI (i : Nat) {x : Str} {p' : Pos} {op : Operator} {F : Int → Int → Int} (ho : PIp X op (ipI F)) (h : DE X W e fe) (hN : X.N.Nodup) (hi : X.N[i]? = some x := by rfl) (hx : Loc X.env.scope x := by first | exact Or.inl rfl | exact Or.inr rfl) (hf : X.fn x = true ∨ X.env.scope.names.lookup x = some .local := by first | exact .inl rfl | exact .inr rfl) :
    DS X W (.AugAssign (.Name x p') op e pos) (augI F i fe) := by
  obtain ⟨u, p, r⟩ := h
  refine ⟨_, ps_aug hN hi hx p ho hf, fun w H σ s D R z => ?_⟩
  cases hl : s.loc[i]? with
  | none => unfold augI Fx.bnd getL at z; rw [hl] at z; exact z.elim
  | some o =>
    cases o with
    | none => unfold augI Fx.bnd getL at z; rw [hl] at z; exact z.elim
    | some d =>
      have z : PostS X.K W w H (bnd fe (fun b => augF F i d b) s) D := by
        have e : augI F i fe s = bnd fe (fun b => augF F i d b) s := by
          unfold augI
          exact bnd_ok (getL_eq hl)
        rw [← e]; exact z
      obtain ⟨v, hv, rv⟩ := R.loc i d hl
      refine ⟨v, hv, ?_⟩
      refine r.bndS R z fun b s1 w1 H1 v1 l1 R1 r1 p1 => ?_
      have rv := rv.up l1
      cases rv with
      | int a =>
        cases r1 with
        | int b => exact ⟨a, b, rfl, rfl, p1 w1 H1 _ (Le.refl w1 H1) (R1.set (.int _))⟩
        | _ => exact p1.elim
      | _ => exact p1.elim
/-! ### while -/
noncomputable def whileM (c : M Bool) (b : M Out) : Nat → M Out
  | 0 => fun _ => .bad
  | n + 1 => fun s => match c s with
    | .ok true s1 => match b s1 with
      | .ok .nx s2 => whileM c b n s2
      | .ok .cnt s2 => whileM c b n s2
      | .ok .brk s2 => .ok .nx s2
      | r => r
    | .ok false s1 => .ok .nx s1
    | .exc x s1 => .exc x s1
    | .bad => .bad
theorem ds_while (n : Nat) {body : List Stmt} (hp : PassesOwn (model X.prog X.w) X.A X.env X.xe) (h : DT X W c fc) (hb : DSs X W body f) : DS X W (.While c body [] pos) (whileM fc f n) := by
  obtain ⟨t, p, r⟩ := h
  obtain ⟨u, q, k⟩ := hb
  refine ⟨_, ps_while hp p q, fun w H σ s D R z => ?_⟩
  refine ⟨fun m σ' H' => ∃ w' s', RS X.K w' H' σ' s' ∧ PostS X.K W w' H' (whileM fc f m s') D, ⟨n, w, s, R, z⟩, ?_⟩
  rintro m σ' H' ⟨w', s', R', z'⟩
  cases m with
  | zero => exact z'.elim
  | succ m =>
    have z2 : PostS X.K W w' H' (bnd fc (fun b s1 => if b = true then (match f s1 with
      | .ok .nx s2 => whileM fc f m s2
      | .ok .cnt s2 => whileM fc f m s2
      | .ok .brk s2 => .ok .nx s2
      | r => r) else .ok .nx s1) s') D := by
      unfold whileM at z'
      unfold Fx.bnd
      cases hc : fc s' with
      | ok b s1 => rw [hc] at z'; cases b <;> exact z'
      | exc x s1 => rw [hc] at z'; exact z'
      | bad => rw [hc] at z'; exact z'
    refine r.bndS R' z2 fun b s1 w1 H1 v1 l1 R1 r1 p1 => ?_
    cases r1
    cases b with
    | false => exact p1 w1 H1 σ' (Le.refl w1 H1) R1
    | true =>
      refine ⟨fun σ2 H2 => ∃ w2 s2, RS X.K w2 H2 σ2 s2 ∧ PostS X.K W w2 H2 (whileM fc f m s2) D, fun σ2 H2 h => ⟨m, Nat.lt_succ_self m, h⟩, ?_⟩
      refine k w1 H1 σ' s1 _ R1 ?_
      have p1 : PostS X.K W w1 H1 (match f s1 with
        | .ok .nx s2 => whileM fc f m s2
        | .ok .cnt s2 => whileM fc f m s2
        | .ok .brk s2 => .ok .nx s2
        | r => r) D := p1
      cases hf : f s1 with
      | ok a s2 =>
        rw [hf] at p1
        cases a with
        | nx => exact fun w2 H2 σ2 l R2 => ⟨w2, s2, R2, p1.up l⟩
        | cnt => exact fun w2 H2 σ2 l R2 => ⟨w2, s2, R2, p1.up l⟩
        | brk => exact p1
        | rt d => exact p1
      | exc x s2 => rw [hf] at p1; exact p1
      | bad => rw [hf] at p1; exact p1.elim
end
/-! ### what is walked -/
structure Wk where
  items : List D
  ok : S → Prop
def wkI (K : PySem.W.Frag) : Wd → It → Wk → Prop := fun w0 J it => ∀ w H σ s, w0.le w → RS K w H σ s → it.ok s → ∀ i : Nat, (i < it.items.length → J.go i H) ∧ (it.items.length ≤ i → J.stop i H) ∧
  ∀ x H', J.yld i H x H' → ∀ d, it.items[i]? = some d → ∃ w', Le w H w' H' ∧ RS K w' H' σ s ∧ Rep K w' x d
@[reducible] def pI (K : PySem.W.Frag) : Pr It Wk := ⟨fun _ w H J it => wkI K w J it, fun _ _ _ _ _ _ _ _ _ _ h => h⟩
def DI (X : Cx) (W : WX) (tg e : Expr) (f : M Wk) : Prop := ∃ wi, PI X tg e wi ∧ Fol X.K W (pI X.K) wi f
noncomputable def loopM (ok : S → Prop) (t : D → M Out) (b : M Out) : List D → M Out
  | [] => fun s => if ok s then .ok .nx s else .bad
  | d :: ds => fun s => if ok s then (match t d s with
    | .ok .nx s1 => match b s1 with
      | .ok .nx s2 => loopM ok t b ds s2
      | .ok .cnt s2 => loopM ok t b ds s2
      | .ok .brk s2 => .ok .nx s2
      | r => r
    | _ => .bad) else .bad
noncomputable def forM (f : M Wk) (t : D → M Out) (b : M Out) : M Out := bnd f fun it => loopM it.ok t b it.items
section
variable {tg e : Expr} {fi : M Wk} {t : D → M Out} {b : M Out} {body : List Stmt} {pos : Pos}
theorem ds_for (hp : PassesOwn (model X.prog X.w) X.A X.env X.xe) (hc : X.calm = true) (hi : DI X W tg e fi) (hg : DG X tg t) (hb : DSs X W body b) (hs : ∀ x, foldedSetIterable e X.env x = pure x := by intro _; rfl) : DS X W (.For tg e body [] pos) (forM fi t b) := by
  obtain ⟨wi, p, r⟩ := hi
  obtain ⟨g, pg, kg⟩ := hg
  obtain ⟨u, q, k⟩ := hb
  refine ⟨_, ps_for hp hc p pg q hs, fun w H σ s D R z => ?_⟩
  refine r.bndS R z fun it s1 w1 H1 J l1 R1 r1 p1 => ?_
  refine ⟨fun i m σ' H' => m = it.items.length - i ∧ i ≤ it.items.length ∧ ∃ w' s', w1.le w' ∧ RS X.K w' H' σ' s' ∧ PostS X.K W w' H' (loopM it.ok t b (it.items.drop i) s') D, ⟨_, rfl, Nat.zero_le _, w1, s1, Wd.le.refl w1, R1, p1⟩, ?_⟩
  rintro i m σ' H' ⟨rfl, hi, w', s', l', R', z'⟩
  by_cases hlt : i < it.items.length
  · obtain ⟨d, hd⟩ : ∃ d, it.items[i]? = some d := ⟨_, List.getElem?_eq_getElem hlt⟩
    have ed : it.items.drop i = d :: it.items.drop (i + 1) := by
      rw [List.drop_eq_getElem_cons hlt]
      rw [List.getElem?_eq_getElem hlt] at hd
      rw [Option.some.inj hd]
    rw [ed] at z'
    unfold loopM at z'
    by_cases hok : it.ok s'
    · rw [if_pos hok] at z'
      obtain ⟨h1, h2, h3⟩ := r1 w' H' σ' s' l' R' hok i
      refine .inr ⟨h1 hlt, fun σ2 H2 => ∃ w2 s2, w1.le w2 ∧ RS X.K w2 H2 σ2 s2 ∧ PostS X.K W w2 H2 (loopM it.ok t b (it.items.drop (i + 1)) s2) D, fun σ2 H2 ⟨w2, s2, l2, R2, z2⟩ => ⟨it.items.length - (i + 1), by omega, rfl, hlt, w2, s2, l2, R2, z2⟩, fun x H2 hy => ?_⟩
      obtain ⟨w2, l2, R2, r2⟩ := h3 x H2 hy d hd
      refine kg w2 H2 σ' s' x d _ R2 r2 ?_
      cases ht : t d s' with
      | ok o s3 =>
        rw [ht] at z'
        cases o with
        | nx =>
          refine fun w3 H3 σ3 l3 R3 => ?_
          refine k w3 H3 σ3 s3 _ R3 ?_
          have z' : PostS X.K W w' H' (match b s3 with
            | .ok .nx s2 => loopM it.ok t b (it.items.drop (i + 1)) s2
            | .ok .cnt s2 => loopM it.ok t b (it.items.drop (i + 1)) s2
            | .ok .brk s2 => .ok .nx s2
            | r => r) D := z'
          have z3 := z'.up (l2.trans l3)
          cases hb : b s3 with
          | ok a s4 =>
            rw [hb] at z3
            cases a with
            | nx => exact fun w4 H4 σ4 l R4 => ⟨w4, s4, l'.trans (l2.le.trans (l3.le.trans l.le)), R4, z3.up l⟩
            | cnt => exact fun w4 H4 σ4 l R4 => ⟨w4, s4, l'.trans (l2.le.trans (l3.le.trans l.le)), R4, z3.up l⟩
            | brk => exact z3
            | rt d => exact z3
          | exc x s4 => rw [hb] at z3; exact z3
          | bad => rw [hb] at z3; exact z3.elim
        | _ => exact z'.elim
      | exc _ _ => rw [ht] at z'; exact z'.elim
      | bad => rw [ht] at z'; exact z'.elim
    · rw [if_neg hok] at z'; exact z'.elim
  · have hi' : it.items.length ≤ i := by omega
    rw [List.drop_eq_nil_of_le hi'] at z'
    unfold loopM at z'
    by_cases hok : it.ok s'
    · rw [if_pos hok] at z'
      obtain ⟨h1, h2, h3⟩ := r1 w' H' σ' s' l' R' hok i
      exact .inl ⟨h2 hi', z' w' H' σ' (Le.refl w' H') R'⟩
    · rw [if_neg hok] at z'; exact z'.elim
end
end Fx

namespace Fx
open PySem PySem.Spec PyProof.Rows L2
open Classical
variable {X : Cx} {W : WX}
section
variable {K : PySem.W.Frag} {α β ν μ : Type} {P : Pr ν α} {P2 : Pr μ β} {w w1 : Wd} {σ : L2.St} {s : S}
theorem Fol.bndE {t : L2.St → Hp → (ν → Hp → Prop) → Prop} {f : M α} {k : α → M β} {Q2 : μ → Hp → Prop} {Q : ν → Hp → Prop} {H : Hp} (h : Fol K W P t f) (R : RS K w H σ s) (p : Post K W P2 w H σ (Fx.bnd f k s) Q2)
    (g : ∀ a s' w' H' v, f s = .ok a s' → Le w H w' H' → RS K w' H' σ s' → P.p H w' H' v a → Post K W P2 w' H' σ (k a s') Q2 → Q v H') : t σ H Q := by
  refine h w H σ s Q R ?_
  unfold Fx.bnd at p
  cases e : f s with
  | ok a s' => rw [e] at p; exact fun w' H' v l R x => g a s' w' H' v e l R x (p.up l)
  | exc x s' => rw [e] at p; exact p
  | bad => rw [e] at p; exact p
end
/-! ### what is walked: a list, a tuple, a text -/
def signs (x : Str) : List D := x.cps.toList.map fun c => .str ⟨#[c]⟩
def itemsOf (s : S) : D → Option (List D)
  | .tup ds => some ds
  | .str x => some (signs x)
  | d => lstOf s d
noncomputable def seqI (d : D) : M Wk := fun s => match itemsOf s d with
  | some ds => .ok ⟨ds, fun s' => itemsOf s' d = some ds⟩ s
  | none => .bad
theorem PI.or {tg e : Expr} {w1 w2 : TI} (h1 : PI X tg e w1) (h2 : PI X tg e w2) : PI X tg e (fun σ H R => w1 σ H R ∨ w2 σ H R) :=
  ⟨fun pins s σ H R I h => h.elim (h1.run pins s σ H R I) (h2.run pins s σ H R I)⟩
theorem pI_list {K : PySem.W.Frag} {w0 : Wd} {a : Addr} {d : D} {ds : List D} (r : Rep K w0 (.ref a) d) (hl : ∀ s, itemsOf s d = lstOf s d) : wkI K w0 (Itl K a) ⟨ds, fun s' => itemsOf s' d = some ds⟩ := by
  intro w H σ s l R hok i
  have hok : itemsOf s d = some ds := hok
  rw [hl] at hok
  obtain ⟨a', vs, e, h1, h2⟩ := R.list (r.upW l) hok
  cases e
  have hS : SqL K H a vs := h1
  refine ⟨fun hi => ?_, fun hi => ⟨vs, hS, by rw [RepL.length h2]; exact hi⟩, fun x H' hy d' hd => ?_⟩
  · obtain ⟨v, hv, _⟩ := RepL.get h2 (List.getElem?_eq_getElem hi)
    exact ⟨vs, v, hS, hv⟩
  · obtain ⟨rfl, hx⟩ := hy
    obtain ⟨v, hv, rv⟩ := RepL.get h2 hd
    have := hx vs hS
    rw [hv] at this; cases this
    exact ⟨w, Le.refl _ _, R, rv⟩
theorem pI_tup {K : PySem.W.Frag} {w0 : Wd} {a : Addr} {ds : List D} (r : Rep K w0 (.ref a) (.tup ds)) : wkI K w0 (Itt K a) ⟨ds, fun s' => itemsOf s' (.tup ds) = some ds⟩ := by
  intro w H σ s l R hok i
  obtain ⟨a', vs, e, h1, h2⟩ := R.tuple (r.upW l) (ds := ds) rfl
  cases e
  refine ⟨fun hi => ?_, fun hi => ⟨vs, h1, by rw [RepL.length h2]; exact hi⟩, fun x H' hy d' hd => ?_⟩
  · obtain ⟨v, hv, _⟩ := RepL.get h2 (List.getElem?_eq_getElem hi)
    exact ⟨vs, v, h1, hv⟩
  · obtain ⟨rfl, hx⟩ := hy
    obtain ⟨v, hv, rv⟩ := RepL.get h2 hd
    have := hx vs h1
    rw [hv] at this; cases this
    exact ⟨w, Le.refl _ _, R, rv⟩
theorem pI_str {K : PySem.W.Frag} {w0 : Wd} {x : Str} : wkI K w0 (Its x) ⟨signs x, fun s' => itemsOf s' (.str x) = some (signs x)⟩ := by
  intro w H σ s l R hok i
  have hlen : (signs x).length = x.cps.size := by unfold signs; rw [List.length_map, Array.length_toList]
  refine ⟨fun hi => by rw [hlen] at hi; exact hi, fun hi => by rw [hlen] at hi; exact hi, fun v H' hy d' hd => ?_⟩
  obtain ⟨rfl, c, hc, rfl⟩ := hy
  have e : (signs x)[i]? = some (.str ⟨#[c]⟩) := by
    unfold signs
    rw [List.getElem?_map, Array.getElem?_toList, hc]; rfl
  have hd : (signs x)[i]? = some d' := hd
  rw [e] at hd; cases hd
  exact ⟨w, Le.refl _ _, R, .str _⟩
theorem di_seq {tg e : Expr} {f : M D} (h : DE X W e f) : DI X W tg e (bnd f seqI) := by
  obtain ⟨t, p, r⟩ := h
  refine ⟨_, PI.or (pi_list p) (PI.or (pi_tup p) (pi_str p)), fun w H σ s R0 R z => ?_⟩
  have base : ∀ (Q : V → Hp → Prop), (∀ a s' w' H' v, f s = .ok a s' → Le w H w' H' → RS X.K w' H' σ s' → Rep X.K w' v a → Post X.K W (pI X.K) w' H' σ (seqI a s') R0 → Q v H') → t σ H Q := fun Q g => r.bndE R z g
  cases hf : f s with
  | bad => exact .inl (base _ fun a s' w' H' v e => by rw [hf] at e; cases e)
  | exc x s1 => exact .inl (base _ fun a s' w' H' v e => by rw [hf] at e; cases e)
  | ok d s1 =>
    cases d with
    | tup ds =>
      refine .inr (.inl (base _ fun a s' w' H' v e l R' ra q => ?_))
      rw [hf] at e; cases e
      obtain ⟨a', vs, e, h1, h2⟩ := R'.tuple ra (ds := ds) rfl
      subst e
      exact ⟨a', rfl, ⟨vs, h1⟩, q w' H' _ (Le.refl _ _) R' (pI_tup ra)⟩
    | str x =>
      refine .inr (.inr (base _ fun a s' w' H' v e l R' ra q => ?_))
      rw [hf] at e; cases e
      cases ra
      exact ⟨x, rfl, q w' H' _ (Le.refl _ _) R' pI_str⟩
    | _ =>
      refine .inl (base _ fun a s' w' H' v e l R' ra q => ?_)
      rw [hf] at e; cases e
      unfold seqI at q
      split at q
      · next ds hds =>
        have hds' := hds
        simp only [itemsOf] at hds'
        obtain ⟨a', vs, e, h1, h2⟩ := R'.list ra hds'
        subst e
        refine ⟨a', rfl, ⟨vs, h1⟩, q w' H' _ (Le.refl _ _) R' (pI_list ra fun _ => rfl)⟩
      · exact q.elim
/-! ### range -/
def ranD (lo : Int) (n : Nat) : List D := (List.range n).map fun (k : Nat) => D.int (lo + (k : Int))
theorem ranD_len {lo : Int} {n : Nat} : (ranD lo n).length = n := by unfold ranD; rw [List.length_map, List.length_range]
theorem ranD_get {lo : Int} {n i : Nat} (h : i < n) : (ranD lo n)[i]? = some (.int (lo + (i : Int))) := by
  unfold ranD
  rw [List.getElem?_map, List.getElem?_range h]; rfl
def okB (i : Int) : Bool := decide (-(2 ^ 62) ≤ i) && decide (i < 2 ^ 62)
def ran1I : List D → M Wk
  | [.int n] => fun s => if okB n = true then .ok ⟨ranD 0 n.toNat, fun _ => True⟩ s else .bad
  | _ => fun _ => .bad
def ran2I : List D → M Wk
  | [.int lo, .int n] => fun s => if (okB lo && okB n) = true then .ok ⟨ranD lo (n - lo).toNat, fun _ => True⟩ s else .bad
  | _ => fun _ => .bad
theorem pI_ran {K : PySem.W.Frag} {w0 : Wd} {lo : Int} {n : Nat} : wkI K w0 (Itr lo n) ⟨ranD lo n, fun _ => True⟩ := by
  intro w H σ s l R _ i
  refine ⟨fun hi => by rw [ranD_len] at hi; exact hi, fun hi => by rw [ranD_len] at hi; exact hi, fun v H' hy d' hd => ?_⟩
  obtain ⟨rfl, rfl⟩ := hy
  have hi : i < n := by
    have := (List.getElem?_eq_some_iff.mp hd).1
    rw [ranD_len] at this; exact this
  have hd : (ranD lo n)[i]? = some d' := hd
  rw [ranD_get hi] at hd; cases hd
  exact ⟨w, Le.refl _ _, R, .int _⟩
theorem okB_ok {i : Int} (h : okB i = true) : -(2 ^ 62) ≤ i ∧ i < 2 ^ 62 := by
  unfold okB at h
  rw [Bool.and_eq_true, decide_eq_true_eq, decide_eq_true_eq] at h; exact h
theorem di_range1 {tg a : Expr} {f : M (List D)} {p pos : Pos} (hm : X.mg "range" = none) (h : DA X W [a] f) (hg : Gl X "range" := by rfl) (hs : starEach [a] X.env = [(false, eval a X.env)] := by rfl) : DI X W tg (.Call (.Name "range" p) [a] [] pos) (bnd f ran1I) := by
  obtain ⟨t, q, r⟩ := h
  refine ⟨_, pi_range1 hg hm q hs, fun w H σ s R0 R z => ?_⟩
  refine r.bnd R z fun ds s1 w1 H1 vs l1 R1 r1 p1 => ?_
  cases r1 with
  | nil => exact p1.elim
  | cons h t =>
    cases t with
    | nil =>
      cases h with
      | int n =>
        have p1 : Post X.K W (pI X.K) w1 H1 σ (if okB n = true then Res.ok (Wk.mk (ranD 0 n.toNat) fun _ => True) s1 else .bad) R0 := p1
        split at p1
        · next k => exact ⟨n, rfl, (okB_ok k).1, (okB_ok k).2, p1 w1 H1 _ (Le.refl _ _) R1 pI_ran⟩
        · exact p1.elim
      | _ => exact p1.elim
    | cons h2 t2 => exact (by cases h <;> exact p1.elim)
theorem di_range2 {tg a b : Expr} {f : M (List D)} {p pos : Pos} (hm : X.mg "range" = none) (h : DA X W [a, b] f) (hg : Gl X "range" := by rfl) (hs : starEach [a, b] X.env = [(false, eval a X.env), (false, eval b X.env)] := by rfl) (hs2 : starEach [b] X.env = [(false, eval b X.env)] := by rfl) :
    DI X W tg (.Call (.Name "range" p) [a, b] [] pos) (bnd f ran2I) := by
  obtain ⟨t, q, r⟩ := h
  refine ⟨_, pi_range2 hg hm q hs hs2, fun w H σ s R0 R z => ?_⟩
  refine r.bnd R z fun ds s1 w1 H1 vs l1 R1 r1 p1 => ?_
  cases r1 with
  | nil => exact p1.elim
  | cons h t =>
    cases t with
    | nil => exact (by cases h <;> exact p1.elim)
    | cons h2 t2 =>
      cases t2 with
      | cons _ _ => exact (by cases h <;> cases h2 <;> exact p1.elim)
      | nil =>
        cases h with
        | int lo =>
          cases h2 with
          | int n =>
            have p1 : Post X.K W (pI X.K) w1 H1 σ (if (okB lo && okB n) = true then Res.ok (Wk.mk (ranD lo (n - lo).toNat) fun _ => True) s1 else .bad) R0 := p1
            split at p1
            · next k =>
              rw [Bool.and_eq_true] at k
              exact ⟨lo, n, rfl, ⟨(okB_ok k.1).1, (okB_ok k.1).2, (okB_ok k.2).1, (okB_ok k.2).2⟩, p1 w1 H1 _ (Le.refl _ _) R1 pI_ran⟩
            · exact p1.elim
          | _ => exact p1.elim
        | _ => exact p1.elim
/-! ### zip of two lists, reversed -/
noncomputable def zipI : List D → M Wk
  | [a, b] => fun s => match lstOf s a, lstOf s b with
    | some xs, some ys => .ok ⟨List.zipWith D.pr xs ys, fun s' => lstOf s' a = some xs ∧ lstOf s' b = some ys⟩ s
    | _, _ => .bad
  | _ => fun _ => .bad
theorem pI_zip {K : PySem.W.Frag} {w0 : Wd} {a b : Addr} {d e : D} {xs ys : List D} (ra : Rep K w0 (.ref a) d) (rb : Rep K w0 (.ref b) e) : wkI K w0 (Itz K a b) ⟨List.zipWith D.pr xs ys, fun s' => lstOf s' d = some xs ∧ lstOf s' e = some ys⟩ := by
  intro w H σ s l R hok i
  obtain ⟨k1, k2⟩ : lstOf s d = some xs ∧ lstOf s e = some ys := hok
  obtain ⟨a', vs, e1, h1, h2⟩ := R.list (ra.upW l) k1
  cases e1
  obtain ⟨b', us, e2, h3, h4⟩ := R.list (rb.upW l) k2
  cases e2
  have hlen : (List.zipWith D.pr xs ys).length = min xs.length ys.length := List.length_zipWith
  refine ⟨fun hi => ?_, fun hi => ⟨vs, us, h1, h3, ?_⟩, fun x H' hy d' hd => ?_⟩
  · have hi : i < (List.zipWith D.pr xs ys).length := hi
    rw [hlen] at hi
    obtain ⟨v, hv, _⟩ := RepL.get h2 (List.getElem?_eq_getElem (show i < xs.length by omega))
    obtain ⟨u, hu, _⟩ := RepL.get h4 (List.getElem?_eq_getElem (show i < ys.length by omega))
    exact ⟨vs, us, v, u, h1, h3, hv, hu⟩
  · have hi : (List.zipWith D.pr xs ys).length ≤ i := hi
    rw [hlen] at hi
    rw [RepL.length h2, RepL.length h4]
    omega
  · obtain ⟨T, x1, y1, rfl, nT, rfl, f1, f2⟩ := hy
    have hd : (List.zipWith D.pr xs ys)[i]? = some d' := hd
    obtain ⟨v1, hv1⟩ : ∃ v, xs[i]? = some v := by
      have := (List.getElem?_eq_some_iff.mp hd).1
      rw [hlen] at this
      exact ⟨_, List.getElem?_eq_getElem (show i < xs.length by omega)⟩
    obtain ⟨v2, hv2⟩ : ∃ v, ys[i]? = some v := by
      have := (List.getElem?_eq_some_iff.mp hd).1
      rw [hlen] at this
      exact ⟨_, List.getElem?_eq_getElem (show i < ys.length by omega)⟩
    rw [List.getElem?_zipWith, hv1, hv2] at hd
    cases hd
    obtain ⟨u1, hu1, r1⟩ := RepL.get h2 hv1
    obtain ⟨u2, hu2, r2⟩ := RepL.get h4 hv2
    have e1 := f1 vs h1
    have e2 := f2 us h3
    rw [hu1] at e1; cases e1
    rw [hu2] at e2; cases e2
    obtain ⟨l2, R2, r⟩ := R.newP nT r1 r2
    exact ⟨_, l2, R2, r⟩
theorem di_zip {es : List Expr} {kk : Nat} {tpos : Pos} {a b : Expr} {f : M (List D)} {p pos : Pos} (hm : X.mg "zip" = none) (h : DA X W [a, b] f) (hg : Gl X "zip" := by rfl)
    (hs : starEach [a, b] X.env = (false, eval a X.env) :: starEach [b] X.env := by rfl) (hpl : (backTo pos (starEach [b] X.env)).any (·.1) = false := by rfl) :
    DI X W (.Tuple es kk tpos) (.Call (.Name "zip" p) [a, b] [] pos) (bnd f zipI) := by
  obtain ⟨t, q, r⟩ := h
  refine ⟨_, pi_zip hg hm q hs hpl, fun w H σ s R0 R z => ?_⟩
  refine r.bnd R z fun ds s1 w1 H1 vs l1 R1 r1 p1 => ?_
  cases r1 with
  | nil => exact p1.elim
  | cons h t =>
    cases t with
    | nil => exact p1.elim
    | cons h2 t2 =>
      cases t2 with
      | cons _ _ => exact p1.elim
      | nil =>
        unfold zipI at p1
        dsimp only at p1
        split at p1
        · next xs ys hx hy =>
          obtain ⟨a', vs, e1, q1, q2⟩ := R1.list h hx
          subst e1
          obtain ⟨b', us, e2, q3, q4⟩ := R1.list h2 hy
          subst e2
          exact ⟨a', b', vs, us, rfl, q1, q3, p1 w1 H1 _ (Le.refl _ _) R1 (pI_zip h h2)⟩
        · exact p1.elim
/-! ### targets of two, three names -/
def unp2 (i j : Nat) (d : D) : M Out := fun s => match d with
  | .tup [x, y] => .ok .nx { s with loc := (s.loc.set i (some x)).set j (some y) }
  | .pr x y => .ok .nx { s with loc := (s.loc.set i (some x)).set j (some y) }
  | _ => .bad
theorem dg_two {i j : Nat} {x y : Str} {kk : Nat} {p1 p2 pos : Pos} (hc : X.calm = true) (hN : X.N.Nodup) (hi : X.N[i]? = some x := by rfl) (hj : X.N[j]? = some y := by rfl) (hx : Loc X.env.scope x := by first | exact Or.inl rfl | exact Or.inr rfl) (hy : Loc X.env.scope y := by first | exact Or.inl rfl | exact Or.inr rfl)
    (hf : X.fn x = true ∨ X.env.scope.names.lookup x = some .local := by first | exact .inl rfl | exact .inr rfl) (hf2 : X.fn y = true ∨ X.env.scope.names.lookup y = some .local := by first | exact .inl rfl | exact .inr rfl)
    (hn : (assignEach [.Name x p1, .Name y p2] X.env).length = 2 := by rfl) (hst : (assignEach [.Name x p1, .Name y p2] X.env).findIdx? (·.1) = none := by rfl)
    (hs1 : (assignEach [.Name x p1, .Name y p2] X.env).map (·.2) = assign (.Name x p1) X.env :: (assignEach [.Name y p2] X.env).map (·.2) := by rfl) (hs2 : (assignEach [.Name y p2] X.env).map (·.2) = assign (.Name y p2) X.env :: (assignEach [] X.env).map (·.2) := by rfl) :
    DG X (.Tuple [.Name x p1, .Name y p2] kk pos) (unp2 i j) := by
  refine ⟨_, pg_tup hc (pgs_cons (pg_name hN hi hx hf) (pgs_cons (pg_name hN hj hy hf2) pgs_nil hs2) hs1) hn hst, fun w H σ s v d Q R r p => ?_⟩
  unfold unp2 at p
  split at p
  · next d1 d2 =>
    obtain ⟨a, vs, rfl, h1, h2⟩ := R.tuple r (ds := [d1, d2]) rfl
    cases h2 with
    | cons r1 t1 =>
      cases t1 with
      | cons r2 t2 =>
        cases t2
        exact ⟨a, _, rfl, h1, rfl, _, _, rfl, _, _, rfl, rfl, p w H _ (Le.refl _ _) ((R.set r1).set r2)⟩
  · next d1 d2 =>
    cases r with
    | pr h1 r1 r2 => exact ⟨_, _, rfl, sqT_up R.sub h1, rfl, _, _, rfl, _, _, rfl, rfl, p w H _ (Le.refl _ _) ((R.set r1).set r2)⟩
  · exact p.elim
theorem unp2_ok {i j : Nat} (d : D) (s : S) : (∃ s', unp2 i j d s = .ok .nx s') ∨ unp2 i j d s = .bad := by
  unfold unp2
  split
  · exact .inl ⟨_, rfl⟩
  · exact .inl ⟨_, rfl⟩
  · exact .inr rfl
end Fx

namespace Fx
open PySem PySem.Spec PyProof.Rows L2
open Classical
variable {X : Cx} {W : WX}
/-! ### [e for x in it if c]: the block's name in slot i -/
def yesM : M Bool := ret true
noncomputable def lcLoop (ok : S → Prop) (i : Nat) (c : M Bool) (e : M D) (l0 l : List (Option D)) : List D → List D → M Cell
  | [], acc => fun s => if ok s then .ok (.lst acc) { s with loc := l } else .bad
  | d :: ds, acc => fun s => if ok s ∧ acc.length < sizeLine then (match c { s with loc := l0.set i (some d) } with
    | .ok true s1 => match e s1 with
      | .ok y s2 => lcLoop ok i c e l0 l ds (acc ++ [y]) { s2 with loc := l0 }
      | _ => .bad
    | .ok false s1 => lcLoop ok i c e l0 l ds acc { s1 with loc := l0 }
    | _ => .bad) else .bad
noncomputable def lcM (f : M Wk) (i : Nat) (c : M Bool) (e : M D) : M Cell := bnd f fun it s => lcLoop it.ok i c e (s.loc.set i none) s.loc it.items [] { s with loc := s.loc.set i none }
theorem set_set_none {α : Type} {l : List (Option α)} {i : Nat} {x : Option α} : ((l.set i none).set i x).set i none = l.set i none := by
  rw [List.set_set, List.set_set]
theorem RS.wipe {K : PySem.W.Frag} {w : Wd} {H : Hp} {σ : L2.St} {s : S} {i : Nat} (R : RS K w H σ s) : RS K w H (σ.set i none) { s with loc := s.loc.set i none } := by
  refine R.other (by rw [List.length_set, List.length_set]; exact R.len) fun j d h => ?_
  by_cases hj : j = i
  · subst hj
    by_cases hl : j < s.loc.length
    · rw [List.getElem?_set_self hl] at h; cases h
    · rw [List.getElem?_eq_none (by rw [List.length_set]; omega)] at h; cases h
  · rw [List.getElem?_set_ne (Ne.symm hj)] at h ⊢
    exact R.loc j d h
/-- the slots that hold the locals l, by w -/
def LocOk (K : PySem.W.Frag) (w : Wd) (σ : L2.St) (l : List (Option D)) : Prop := σ.length = l.length ∧ ∀ (i : Nat) d, l[i]? = some (some d) → ∃ v, σ[i]? = some (some v) ∧ Rep K w v d
theorem LocOk.up {K : PySem.W.Frag} {w w' : Wd} {σ : L2.St} {l : List (Option D)} (h : LocOk K w σ l) (le : w.le w') : LocOk K w' σ l := ⟨h.1, fun i d e => let ⟨v, a, b⟩ := h.2 i d e; ⟨v, a, b.upW le⟩⟩
theorem RS.locOk {K : PySem.W.Frag} {w : Wd} {H : Hp} {σ : L2.St} {s : S} (R : RS K w H σ s) : LocOk K w σ s.loc := ⟨R.len, R.loc⟩
theorem RS.withLoc {K : PySem.W.Frag} {w : Wd} {H : Hp} {σ σ' : L2.St} {s : S} {l : List (Option D)} (R : RS K w H σ s) (h : LocOk K w σ' l) : RS K w H σ' { s with loc := l } := R.other h.1 h.2
theorem Le.mut {w w1 : Wd} {H H1 : Hp} {p : Addr} {o : HO} (l : Le w H w1 H1) (hp : H p = none) : Le w H w1 (upd H1 p o) := ⟨l.le, fun a q e h => by rw [upd_ne (ne_of_none e hp)]; exact l.keep a q e h, l.newρ, l.newF⟩
/-- a tracked thing that is neither frozen nor a cell may change -/
theorem RS.mut {K : PySem.W.Frag} {w : Wd} {H : Hp} {σ : L2.St} {s : S} {p : Addr} {o : HO} (R : RS K w H σ s) (hf : w.F p = none) (hr : p ∉ w.ρ) : RS K w (upd H p o) σ s :=
  ⟨fun a q e => by rw [upd_ne (ne_of_none e hf)]; exact R.sub a q e, R.len, R.loc, R.cl, R.nd, R.out, fun n a c e1 e2 => (R.cells n a c e1 e2).upW (Wd.le.refl w) (upd_ne fun (e : a = p) => hr (e ▸ List.mem_of_getElem? e1))⟩
theorem DN.pe {e : Expr} {f : M Cell} (h : DN X W e f) : PE X e (tM X.K W (pN X.K) f) := by
  obtain ⟨t, p, r⟩ := h
  exact ⟨fun pins s σ H Q I ⟨w, z, R, q⟩ => p.run pins s σ H Q I (r w H σ z Q R q)⟩
def tests (ifs : List Expr) (X : Cx) (c : M Bool) : Prop := PTs X ifs (tM X.K W0 pB c)
theorem tests_nil : tests [] X yesM := ⟨fun pins s σ H Q I ⟨w, z, R, q⟩ => pts_nil.run pins s σ H Q I (Post.here q R rfl)⟩
theorem tests_one {e : Expr} {c : M Bool} (h : DT X W0 e c) : tests [e] X c := pts_one h.pt
theorem lc_fol {wi : TI} {n : Str} {i : Nat} {fi : M Wk} {c : M Bool} {fe : M D} (r : Fol X.K W (pI X.K) wi fi) : Fol X.K W (pN X.K) (tLc wi (gName i) (tM X.K W0 pB c) (tM X.K W0 (pD X.K) fe) ([(n, i)].map (·.2))) (lcM fi i c fe) := by
  intro w H σ s Q R z
  refine r.bnd R z fun it s1 w1 H1 J l1 R1 r1 p1 => ?_
  intro Dl hD
  have fr := R1.fresh hD
  have z1 : Post X.K W (pN X.K) w1 H1 σ (lcLoop it.ok i c fe (s1.loc.set i none) s1.loc it.items [] { s1 with loc := s1.loc.set i none }) Q := p1
  have ew : L2.wipe σ ([(n, i)].map (·.2)) = σ.set i none := rfl
  -- what holds between two turns
  refine ⟨fun k m H' => m = it.items.length - k ∧ k ≤ it.items.length ∧ ∃ w' s' acc, Le w1 H1 w' H' ∧ RS X.K w' H' (σ.set i none) s' ∧ s'.loc = s1.loc.set i none ∧ w'.F Dl = none ∧ Dl ∉ w'.ρ ∧ (∃ vs, H' Dl = some (.lst vs) ∧ RepL X.K w' vs acc) ∧
    Post X.K W (pN X.K) w1 H1 σ (lcLoop it.ok i c fe (s1.loc.set i none) s1.loc (it.items.drop k) acc s') Q, ⟨_, rfl, Nat.zero_le _, w1, { s1 with loc := s1.loc.set i none }, [], Le.laid hD, (R1.laid hD).wipe, rfl, fr.1, fr.2, ⟨[], upd_same, .nil⟩, z1⟩, ?_⟩
  rintro k m H' ⟨rfl, hk, w', s', acc, l', R', el, hF, hρ, ⟨vs, hvs, racc⟩, z'⟩
  by_cases hlt : k < it.items.length
  · obtain ⟨d, hd⟩ : ∃ d, it.items[k]? = some d := ⟨_, List.getElem?_eq_getElem hlt⟩
    have ed : it.items.drop k = d :: it.items.drop (k + 1) := by
      rw [List.drop_eq_getElem_cons hlt]
      rw [List.getElem?_eq_getElem hlt] at hd
      rw [Option.some.inj hd]
    rw [ed] at z'
    unfold lcLoop at z'
    by_cases hok : it.ok s' ∧ acc.length < sizeLine
    · rw [if_pos hok] at z'
      obtain ⟨h1, h2, h3⟩ := r1 w' H' _ s' l'.le R' hok.1 k
      refine .inr ⟨h1 hlt, fun H2 => (k + 1 ≤ it.items.length ∧ ∃ w' s' acc, Le w1 H1 w' H2 ∧ RS X.K w' H2 (σ.set i none) s' ∧ s'.loc = s1.loc.set i none ∧ w'.F Dl = none ∧ Dl ∉ w'.ρ ∧ (∃ vs, H2 Dl = some (.lst vs) ∧ RepL X.K w' vs acc) ∧
        Post X.K W (pN X.K) w1 H1 σ (lcLoop it.ok i c fe (s1.loc.set i none) s1.loc (it.items.drop (k + 1)) acc s') Q), fun H2 hh => ⟨it.items.length - (k + 1), by omega, rfl, hh⟩, fun x H2 hy => ?_⟩
      obtain ⟨w2, l2, R2, r2⟩ := h3 x H2 hy d hd
      rw [ew]
      refine ⟨set_set_none, ?_⟩
      have R2s := R2.set (i := i) r2
      rw [el] at R2s
      -- the new list from one state to a later one
      have carry : ∀ {w5 : Wd} {H5 : Hp}, Le w' H' w5 H5 → w5.F Dl = none ∧ Dl ∉ w5.ρ ∧ H5 Dl = some (.lst vs) := fun {w5 H5} l5 => by
        refine ⟨?_, fun h => ?_, l5.keep Dl _ hvs hρ⟩
        · cases q : w5.F Dl with
          | none => rfl
          | some o =>
            rcases l5.newF Dl o q with h | h | h
            · rw [hF] at h; cases h
            · rw [hvs] at h; cases h
            · exact (hρ h).elim
        · rcases l5.newρ Dl h with h | h
          · exact hρ h
          · rw [hvs] at h; cases h
      have loc0 : LocOk X.K w1 (σ.set i none) (s1.loc.set i none) := R1.wipe.locOk
      refine ⟨w2, _, R2s, ?_⟩
      have z' : Post X.K W (pN X.K) w1 H1 σ (match c { s' with loc := (s1.loc.set i none).set i (some d) } with
        | .ok true s1' => match fe s1' with
          | .ok y s2 => lcLoop it.ok i c fe (s1.loc.set i none) s1.loc (it.items.drop (k + 1)) (acc ++ [y]) { s2 with loc := s1.loc.set i none }
          | _ => .bad
        | .ok false s1' => lcLoop it.ok i c fe (s1.loc.set i none) s1.loc (it.items.drop (k + 1)) acc { s1' with loc := s1.loc.set i none }
        | _ => .bad) Q := z'
      cases hcc : c { s' with loc := (s1.loc.set i none).set i (some d) } with
      | exc _ _ => rw [hcc] at z'; exact z'.elim
      | bad => rw [hcc] at z'; exact z'.elim
      | ok b s3 =>
        rw [hcc] at z'
        rintro w3 H3 b' l3 R3 eb
        have eb : b' = b := eb
        subst eb
        cases b' with
        | false =>
          obtain ⟨c1, c2, c3⟩ := carry (l2.trans l3)
          have lt := l'.trans (l2.trans l3)
          exact ⟨hlt, w3, { s3 with loc := s1.loc.set i none }, acc, lt, R3.withLoc (loc0.up lt.le), rfl, c1, c2, ⟨vs, c3, racc.up (l2.trans l3)⟩, z'⟩
        | true =>
          refine ⟨w3, s3, R3, ?_⟩
          have z' : Post X.K W (pN X.K) w1 H1 σ (match fe s3 with
            | .ok y s2 => lcLoop it.ok i c fe (s1.loc.set i none) s1.loc (it.items.drop (k + 1)) (acc ++ [y]) { s2 with loc := s1.loc.set i none }
            | _ => .bad) Q := z'
          cases hee : fe s3 with
          | exc _ _ => rw [hee] at z'; exact z'.elim
          | bad => rw [hee] at z'; exact z'.elim
          | ok y s4 =>
            rw [hee] at z'
            rintro w4 H4 v l4 R4 ry
            have lt := l2.trans (l3.trans l4)
            obtain ⟨c1, c2, c3⟩ := carry lt
            have lt1 := l'.trans lt
            refine ⟨vs, c3, by rw [RepL.length racc]; exact hok.2, hlt, w4, { s4 with loc := s1.loc.set i none }, acc ++ [y], lt1.mut hD, (R4.withLoc (loc0.up lt1.le)).mut c1 c2, rfl, c1, c2, ⟨vs ++ [v], upd_same, RepL.append (racc.up lt) (.cons ry .nil)⟩, z'⟩
    · rw [if_neg hok] at z'; exact z'.elim
  · have hk' : it.items.length ≤ k := by omega
    rw [List.drop_eq_nil_of_le hk'] at z'
    unfold lcLoop at z'
    by_cases hok : it.ok s'
    · rw [if_pos hok] at z'
      obtain ⟨h1, h2, h3⟩ := r1 w' H' _ s' l'.le R' hok k
      refine .inl ⟨h2 hk', z' w' H' _ l' (R'.withLoc (R1.locOk.up l'.le)) ⟨Dl, rfl, hF, hρ, ⟨vs, hvs, racc⟩, hD⟩⟩
    · rw [if_neg hok] at z'; exact z'.elim
theorem dn_lc {elt tg iter : Expr} {ifs : List Expr} {scope : Scope} {n : Str} {i : Nat} {pos : Pos} {fi : M Wk} {c : M Bool} {fe : M D} (hc : X.calm = true) (hN : X.N.Nodup) (hi : DI X W tg iter fi) (ok : BlkOk X.N X.env.scope scope [(n, i)])
    (hg : ∀ (s : Shared) (H : Hp) (C : Addr) (cl : List (Str × Addr)) (fp : List Addr), PG (X.blk s H scope (compEnvC scope cl C X.env) fp) tg (gName i))
    (ht : ∀ (s : Shared) (H : Hp) (C : Addr) (cl : List (Str × Addr)) (fp : List Addr), tests ifs (X.blk s H scope (compEnvC scope cl C X.env) fp) c)
    (he : ∀ (s : Shared) (H : Hp) (C : Addr) (cl : List (Str × Addr)) (fp : List Addr), DE (X.blk s H scope (compEnvC scope cl C X.env) fp) W0 elt fe) (hs : ∀ x, foldedSetIterable iter X.env x = pure x := by intro _; rfl) :
    DN X W (.ListComp elt [⟨tg, iter, ifs, 0⟩] scope pos) (lcM fi i c fe) := by
  obtain ⟨wi, p, r⟩ := hi
  exact ⟨_, pe_lc (tt := tM X.K W0 pB c) (te := tM X.K W0 (pD X.K) fe) hc hN p ok hg (fun s H C cl fp => ht s H C cl fp) (fun s H C cl fp => (he s H C cl fp).pe) hs, lc_fol r⟩
/-- y = [..] on one line: frozen, or a cell -/
theorem DE.asg_fol {te : TE} {f : M D} {j : Nat} (h : Fol X.K W (pD X.K) te f) : FolS X.K W (tAsg te (gName j)) (asgM f (setL j)) := fun w H σ s D R z =>
  h.bndS R z fun d s1 w1 H1 v1 l1 R1 r1 p1 => p1 w1 H1 _ (Le.refl _ _) (R1.set r1)
section
variable {elt tg iter : Expr} {ifs : List Expr} {scope : Scope} {n y : Str} {i j : Nat} {py pos spos : Pos} {fi : M Wk} {c : M Bool} {fe : M D}
theorem ds_lc (own : Bool) (hc : X.calm = true) (hN : X.N.Nodup) (hi : DI X W tg iter fi) (ok : BlkOk X.N X.env.scope scope [(n, i)])
    (hg : ∀ (s : Shared) (H : Hp) (C : Addr) (cl : List (Str × Addr)) (fp : List Addr), PG (X.blk s H scope (compEnvC scope cl C X.env) fp) tg (gName i))
    (ht : ∀ (s : Shared) (H : Hp) (C : Addr) (cl : List (Str × Addr)) (fp : List Addr), tests ifs (X.blk s H scope (compEnvC scope cl C X.env) fp) c)
    (he : ∀ (s : Shared) (H : Hp) (C : Addr) (cl : List (Str × Addr)) (fp : List Addr), DE (X.blk s H scope (compEnvC scope cl C X.env) fp) W0 elt fe)
    (hsw : swapsWith (.ListComp elt [⟨tg, iter, ifs, 0⟩] scope pos) (some (.Name y py)) spos.line X.env = pure true) (hy : X.N[j]? = some y := by rfl) (hyl : X.env.scope.names.lookup y = some .local := by rfl) (hs : ∀ x, foldedSetIterable iter X.env x = pure x := by intro _; rfl) :
    DS X W (.Assign [.Name y py] (.ListComp elt [⟨tg, iter, ifs, 0⟩] scope pos) spos) (asgM (if own = true then ownM (lcM fi i c fe) else frzM (lcM fi i c fe)) (setL j)) := by
  obtain ⟨wi, p, r⟩ := hi
  have f : Fol X.K W (pN X.K) (tLc wi (gName i) (tM X.K W0 pB c) (tM X.K W0 (pD X.K) fe) ([(n, i)].map (·.2))) (lcM fi i c fe) := lc_fol r
  refine ⟨_, ps_setLc (tt := tM X.K W0 pB c) (te := tM X.K W0 (pD X.K) fe) hc hN hy hyl hsw p ok hg (fun s H C cl fp => ht s H C cl fp) (fun s H C cl fp => (he s H C cl fp).pe) hs, ?_⟩
  cases own with
  | true => exact DE.asg_fol (own_fol f)
  | false => exact DE.asg_fol (frz_fol f)
end
end Fx

namespace Fx
open PySem PySem.Spec PyProof.Rows L2
open Classical
variable {X : Cx} {W : WX}
/-! ### what a def hands back: its new cells as trees -/
mutual
/-- no cell from b on -/
def nc (b : Nat) : D → Bool
  | .cell n => decide (n < b)
  | .tup xs => ncL b xs
  | .lst xs => ncL b xs
  | .pr x y => nc b x && nc b y
  | _ => true
def ncL (b : Nat) : List D → Bool
  | [] => true
  | x :: xs => nc b x && ncL b xs
end
def mapO (f : D → Option D) : List D → Option (List D)
  | [] => some []
  | x :: xs => match f x, mapO f xs with
    | some y, some ys => some (y :: ys)
    | _, _ => none
def thaw (vh : List Cell) (b : Nat) : Nat → D → Option D
  | 0, d => if nc b d = true then some d else none
  | k + 1, d => if nc b d = true then some d else match d with
    | .cell n => match vh[n]? with
      | some (.lst ds) => (mapO (thaw vh b k) ds).map .lst
      | _ => none
    | .tup ds => (mapO (thaw vh b k) ds).map .tup
    | .lst ds => (mapO (thaw vh b k) ds).map .lst
    | _ => none
def Wd.fall (w : Wd) (b : Nat) (H : Hp) : Wd := ⟨w.ρ.take b, fun a => match w.F a with
  | some o => some o
  | none => if a ∈ w.ρ.drop b then H a else none⟩
section
variable {K : PySem.W.Frag} {w w0 : Wd} {H H0 : Hp} {σ : L2.St} {s : S} {b : Nat}
theorem fall_F {a : Addr} {o : HO} (h : w.F a = some o) : (w.fall b H).F a = some o := by
  show (match w.F a with | some o => some o | none => if a ∈ w.ρ.drop b then H a else none) = some o
  rw [h]
mutual
theorem nc_rep : ∀ {v : V} {d : D}, Rep K w v d → nc b d = true → Rep K (w.fall b H) v d
  | _, _, .non, _ => .non
  | _, _, .bl x, _ => .bl x
  | _, _, .int i, _ => .int i
  | _, _, .str x, _ => .str x
  | _, _, .ref a, _ => .ref a
  | _, _, .tup h t, c => .tup (h.up (fun _ _ e => fall_F e)) (nc_repL t (by simpa [nc] using c))
  | _, _, .pr h r q, c => by
    unfold nc at c
    rw [Bool.and_eq_true] at c
    exact .pr (sqT_up (fun _ _ e => fall_F e) h) (nc_rep r c.1) (nc_rep q c.2)
  | _, _, .lst h t, c => .lst (sqL_up (fun _ _ e => fall_F e) h) (nc_repL t (by simpa [nc] using c))
  | _, _, .cell (n := n) h, c => .cell (by
      have hn : n < b := by simpa [nc] using c
      show (w.ρ.take b)[n]? = _
      rw [List.getElem?_take, if_pos hn]; exact h)
theorem nc_repL : ∀ {vs : List V} {ds : List D}, RepL K w vs ds → ncL b ds = true → RepL K (w.fall b H) vs ds
  | _, _, .nil, _ => .nil
  | _, _, .cons h t, c => by
    have c : (nc b _ && ncL b _) = true := c
    rw [Bool.and_eq_true] at c
    exact .cons (nc_rep h c.1) (nc_repL t c.2)
end
mutual
theorem nc_of : ∀ {v : V} {d : D}, Rep K w0 v d → w0.ρ.length ≤ b → nc b d = true
  | _, _, .non, _ => rfl
  | _, _, .bl x, _ => rfl
  | _, _, .int i, _ => rfl
  | _, _, .str x, _ => rfl
  | _, _, .ref a, _ => rfl
  | _, _, .tup h t, c => by unfold nc; exact nc_ofL t c
  | _, _, .pr h r q, c => by unfold nc; rw [nc_of r c, nc_of q c]; rfl
  | _, _, .lst h t, c => by unfold nc; exact nc_ofL t c
  | _, _, .cell (n := n) h, c => by
    have := (List.getElem?_eq_some_iff.mp h).1
    unfold nc; exact decide_eq_true (by omega)
theorem nc_ofL : ∀ {vs : List V} {ds : List D}, RepL K w0 vs ds → w0.ρ.length ≤ b → ncL b ds = true
  | _, _, .nil, _ => rfl
  | _, _, .cons h t, c => by
    unfold ncL
    rw [nc_of h c, nc_ofL t c]; rfl
end
theorem nc_repK : ∀ {vs vs0 : List (Key × V)} {ds : List (Key × D)}, RepK K w vs ds → RepK K w0 vs0 ds → w0.ρ.length ≤ b → RepK K (w.fall b H) vs ds
  | _, _, _, .nil, _, _ => .nil
  | _, _, _, .cons h t, .cons h0 t0, c => .cons (nc_rep h (nc_of h0 c)) (nc_repK t t0 c)
theorem nc_repF : ∀ {vs vs0 : List (Str × V)} {ds : List (Str × D)}, RepF K w vs ds → RepF K w0 vs0 ds → w0.ρ.length ≤ b → RepF K (w.fall b H) vs ds
  | _, _, _, .nil, _, _ => .nil
  | _, _, _, .cons h t, .cons h0 t0, c => .cons (nc_rep h (nc_of h0 c)) (nc_repF t t0 c)
mutual
theorem nk_nc {b : Nat} : ∀ {d : D} {q : NestedKey}, nkD d = some q → nc b d = true
  | .non, _, _ => rfl
  | .bl _, _, _ => rfl
  | .int _, _, _ => rfl
  | .str _, _, _ => rfl
  | .tup ds, q, h => by
    unfold nkD at h
    unfold nc
    cases e : nkL ds with
    | none => rw [e] at h; cases h
    | some ks => exact nk_ncL e
  | .lst _, _, h => by cases h
  | .cell _, _, h => by cases h
  | .ref _, _, h => by cases h
  | .pr _ _, _, h => by cases h
theorem nk_ncL {b : Nat} : ∀ {ds : List D} {ks : List NestedKey}, nkL ds = some ks → ncL b ds = true
  | [], _, _ => rfl
  | d :: r, _, h => by
    unfold nkL at h
    unfold ncL
    cases e1 : nkD d with
    | none => rw [e1] at h; cases h
    | some k =>
      cases e2 : nkL r with
      | none => rw [e1, e2] at h; cases h
      | some ks => rw [nk_nc e1, nk_ncL e2]; rfl
end
theorem nc_repN : ∀ {xs xs0 : NX} {ds : List (NestedKey × D)}, RepN K w xs ds → RepN K w0 xs0 ds → w0.ρ.length ≤ b → RepN K (w.fall b H) xs ds
  | _, _, _, .nil, _, _ => .nil
  | _, _, _, .cons hk hq r ru h t, .cons _ _ _ _ h0 t0, c => .cons hk hq (nc_rep r (nk_nc hk)) ru (nc_rep h (nc_of h0 c)) (nc_repN t t0 c)
theorem mapO_rep {f : D → Option D} {w1 : Wd} (ih : ∀ v d d', Rep K w v d → f d = some d' → Rep K w1 v d') : ∀ {vs : List V} {ds ds' : List D}, RepL K w vs ds → mapO f ds = some ds' → RepL K w1 vs ds'
  | _, _, _, .nil, e => by cases e; exact .nil
  | _, _, _, .cons (d := d) (ds := ds) h t, e => by
    unfold mapO at e
    cases h1 : f d with
    | none => rw [h1] at e; cases e
    | some y =>
      cases h2 : mapO f ds with
      | none => rw [h1, h2] at e; cases e
      | some ys =>
        rw [h1, h2] at e; cases e
        exact .cons (ih _ _ _ h h1) (mapO_rep ih t h2)
theorem RepL.nd (R : RS K w H σ s) {n : Nat} {a : Addr} (h : w.ρ[n]? = some a) (hb : b ≤ n) : a ∈ w.ρ.drop b := by
  refine List.mem_of_getElem? (i := n - b) ?_
  rw [List.getElem?_drop, Nat.add_sub_cancel' hb]; exact h
theorem thaw_rep (R : RS K w H σ s) : ∀ (k : Nat) {v : V} {d d' : D}, Rep K w v d → thaw s.vh b k d = some d' → Rep K (w.fall b H) v d'
  | 0, v, d, d', r, e => by
    unfold thaw at e
    split at e
    · next c => cases e; exact nc_rep r c
    · cases e
  | k + 1, v, d, d', r, e => by
    unfold thaw at e
    split at e
    · next c => cases e; exact nc_rep r c
    · next c =>
      have ih : ∀ {v : V} {d d' : D}, Rep K w v d → thaw s.vh b k d = some d' → Rep K (w.fall b H) v d' := fun r q => thaw_rep R k r q
      cases r with
      | tup h t =>
        dsimp only at e
        cases h2 : mapO (thaw s.vh b k) _ with
        | none => rw [h2] at e; cases e
        | some ys => rw [h2] at e; cases e; exact .tup (h.up (fun _ _ e => fall_F e)) (mapO_rep (fun _ _ _ r q => ih r q) t h2)
      | lst h t =>
        dsimp only at e
        cases h2 : mapO (thaw s.vh b k) _ with
        | none => rw [h2] at e; cases e
        | some ys => rw [h2] at e; cases e; exact .lst (sqL_up (fun _ _ e => fall_F e) h) (mapO_rep (fun _ _ _ r q => ih r q) t h2)
      | @cell a n h =>
        dsimp only at e
        have hn : ¬ n < b := by simpa [nc] using c
        obtain ⟨cc, e1, hc⟩ := R.cellOf h
        rw [e1] at e
        cases cc with
        | dct _ => cases e
        | obj _ _ => cases e
        | dctL _ _ _ => cases e
        | dctN _ _ => cases e
        | lst ds =>
          dsimp only at e
          cases h2 : mapO (thaw s.vh b k) ds with
          | none => rw [h2] at e; cases e
          | some ys =>
            rw [h2] at e; cases e
            obtain ⟨vs, q1, q2⟩ := hc
            refine .lst (SqL.of ?_) (mapO_rep (fun _ _ _ r q => ih r q) q2 h2)
            show (match w.F _ with | some o => some o | none => if _ ∈ w.ρ.drop b then H _ else none) = _
            rw [R.out _ (List.mem_of_getElem? h)]
            show (if _ ∈ w.ρ.drop b then H _ else none) = _
            rw [if_pos (RepL.nd R h (by omega))]; exact q1
      | pr h r q => cases e
      | _ => simp [nc] at c
/-- the caller's state behind a def that changed nothing of it -/
theorem RS.back {σ0 : L2.St} {s0 : S} (R0 : RS K w0 H0 σ0 s0) (l : Le w0 H0 w H) (R : RS K w H σ s) (hp : s.vh.take s0.vh.length = s0.vh) (hb : b = s0.vh.length) : Le w0 H0 (w.fall b H) H ∧ RS K (w.fall b H) H σ0 s0 := by
  subst hb
  have hlen : s0.vh.length ≤ w.ρ.length := by
    rw [R.cl]
    have := congrArg List.length hp
    rw [List.length_take] at this
    omega
  have hρ : ∀ n a, w0.ρ[n]? = some a → (w.ρ.take s0.vh.length)[n]? = some a := fun n a e => by
    have hn : n < s0.vh.length := by rw [← R0.cl]; exact (List.getElem?_eq_some_iff.mp e).1
    rw [List.getElem?_take, if_pos hn]; exact l.le.1 n a e
  have le : w0.le (w.fall s0.vh.length H) := ⟨hρ, fun a o e => fall_F (l.le.2 a o e)⟩
  have outD : ∀ a ∈ w.ρ.drop s0.vh.length, a ∉ w.ρ.take s0.vh.length := fun a h h2 => by
    have nd := R.nd
    rw [← List.take_append_drop s0.vh.length w.ρ, List.nodup_append] at nd
    exact nd.2.2 a h2 a h rfl
  refine ⟨⟨le, l.keep, fun a h => l.newρ a (List.mem_of_mem_take h), fun a o h => ?_⟩, ?_⟩
  · have h : (match w.F a with | some o => some o | none => if a ∈ w.ρ.drop s0.vh.length then H a else none) = some o := h
    cases q : w.F a with
    | some o' => rw [q] at h; cases h; exact l.newF a _ q
    | none =>
      rw [q] at h
      have h : (if a ∈ w.ρ.drop s0.vh.length then H a else none) = some o := h
      split at h
      · next hm =>
        rcases l.newρ a (List.mem_of_mem_drop hm) with z | z
        · exact .inr (.inr z)
        · exact .inr (.inl z)
      · cases h
  · refine ⟨fun a o h => ?_, R0.len, fun i d e => ?_, ?_, R.nd.sublist (List.take_sublist _ _), fun a ha => ?_, fun n a c e1 e2 => ?_⟩
    · have h : (match w.F a with | some o => some o | none => if a ∈ w.ρ.drop s0.vh.length then H a else none) = some o := h
      cases q : w.F a with
      | some o' => rw [q] at h; cases h; exact R.sub a _ q
      | none =>
        rw [q] at h
        have h : (if a ∈ w.ρ.drop s0.vh.length then H a else none) = some o := h
        split at h
        · exact h
        · cases h
    · obtain ⟨v, h1, h2⟩ := R0.loc i d e
      exact ⟨v, h1, h2.upW le⟩
    · show (w.ρ.take s0.vh.length).length = _
      rw [List.length_take]; omega
    · show (match w.F a with | some o => some o | none => if a ∈ w.ρ.drop s0.vh.length then H a else none) = none
      rw [R.out a (List.mem_of_mem_take ha)]
      show (if a ∈ w.ρ.drop s0.vh.length then H a else none) = none
      rw [if_neg fun h => outD a h ha]
    · have e1 : (w.ρ.take s0.vh.length)[n]? = some a := e1
      have hn : n < s0.vh.length := (List.getElem?_eq_some_iff.mp e2).1
      rw [List.getElem?_take, if_pos hn] at e1
      have e2' : s.vh[n]? = some c := by
        rw [← hp, List.getElem?_take, if_pos hn] at e2; exact e2
      have hc := R.cells n a c e1 e2'
      obtain ⟨a0, _, hc0⟩ := R0.addrOf e2
      cases c with
      | lst ds =>
        obtain ⟨vs, q1, q2⟩ := hc
        obtain ⟨vs0, _, q0⟩ := hc0
        exact ⟨vs, q1, nc_repL q2 (nc_ofL q0 (Nat.le_of_eq R0.cl))⟩
      | dct kvs =>
        obtain ⟨vs, q1, q2⟩ := hc
        obtain ⟨vs0, _, q0⟩ := hc0
        exact ⟨vs, q1, nc_repK q2 q0 (Nat.le_of_eq R0.cl)⟩
      | dctN wd kvs =>
        obtain ⟨xs, q1, q2⟩ := hc
        obtain ⟨_, _, q0⟩ := hc0
        exact ⟨xs, q1, nc_repN q2 q0 (Nat.le_of_eq R0.cl)⟩
      | dctL o us kvs =>
        obtain ⟨q1, q2⟩ := hc
        obtain ⟨_, q0⟩ := hc0
        exact ⟨q1, nc_repK q2 q0 (Nat.le_of_eq R0.cl)⟩
      | obj x fs =>
        obtain ⟨C, dx, vs, q0, q1, q2⟩ := hc
        obtain ⟨_, _, vs0, _, _, q3⟩ := hc0
        exact ⟨C, dx, vs, q0, q1, nc_repF q2 q3 (Nat.le_of_eq R0.cl)⟩
end
/-! ### pure defs -/
abbrev Pf := List D → List Cell → Option D
noncomputable def fin (vh : List Cell) (s : S) (d : D) : Option D := if s.vh.take vh.length = vh then thaw s.vh vh.length 8 d else none
def initS (n : Nat) (ds : List D) (vh : List Cell) : S := ⟨ds.map some ++ List.replicate (n - ds.length) none, vh⟩
noncomputable def runP (n : Nat) (g : M Out) : Pf := fun ds vh => match g (initS n ds vh) with
  | .ok (.rt d) s => fin vh s d
  | .ok .nx s => fin vh s .non
  | _ => none
/-- the promise: from data to a datum, nothing of the caller's changed -/
def SpP (K : PySem.W.Frag) (n : Nat) (F : Pf) : Sp := fun vs H Q _ => vs.length = n ∧ ∃ w σ s ds d, RS K w H σ s ∧ RepL K w vs ds ∧ F ds s.vh = some d ∧ ∀ w' H' v, Le w H w' H' → RS K w' H' σ s → Rep K w' v d → Q v H'
theorem fn_pure {P : Program} {wd : World} {K : PySem.W.Frag} {mg : Str → Option Value} {base : Heap} {x qual : Str} {st : Stmt} {f : Addr} {fd : FuncData} {N ps : List Str} {k : Nat} {g : M Out} (F : Fun K x qual st f fd) (Sc : FnScope N ps (defScope st)) (hle : ps.length ≤ N.length)
    (body : ∀ (cdv : Value) (A : Around) (outer : List Env) (s : Shared) (H : Hp) (E : XK), Room k (A.deeper (envOfC qual (defScope st) s.heap.objs.size f cdv)) →
      DSs (cxOf CX0 P wd K mg base N qual (defScope st) f cdv A outer s H E).nox W0 (defBody st) g) : FnOk P wd K mg base CX0 (k + 1) f fd ps (SpP K ps.length (runP N.length g)) := by
  refine F.ok Sc (fun vs H Q E h => h.1) fun cdv A outer s H vs Q E hr h => ?_
  obtain ⟨t, p, r⟩ := body cdv A outer s H E hr
  obtain ⟨hl, w, σ, z, ds, d, R, rv, e, q⟩ := h
  refine ⟨t, p, r w H _ (initS N.length ds z.vh) _ ?_ ?_⟩
  · have hdl := RepL.length rv
    refine R.other (l := ds.map some ++ List.replicate (N.length - ds.length) none) ?_ fun i d hi => ?_
    · show (vs.map some ++ List.replicate (N.length - vs.length) none).length = _
      simp only [List.length_append, List.length_map, List.length_replicate]
      rw [hdl]
    · by_cases hlt : i < ds.length
      · rw [List.getElem?_append_left (by rw [List.length_map]; exact hlt), List.getElem?_map] at hi
        cases h2 : ds[i]? with
        | none => rw [h2] at hi; cases hi
        | some d2 =>
          rw [h2] at hi; cases hi
          obtain ⟨v, h3, h4⟩ := RepL.get rv h2
          refine ⟨v, ?_, h4⟩
          show (vs.map some ++ _)[i]? = _
          rw [List.getElem?_append_left (by rw [List.length_map, hdl]; exact hlt), List.getElem?_map, h3]; rfl
      · rw [List.getElem?_append_right (by rw [List.length_map]; omega)] at hi
        have := List.mem_of_getElem? hi
        rw [List.mem_replicate] at this
        cases this.2
  · show PostS K W0 w H (g (initS N.length ds z.vh)) _
    unfold runP at e
    have fin_ok : ∀ {d0 : D} {s1 : S}, fin z.vh s1 d0 = some d → ∀ w' H' σ' v, Le w H w' H' → RS K w' H' σ' s1 → Rep K w' v d0 → Q v H' := fun {d0 s1} e w' H' σ' v l R' rv => by
      unfold fin at e
      split at e
      · next hp =>
        obtain ⟨l2, R2⟩ := RS.back R l R' hp rfl
        exact q _ _ _ l2 R2 (thaw_rep R' 8 rv e)
      · cases e
    cases hg : g (initS N.length ds z.vh) with
    | bad => rw [hg] at e; cases e
    | exc x s1 => rw [hg] at e; cases e
    | ok o s1 =>
      rw [hg] at e
      cases o with
      | brk => cases e
      | cnt => cases e
      | rt d0 => exact fun w' H' σ' v l R' rv => fin_ok e w' H' σ' v l R' rv
      | nx => exact fun w' H' σ' l R' => fin_ok e w' H' σ' .non l R' .non
/-- a def of the text that keeps such a promise, by its name -/
structure FnP (P : Program) (wd : World) (K : PySem.W.Frag) (mg : Str → Option Value) (base : Heap) (x : Str) (n k : Nat) (F : Pf) : Prop where
  ex : ∃ (f : Addr) (fd : FuncData) (ps : List Str), ps.length = n ∧ mg x = some (.ref f) ∧ PySem.W.keepIn K (.ref f) = true ∧ Binds K fd ps [] ∧ FnOk P wd K mg base CX0 k f fd ps (SpP K n F)
theorem FnP.mono {P : Program} {wd : World} {K : PySem.W.Frag} {mg : Str → Option Value} {base : Heap} {x : Str} {n j k : Nat} {F : Pf} (h : FnP P wd K mg base x n j F) (l : j ≤ k) : FnP P wd K mg base x n k F :=
  let ⟨f, fd, ps, a, b, c, d, e⟩ := h.ex; ⟨f, fd, ps, a, b, c, d, e.mono l⟩
def callP (n : Nat) (F : Pf) (ds : List D) : M D := fun s => if ds.length = n then match F ds s.vh with
  | some d => .ok d s
  | none => .bad else .bad
theorem de_callP {x : Str} {n k : Nat} {F : Pf} {e : Expr} {es : List Expr} {fs : M (List D)} {p pos : Pos} (h : FnP X.prog X.w X.K X.mg X.base x n k F) (hr : Room k X.A) (ha : DA X W (e :: es) fs) (hg : Gl X x := by rfl) (hdb : (x == ("__debug__" : Str)) = false := by decide)
    (he : starEach (e :: es) X.env = (false, eval e X.env) :: starEach es X.env := by rfl) (hpl : (backTo pos (starEach es X.env)).any (·.1) = false := by rfl) : DE X W (.Call (.Name x p) (e :: es) [] pos) (bnd fs (callP n F)) := by
  obtain ⟨f, fd, ps, hps, hm, hk, hb, G⟩ := h.ex
  obtain ⟨t, q, r⟩ := ha
  refine ⟨_, pe_call G hr hg hm hk hb .nil pass0 q hdb he hpl, fun w H σ s Q R z => ?_⟩
  refine r.bnd R z fun ds s1 w1 H1 vs l1 R1 r1 p1 => ?_
  have p1 : Post X.K W (pD X.K) w1 H1 σ (if ds.length = n then match F ds s1.vh with
    | some d => .ok d s1
    | none => .bad else .bad) Q := p1
  by_cases hl : ds.length = n
  · rw [if_pos hl] at p1
    cases hF : F ds s1.vh with
    | none => rw [hF] at p1; exact p1.elim
    | some d =>
      rw [hF] at p1
      refine ⟨?_, w1, σ, s1, ds, d, R1, ?_, hF, fun w' H' v l R' r' => p1 w' H' v l R' r'⟩
      · rw [List.append_nil, RepL.length r1]; exact hl
      · rw [List.append_nil]; exact r1
  · rw [if_neg hl] at p1; exact p1.elim
end Fx

namespace Fx
open PySem PySem.Spec PyProof.Rows L2
variable {X : Cx} {W : WX}
/-! ### built-in calls -/
def RCal (X : Cx) (r : List V → Hp → VK → Prop) (g : List D → M D) : Prop := ∀ (W : WX) w H σ s vs ds Q, RS X.K w H σ s → RepL X.K w vs ds → Post X.K W (pD X.K) w H σ (g ds s) Q → r vs H Q
def RCalN (X : Cx) (r : List V → Hp → VK → Prop) (g : List D → M Cell) : Prop := ∀ (W : WX) w H σ s vs ds Q, RS X.K w H σ s → RepL X.K w vs ds → Post X.K W (pN X.K) w H σ (g ds s) Q → r vs H Q
section
variable {id : String} {r : List V → Hp → VK → Prop} {x : Str} {e : Expr} {es : List Expr} {fs : M (List D)} {p pos : Pos} {T : String}
theorem de_callB {g : List D → M D} (hc : CallR X (.builtin id) r) (hr : RCal X r g) (hm : X.mg x = none) (ha : DA X W (e :: es) fs) (hv : bootBuiltins x = some (.builtin id)) (hg : Gl X x := by rfl) (hn : x ≠ "__name__" := by decide) (hdb : (x == ("__debug__" : Str)) = false := by decide)
    (he : starEach (e :: es) X.env = (false, eval e X.env) :: starEach es X.env := by rfl) (hpl : (backTo pos (starEach es X.env)).any (·.1) = false := by rfl) : DE X W (.Call (.Name x p) (e :: es) [] pos) (bnd fs g) := by
  obtain ⟨t, q, k⟩ := ha
  refine ⟨_, pe_callB hc hg hm hv q hn hdb he hpl, fun w H σ s Q R z => ?_⟩
  exact k.bnd R z fun ds s1 w1 H1 vs l1 R1 r1 p1 => hr W w1 H1 σ s1 vs ds Q R1 r1 p1
theorem dn_callB {g : List D → M Cell} (hc : CallR X (.builtin id) r) (hr : RCalN X r g) (hm : X.mg x = none) (ha : DA X W (e :: es) fs) (hv : bootBuiltins x = some (.builtin id)) (hg : Gl X x := by rfl) (hn : x ≠ "__name__" := by decide) (hdb : (x == ("__debug__" : Str)) = false := by decide)
    (he : starEach (e :: es) X.env = (false, eval e X.env) :: starEach es X.env := by rfl) (hpl : (backTo pos (starEach es X.env)).any (·.1) = false := by rfl) : DN X W (.Call (.Name x p) (e :: es) [] pos) (bnd fs g) := by
  obtain ⟨t, q, k⟩ := ha
  refine ⟨_, pe_callB hc hg hm hv q hn hdb he hpl, fun w H σ s Q R z => ?_⟩
  exact k.bnd R z fun ds s1 w1 H1 vs l1 R1 r1 p1 => hr W w1 H1 σ s1 vs ds Q R1 r1 p1
theorem de_callT {g : List D → M D} (hc : CallR X (.type T) r) (hr : RCal X r g) (hm : X.mg x = none) (ha : DA X W (e :: es) fs) (hv : bootBuiltins x = some (.type T)) (hg : Gl X x := by rfl) (hn : x ≠ "__name__" := by decide) (hdb : (x == ("__debug__" : Str)) = false := by decide)
    (he : starEach (e :: es) X.env = (false, eval e X.env) :: starEach es X.env := by rfl) (hpl : (backTo pos (starEach es X.env)).any (·.1) = false := by rfl) : DE X W (.Call (.Name x p) (e :: es) [] pos) (bnd fs g) := by
  obtain ⟨t, q, k⟩ := ha
  refine ⟨_, pe_callTy hc hg hm hv q hn hdb he hpl, fun w H σ s Q R z => ?_⟩
  exact k.bnd R z fun ds s1 w1 H1 vs l1 R1 r1 p1 => hr W w1 H1 σ s1 vs ds Q R1 r1 p1
theorem dn_callT {g : List D → M Cell} (hc : CallR X (.type T) r) (hr : RCalN X r g) (hm : X.mg x = none) (ha : DA X W (e :: es) fs) (hv : bootBuiltins x = some (.type T)) (hg : Gl X x := by rfl) (hn : x ≠ "__name__" := by decide) (hdb : (x == ("__debug__" : Str)) = false := by decide)
    (he : starEach (e :: es) X.env = (false, eval e X.env) :: starEach es X.env := by rfl) (hpl : (backTo pos (starEach es X.env)).any (·.1) = false := by rfl) : DN X W (.Call (.Name x p) (e :: es) [] pos) (bnd fs g) := by
  obtain ⟨t, q, k⟩ := ha
  refine ⟨_, pe_callTy hc hg hm hv q hn hdb he hpl, fun w H σ s Q R z => ?_⟩
  exact k.bnd R z fun ds s1 w1 H1 vs l1 R1 r1 p1 => hr W w1 H1 σ s1 vs ds Q R1 r1 p1
end
theorem one_of {K : PySem.W.Frag} {w : Wd} {vs : List V} {d : D} (r : RepL K w vs [d]) : ∃ v, vs = [v] ∧ Rep K w v d := by
  cases r with | cons h t => cases t; exact ⟨_, rfl, h⟩
theorem two_of {K : PySem.W.Frag} {w : Wd} {vs : List V} {d e : D} (r : RepL K w vs [d, e]) : ∃ v u, vs = [v, u] ∧ Rep K w v d ∧ Rep K w u e := by
  cases r with | cons h t => cases t with | cons h2 t2 => cases t2; exact ⟨_, _, rfl, h, h2⟩
/-! len -/
def lenM : List D → M D
  | [d] => fun s => match d with
    | .str x => if lenOk x.length = true then .ok (.int x.length) s else .bad
    | .tup ds => .ok (.int ds.length) s
    | d => match lstOf s d with
      | some ds => .ok (.int ds.length) s
      | none => match dctOf s d with
        | some kvs => .ok (.int kvs.length) s
        | none => .bad
  | _ => fail
theorem callR_or {f : Value} {r1 r2 : List V → Hp → VK → Prop} (h1 : CallR X f r1) (h2 : CallR X f r2) : CallR X f (fun xs H Q => r1 xs H Q ∨ r2 xs H Q) := by
  intro pins s σ H xs us Q I r h
  rcases h with h | h
  · exact h1 pins s σ H xs us Q I r h
  · exact h2 pins s σ H xs us Q I r h
theorem RepK.length {K : PySem.W.Frag} {w : Wd} : ∀ {vs : List (Key × V)} {ds : List (Key × D)}, RepK K w vs ds → vs.length = ds.length
  | _, _, .nil => rfl
  | _, _, .cons _ t => by simp only [List.length_cons]; rw [RepK.length t]
theorem rc_len : RCal X (fun xs H Q => (∃ x n, xs = [x] ∧ LenV X.K x H n ∧ Q (.int n) H) ∨ ∃ a kvs, xs = [V.ref a] ∧ H a = some (.dK kvs) ∧ Q (.int kvs.length) H) lenM := by
  intro W w H σ s vs ds Q R r p
  unfold lenM at p
  split at p
  · next d =>
    obtain ⟨v, rfl, rv⟩ := one_of r
    split at p
    · next x =>
      split at p
      · next k => cases rv; exact .inl ⟨_, _, rfl, ⟨of_decide_eq_true k, rfl⟩, Post.here p R (Rep.int _)⟩
      · exact p.elim
    · next es =>
      obtain ⟨a, us, rfl, h1, h2⟩ := R.tuple rv (ds := es) rfl
      refine .inl ⟨_, us.length, rfl, .inr ⟨us, h1, rfl⟩, ?_⟩
      rw [RepL.length h2]; exact Post.here p R (Rep.int _)
    · split at p
      · next es he =>
        obtain ⟨a, us, rfl, h1, h2⟩ := R.list rv he
        refine .inl ⟨_, us.length, rfl, .inl ⟨us, h1, rfl⟩, ?_⟩
        rw [RepL.length h2]; exact Post.here p R (Rep.int _)
      · split at p
        · next kvs he =>
          obtain ⟨a, us, rfl, h1, h2⟩ := R.dict rv he
          refine .inr ⟨_, us, rfl, h1, ?_⟩
          rw [RepK.length h2]; exact Post.here p R (Rep.int _)
        · exact p.elim
  · exact p.elim
theorem de_len {e : Expr} {fs : M (List D)} {p pos : Pos} (hm : X.mg "len" = none) (ha : DA X W [e] fs) (hg : Gl X "len" := by rfl) (he : starEach [e] X.env = (false, eval e X.env) :: starEach [] X.env := by rfl) (hpl : (backTo pos (starEach [] X.env)).any (·.1) = false := by rfl) :
    DE X W (.Call (.Name "len" p) [e] [] pos) (bnd fs lenM) := de_callB (callR_or call_len call_lenD) rc_len hm ha PySem.boot_len hg (by decide) (by decide) he hpl
/-! isinstance of a built-in class -/
def tyName (s : S) : D → Option String
  | .non => some "NoneType"
  | .bl _ => some "bool"
  | .int _ => some "int"
  | .str _ => some "str"
  | .tup _ => some "tuple"
  | .lst _ => some "list"
  | .cell n => match s.vh[n]? with
    | some (.lst _) => some "list"
    | some (.dct _) => some "dict"
    | some (.obj _ _) => none
    | some (.dctL _ _ _) => none
    | some (.dctN _ _) => none
    | none => none
  | .ref _ => none
  | .pr _ _ => none
def isaT (T a : String) : Bool := (a == T) || (T == "int" && a == "bool")
def isaM (T : String) (d : D) : M D := fun s => match tyName s d with
  | some a => .ok (.bl (isaT T a)) s
  | none => .bad
theorem tyx_of {K : PySem.W.Frag} {w : Wd} {H : Hp} {σ : L2.St} {s : S} {v : V} {d : D} {a : String} (R : RS K w H σ s) (r : Rep K w v d) (h : tyName s d = some a) : TyX K H v (.type a) := by
  cases r with
  | non => cases h; exact .base .non
  | bl b => cases h; exact .base (.bl b)
  | int i => cases h; exact .base (.int i)
  | str x => cases h; exact .base (.str x)
  | ref a => cases h
  | pr _ _ _ => cases h
  | tup h1 t =>
    cases h
    rcases sqT_up R.sub h1.sq with (h2 | ⟨o, h2⟩) | ⟨o, its, n, h2, h3, _⟩
    · exact .base (.tup h2)
    · exact .fTuple h2
    · exact .kTuple h2 h3
  | lst h1 t =>
    cases h
    rcases sqL_up R.sub h1 with (h2 | ⟨o, h2⟩) | ⟨o, its, n, h2, h3, _⟩
    · exact .base (.lst h2)
    · exact .base (.frz h2)
    · exact .kList h2 h3
  | cell h1 =>
    obtain ⟨c, e, hc⟩ := R.cellOf h1
    unfold tyName at h
    simp only [e] at h
    cases c with
    | lst ds => simp at h; subst h; obtain ⟨vs, h2, _⟩ := hc; exact .base (.lst h2)
    | dct ds => simp at h; subst h; obtain ⟨vs, h2, _⟩ := hc; exact .base (.dK h2)
    | obj _ _ => simp at h
    | dctL _ _ _ => simp at h
    | dctN _ _ => simp at h
def sixT : List String := ["int", "bool", "str", "tuple", "list", "dict"]
def sevA : List String := ["NoneType", "bool", "int", "str", "tuple", "list", "dict"]
theorem kit_all : ∀ T ∈ sixT, ∀ a ∈ sevA, kitB a T = some (isaT T a) := by decide +kernel
theorem tyName_in {s : S} {d : D} {a : String} (h : tyName s d = some a) : a ∈ sevA := by
  unfold tyName at h
  split at h <;> first
    | (cases h; decide)
    | (split at h <;> first | (cases h; decide) | cases h)
    | cases h
theorem de_isa (T : String) {e : Expr} {f : M D} {p p2 pos : Pos} (hi : X.mg "isinstance" = none) (hm : X.mg (Str.ofString T) = none) (h : DE X W e f) (hv : bootBuiltins (Str.ofString T) = some (.type T)) (hT : T ∈ sixT := by decide) (hg : Gl X "isinstance" := by rfl) (hg2 : Gl X (Str.ofString T) := by rfl)
    (hn : Str.ofString T ≠ "__name__" := by decide) (hd : (Str.ofString T == ("__debug__" : Str)) = false := by decide)
    (hst : starEach [e, .Name (Str.ofString T) p2] X.env = (false, eval e X.env) :: starEach [.Name (Str.ofString T) p2] X.env := by rfl) (hst2 : starEach [.Name (Str.ofString T) p2] X.env = (false, eval (.Name (Str.ofString T) p2) X.env) :: starEach [] X.env := by rfl)
    (hpl : (backTo pos (starEach [.Name (Str.ofString T) p2] X.env)).any (·.1) = false := by rfl) :
    DE X W (.Call (.Name "isinstance" p) [e, .Name (Str.ofString T) p2] [] pos) (bnd f (isaM T)) := by
  obtain ⟨t, q, k⟩ := h
  refine ⟨_, pe_callB call_isi hg hi (by decide +kernel) (pa_cons q (pa_cons (pe_bltn (v := .ty T) hg2 hm hv rfl hn hd) pa_nil hst2) hst) (by decide) (by decide) hst hpl, fun w H σ s Q R z => ?_⟩
  refine k.bnd R z fun d s1 w1 H1 v l1 R1 r1 p1 => ?_
  have p1 : Post X.K W (pD X.K) w1 H1 σ (match tyName s1 d with
    | some a => .ok (.bl (isaT T a)) s1
    | none => .bad) Q := p1
  cases ht : tyName s1 d with
  | none => rw [ht] at p1; exact p1.elim
  | some a =>
    rw [ht] at p1
    exact ⟨v, .ty T, .type a, .type T, isaT T a, rfl, .ty T, tyx_of R1 r1 ht, kit_ty (kit_all T hT a (tyName_in ht)), Post.here p1 R1 (Rep.bl _)⟩
/-! ### + -/
def addM : D → D → M D
  | .int i, .int j => ret (.int (i + j))
  | .str a, .str b => if lenOk (a.length + b.length) = true then ret (.str (a ++ b)) else fail
  | .tup a, .tup b => if lenOk (a.length + b.length) = true then ret (.tup (a ++ b)) else fail
  | d, e => fun s => match lstOf s d, lstOf s e with
    | some xs, some ys => if lenOk (xs.length + ys.length) = true then .ok (.lst (xs ++ ys)) s else .bad
    | _, _ => .bad
def catN : D → D → M Cell := fun d e s => match lstOf s d, lstOf s e with
  | some xs, some ys => if lenOk (xs.length + ys.length) = true then .ok (.lst (xs ++ ys)) s else .bad
  | _, _ => .bad
def rCatR (K : PySem.W.Frag) : R2 := fun x y H Q => ∃ l b xs zs, x = .ref l ∧ y = .ref b ∧ SqL K H l xs ∧ SqL K H b zs ∧ xs.length + zs.length ≤ sizeLine ∧ ∀ p, H p = none → Q (.ref p) (upd H p (.lst (xs ++ zs)))
theorem op_catR : OpR X (binaryOp .Add) (rCatR X.K) := by
  intro pins s σ H x y v u Q I rx ry h
  obtain ⟨l, b, xs, zs, rfl, rfl, hH, hB, hz, q⟩ := h
  cases rx
  cases ry
  obtain ⟨its, r, ⟨⟨cls, dd, data, sl⟩, n, ho, hc, hdd, hd⟩, _⟩ := I.list hH
  obtain ⟨its2, r2, ⟨⟨cls2, dd2, data2, sl2⟩, n2, ho2, hc2, hdd2, hd2⟩, _⟩ := I.list hB
  simp only at hc hd hc2 hd2
  subst hc hd hc2 hd2
  have hl := r.length
  have hl2 := r2.length
  refine concat_meets ⟨_, ho, rfl⟩ ⟨_, ho2, rfl⟩ noFill_list_add seq_list_add PySem.F.slot_list_add PySem.F.entry_list_add (PySem.F.args_list_add_2 _ _) (list_addW l b its.toArray its2.toArray n n2 dd dd2 sl sl2 (by rw [List.size_toArray, List.size_toArray]; omega)) ⟨ho, ho2, ?_⟩
  have ea : its.toArray ++ its2.toArray = (its ++ its2).toArray := by simp
  rw [ea]
  exact ⟨.ref _, _, I.lnew (t' := s.toks) (r.append r2) (by rw [List.length_append]; omega), rfl, q _ I.fresh⟩
/-- t + u, tuples: where one is empty it is the other one, else a new one -/
def rCatTC (K : PySem.W.Frag) : R2 := fun x y H Q => ∃ a b xs ys, x = .ref a ∧ y = .ref b ∧ SqT K H a xs ∧ SqT K H b ys ∧ xs.length + ys.length ≤ sizeLine ∧
  (xs = [] → Q (.ref b) H) ∧ (ys = [] → Q (.ref a) H) ∧ ∀ (p : Addr) (o : Obj), o.dict = none → H p = none → Q (.ref p) (upd H p (.frz o (.tup (xs ++ ys))))
theorem op_catTC : OpR X (binaryOp .Add) (rCatTC X.K) := by
  intro pins s σ H x y v u Q I rx ry h
  obtain ⟨a, b, xs, ys, rfl, rfl, ha, hb, hz, q0, q1, q2⟩ := h
  cases rx
  cases ry
  obtain ⟨its, r1, p1, _⟩ := I.tuple ha
  obtain ⟨its2, r2, p2, _⟩ := I.tuple hb
  by_cases hx : xs = []
  · subst hx
    cases r1
    exact cat_tup0 p1 p2 ⟨.ref b, H, I, rfl, q0 rfl⟩
  · refine HT.cat_tup p1 p2 (fun z => hx ?_) (fun z => ⟨.ref a, H, I, rfl, q1 ?_⟩) (fun z => ?_) ?_
    · subst z; cases r1; rfl
    · subst z; cases r2; rfl
    · have hd : ({ cls := .type "tuple", data := .seq (its ++ its2).toArray } : Obj).dict = none := rfl
      obtain ⟨ob, hob⟩ : ∃ ob : Obj, ob = { cls := .type "tuple", data := .seq (its ++ its2).toArray } := ⟨_, rfl⟩
      rw [← hob] at hd ⊢
      have hg : (s.heap.push ob).get? s.heap.objs.size = some ob := Heap.get?_push_size _ (by rw [hob]; rfl)
      exact ⟨.ref s.heap.objs.size, _, I.laid (t' := s.toks) (o := .frz ob (.tup (xs ++ ys))) (fun b ob k => Heap.get?_push_of_some _ k) (Nat.le_refl _)
        ⟨hg, by rw [List.length_append]; exact hz, _, r1.append r2, ⟨_, hg, by rw [hob], _, by rw [hob]⟩⟩, rfl, q2 _ _ hd (I.hok.fresh (Nat.le_refl _))⟩
    · rw [← r1.length, ← r2.length]; exact hz
theorem de_add {a b : Expr} {fa fb : M D} {pos : Pos} (ha : DE X W a fa) (hb : DE X W b fb) : DE X W (.BinOp a .Add b pos) (bnd fa fun d => bnd fb fun e => addM d e) :=
  de_op (opr_or op_add (opr_or op_add_str (opr_or op_catTC op_catR))) (fun W w H σ s x y d e Q R rx ry p => by
    unfold addM at p
    split at p
    · cases rx; cases ry; exact .inl ⟨_, _, rfl, rfl, Post.here p R (Rep.int _)⟩
    · cases rx; cases ry
      split at p
      · next k => exact .inr (.inl ⟨_, _, rfl, rfl, of_decide_eq_true k, Post.here p R (Rep.str _)⟩)
      · exact p.elim
    · next ds es =>
      split at p
      · next k =>
        obtain ⟨l, vs, rfl, h1, h2⟩ := R.tuple rx (ds := ds) rfl
        obtain ⟨b, us, rfl, h3, h4⟩ := R.tuple ry (ds := es) rfl
        have hk : ds.length + es.length ≤ sizeLine := of_decide_eq_true k
        refine .inr (.inr (.inl ⟨l, b, vs, us, rfl, rfl, h1, h3, by rw [RepL.length h2, RepL.length h4]; exact hk, fun z => ?_, fun z => ?_, fun q o ho hq => ?_⟩))
        · subst z
          cases h2
          exact Post.here p R ry
        · subst z
          cases h4
          rw [List.append_nil] at p
          exact Post.here p R rx
        · obtain ⟨l3, R3, r3⟩ := R.newT hq (RepL.append h2 h4) ho
          exact p _ _ _ l3 R3 r3
      · exact p.elim
    · dsimp only at p
      split at p
      · next xs ys hx hy =>
        split at p
        · next k =>
          obtain ⟨l, vs, rfl, h1, h2⟩ := R.list rx hx
          obtain ⟨b, us, rfl, h3, h4⟩ := R.list ry hy
          have hk : xs.length + ys.length ≤ sizeLine := of_decide_eq_true k
          refine .inr (.inr (.inr ⟨l, b, vs, us, rfl, rfl, h1, h3, by rw [RepL.length h2, RepL.length h4]; exact hk, fun q hq => ?_⟩))
          obtain ⟨l3, R3, r3⟩ := R.newL hq (RepL.append h2 h4)
          exact p _ _ _ l3 R3 r3
        · exact p.elim
      · exact p.elim) ha hb
theorem dn_cat {a b : Expr} {fa fb : M D} {pos : Pos} (ha : DE X W a fa) (hb : DE X W b fb) : DN X W (.BinOp a .Add b pos) (bnd fa fun d => bnd fb fun e => catN d e) := by
  obtain ⟨ta, pa, ra⟩ := ha
  obtain ⟨tb, pb, rb⟩ := hb
  refine ⟨tOp (rCatR X.K) ta tb, pe_op op_catR pa pb, fun w H σ s Q R p => ?_⟩
  refine ra.bnd R p fun d s1 w1 H1 v1 l1 R1 r1 p1 => ?_
  refine rb.bnd R1 p1 fun e s2 w2 H2 v2 l2 R2 r2 p2 => ?_
  unfold catN at p2
  split at p2
  · next xs ys hx hy =>
    split at p2
    · next k =>
      obtain ⟨l, vs, rfl, h1, h2⟩ := R2.list (Rep.up l2 r1) hx
      obtain ⟨b, us, rfl, h3, h4⟩ := R2.list r2 hy
      have hk : xs.length + ys.length ≤ sizeLine := of_decide_eq_true k
      refine ⟨l, b, vs, us, rfl, rfl, h1, h3, by rw [RepL.length h2, RepL.length h4]; exact hk, fun p hp => ?_⟩
      exact p2 w2 _ _ (Le.laid hp) (R2.laid hp) ⟨p, rfl, (R2.fresh hp).1, (R2.fresh hp).2, ⟨_, upd_same, RepL.append h2 h4⟩, hp⟩
    · exact p2.elim
  · exact p2.elim
/-! ### comparisons -/
def isNonM : D → M D
  | .non => ret (.bl true)
  | _ => ret (.bl false)
def notNonM : D → M D
  | .non => ret (.bl false)
  | _ => ret (.bl true)
theorem non_of {K : PySem.W.Frag} {w : Wd} {v : V} {d : D} (r : Rep K w v d) : decide (v = V.non) = (match d with | .non => true | _ => false) := by
  cases r <;> simp
theorem rop_isN : ROp X (fun x y H Q => y = .non ∧ Q (.bl (decide (x = .non))) H) (fun d e => match e with | .non => isNonM d | _ => fail) := by
  intro W w H σ s x y d e Q R rx ry p
  cases ry with
  | non =>
    refine ⟨rfl, ?_⟩
    rw [non_of rx]
    cases d <;> exact Post.here p R (Rep.bl _)
  | _ => exact p.elim
theorem rop_notN : ROp X (fun x y H Q => y = .non ∧ Q (.bl (!decide (x = .non))) H) (fun d e => match e with | .non => notNonM d | _ => fail) := by
  intro W w H σ s x y d e Q R rx ry p
  cases ry with
  | non =>
    refine ⟨rfl, ?_⟩
    rw [non_of rx]
    cases d <;> exact Post.here p R (Rep.bl _)
  | _ => exact p.elim
/-! what == sees -/
mutual
def pyT : D → Option PyData
  | .non => some .none
  | .bl b => some (.bool b)
  | .int i => some (.int i)
  | .str x => some (.str x)
  | .tup xs => (pyL xs).map .tuple
  | .lst xs => (pyL xs).map .list
  | _ => none
def pyL : List D → Option (List PyData)
  | [] => some []
  | x :: xs => match pyT x, pyL xs with
    | some y, some ys => some (y :: ys)
    | _, _ => none
end
def pyD (s : S) (d : D) : Option PyData := match d with
  | .cell n => match s.vh[n]? with
    | some (.lst xs) => (pyL xs).map .list
    | _ => none
  | d => pyT d
mutual
theorem dp_of {K : PySem.W.Frag} {w : Wd} {H : Hp} (sub : ∀ a o, w.F a = some o → H a = some o) : ∀ {v : V} {d : D} {q : PyData}, Rep K w v d → pyT d = some q → Dp K H v q
  | _, _, _, .non, e => by cases e; exact .non
  | _, _, _, .bl b, e => by cases e; exact .bl b
  | _, _, _, .int i, e => by cases e; exact .int i
  | _, _, _, .str x, e => by cases e; exact .str x
  | _, _, _, .ref a, e => by cases e
  | _, _, _, .pr _ _ _, e => by cases e
  | _, _, _, .cell h, e => by cases e
  | _, _, _, .tup (ds := ds) h t, e => by
    unfold pyT at e
    cases q : pyL ds with
    | none => rw [q] at e; cases e
    | some qs => rw [q] at e; cases e; exact .tup (sqT_up sub h.sq) (dpL_of sub t q)
  | _, _, _, .lst (ds := ds) h t, e => by
    unfold pyT at e
    cases q : pyL ds with
    | none => rw [q] at e; cases e
    | some qs => rw [q] at e; cases e; exact .lst (sqL_up sub h) (dpL_of sub t q)
theorem dpL_of {K : PySem.W.Frag} {w : Wd} {H : Hp} (sub : ∀ a o, w.F a = some o → H a = some o) : ∀ {vs : List V} {ds : List D} {qs : List PyData}, RepL K w vs ds → pyL ds = some qs → DpAll K H vs qs
  | _, _, _, .nil, e => by cases e; exact .nil
  | _, _, _, .cons (d := d) (ds := ds) h t, e => by
    unfold pyL at e
    cases h1 : pyT d with
    | none => rw [h1] at e; cases e
    | some y =>
      cases h2 : pyL ds with
      | none => rw [h1, h2] at e; cases e
      | some ys => rw [h1, h2] at e; cases e; exact .cons (dp_of sub h h1) (dpL_of sub t h2)
end
theorem RS.py {K : PySem.W.Frag} {w : Wd} {H : Hp} {σ : L2.St} {s : S} {v : V} {d : D} {q : PyData} (R : RS K w H σ s) (r : Rep K w v d) (h : pyD s d = some q) : Dp K H v q := by
  cases r with
  | @cell a n h1 =>
    obtain ⟨c, e, hc⟩ := R.cellOf h1
    unfold pyD at h
    simp only [e] at h
    cases c with
    | dct _ => simp at h
    | obj _ _ => simp at h
    | dctL _ _ _ => simp at h
    | dctN _ _ => simp at h
    | lst ds =>
      dsimp only at h
      cases h2 : pyL ds with
      | none => rw [h2] at h; cases h
      | some ys =>
        rw [h2] at h; cases h
        obtain ⟨vs, h3, h4⟩ := hc
        exact .lst (SqL.of h3) (dpL_of R.sub h4 h2)
  | non => exact dp_of R.sub .non h
  | bl b => exact dp_of R.sub (.bl b) h
  | int i => exact dp_of R.sub (.int i) h
  | str x => exact dp_of R.sub (.str x) h
  | ref a => exact dp_of R.sub (.ref a) h
  | pr _ _ _ => cases h
  | tup h1 t => exact dp_of R.sub (.tup h1 t) h
  | lst h1 t => exact dp_of R.sub (.lst h1 t) h
def eqD (d e : D) : M D := fun s => match pyD s d, pyD s e with
  | some p, some q => if (SeqAt.shaped p && SeqAt.shaped q) = true then .ok (.bl (PyData.eqv p q)) s else .bad
  | _, _ => .bad
def neD (d e : D) : M D := fun s => match pyD s d, pyD s e with
  | some p, some q => if (SeqAt.shaped p && SeqAt.shaped q) = true then .ok (.bl (!PyData.eqv p q)) s else .bad
  | _, _ => .bad
def eqM : D → D → M D
  | .str a, .str b => ret (.bl (decide (a = b)))
  | d, e => eqD d e
def neM : D → D → M D
  | .str a, .str b => ret (.bl (!decide (a = b)))
  | d, e => neD d e
theorem rop_eqD : ROp X (rEqD X.K) eqD := by
  intro W w H σ s x y d e Q R rx ry p
  unfold eqD at p
  split at p
  · next p1 q1 h1 h2 =>
    split at p
    · next k =>
      rw [Bool.and_eq_true] at k
      exact ⟨p1, q1, R.py rx h1, R.py ry h2, k.1, k.2, Post.here p R (Rep.bl _)⟩
    · exact p.elim
  · exact p.elim
theorem rop_neD : ROp X (rNeD X.K) neD := by
  intro W w H σ s x y d e Q R rx ry p
  unfold neD at p
  split at p
  · next p1 q1 h1 h2 =>
    split at p
    · next k =>
      rw [Bool.and_eq_true] at k
      exact ⟨p1, q1, R.py rx h1, R.py ry h2, k.1, k.2, Post.here p R (Rep.bl _)⟩
    · exact p.elim
  · exact p.elim
theorem rop_eq : ROp X (fun x y H Q => rEq x y H Q ∨ rEqD X.K x y H Q) eqM := by
  intro W w H σ s x y d e Q R rx ry p
  unfold eqM at p
  split at p
  · next a b =>
    cases rx; cases ry
    refine .inl ⟨rfl, ?_⟩
    have e : decide (V.str a = V.str b) = decide (a = b) := by
      by_cases h : a = b
      · subst h; simp
      · rw [decide_eq_false h]
        exact decide_eq_false fun z => h (V.str.inj z)
    rw [e]
    exact Post.here p R (Rep.bl _)
  · exact .inr (rop_eqD W w H σ s x y d e Q R rx ry p)
theorem rop_ne : ROp X (fun x y H Q => rNe x y H Q ∨ rNeD X.K x y H Q) neM := by
  intro W w H σ s x y d e Q R rx ry p
  unfold neM at p
  split at p
  · next a b =>
    cases rx; cases ry
    refine .inl ⟨rfl, ?_⟩
    have e : decide (V.str a = V.str b) = decide (a = b) := by
      by_cases h : a = b
      · subst h; simp
      · rw [decide_eq_false h]
        exact decide_eq_false fun z => h (V.str.inj z)
    rw [e]
    exact Post.here p R (Rep.bl _)
  · exact .inr (rop_neD W w H σ s x y d e Q R rx ry p)
theorem op_eqA (hu : X.A.units + 64 < cLine) : OpR X (compareOp .Eq) (fun x y H Q => rEq x y H Q ∨ rEqD X.K x y H Q) := opr_or op_eq (op_eqD hu)
theorem op_neA (hu : X.A.units + 64 < cLine) : OpR X (compareOp .NotEq) (fun x y H Q => rNe x y H Q ∨ rNeD X.K x y H Q) := opr_or op_ne (op_neD hu)
theorem units_of {A : Around} {k : Nat} (hr : Room k A) : A.units + 64 < cLine := by have := hr.un; omega
def ltM : D → D → M D
  | .int i, .int j => ret (.bl (decide (i < j)))
  | .str a, .str b => ret (.bl (decide (a.cps.toList < b.cps.toList)))
  | _, _ => fail
theorem rop_lt : ROp X (fun x y H Q => rI0 (fun i j => .bl (decide (i < j))) x y H Q ∨ ∃ i j, x = .str i ∧ y = .str j ∧ Q (.bl (decide (i.cps.toList < j.cps.toList))) H) ltM := by
  intro W w H σ s x y d e Q R rx ry p
  unfold ltM at p
  split at p
  · cases rx; cases ry; exact .inl ⟨_, _, rfl, rfl, Post.here p R (Rep.bl _)⟩
  · cases rx; cases ry; exact .inr ⟨_, _, rfl, rfl, Post.here p R (Rep.bl _)⟩
  · exact p.elim
def leM : D → D → M D := i2 fun i j => .bl (decide (i ≤ j))
def gtM : D → D → M D := i2 fun i j => .bl (decide (j < i))
def geM : D → D → M D := i2 fun i j => .bl (decide (j ≤ i))
theorem rop_le : ROp X (rI0 fun i j => .bl (decide (i ≤ j))) leM := rop_i2 fun _ _ _ => .bl _
theorem rop_gt : ROp X (rI0 fun i j => .bl (decide (j < i))) gtM := rop_i2 fun _ _ _ => .bl _
theorem rop_ge : ROp X (rI0 fun i j => .bl (decide (j ≤ i))) geM := rop_i2 fun _ _ _ => .bl _
end Fx

namespace Fx
open PySem PySem.Spec PyProof.Rows L2
variable {X : Cx} {W : WX}
abbrev bin (op : D → D → M D) (a b : M D) : M D := bnd a fun d => bnd b fun e => op d e
abbrev tst (a : M D) : M Bool := bnd a asB
/-! ### a[i] -/
def ixM : D → D → M D := fun d e s => match e with
  | .int i => match d with
    | .str x => if lenOk x.length = true then (match atI x.cps.toList i with
      | some c => .ok (.str ⟨#[c]⟩) s
      | none => .bad) else .bad
    | .tup ds => match atI ds i with
      | some y => .ok y s
      | none => .bad
    | d => match lstOf s d with
      | some ds => match atI ds i with
        | some y => .ok y s
        | none => .bad
      | none => .bad
  | _ => .bad
theorem RepL.at {K : PySem.W.Frag} {w : Wd} {vs : List V} {ds : List D} {i : Int} {d : D} (r : RepL K w vs ds) (h : atI ds i = some d) : ∃ v, atI vs i = some v ∧ Rep K w v d := by
  unfold atI at h ⊢
  rw [RepL.length r]
  cases e : ixN ds.length i with
  | none => rw [e] at h; cases h
  | some j =>
    rw [e] at h
    exact RepL.get r h
theorem rop_ix : ROp X (rIx X.K) ixM := by
  intro W w H σ s x y d e Q R rx ry p
  unfold ixM at p
  split at p
  · next i =>
    cases ry
    split at p
    · next z =>
      cases rx
      split at p
      · next k =>
        split at p
        · next c hc => exact .inr (.inr ⟨z, i, c, rfl, rfl, of_decide_eq_true k, hc, Post.here p R (Rep.str _)⟩)
        · exact p.elim
      · exact p.elim
    · next ds =>
      split at p
      · next y hy =>
        obtain ⟨a, us, rfl, h1, h2⟩ := R.tuple rx (ds := ds) rfl
        obtain ⟨v, hv, rv⟩ := RepL.at h2 hy
        exact .inr (.inl ⟨a, us, i, v, rfl, rfl, h1, hv, Post.here p R rv⟩)
      · exact p.elim
    · split at p
      · next ds hd =>
        split at p
        · next y hy =>
          obtain ⟨a, us, rfl, h1, h2⟩ := R.list rx hd
          obtain ⟨v, hv, rv⟩ := RepL.at h2 hy
          exact .inl ⟨a, us, i, v, rfl, rfl, h1, hv, Post.here p R rv⟩
        · exact p.elim
      · exact p.elim
  · exact p.elim
theorem de_ix {a b : Expr} {fa fb : M D} {pos : Pos} (ha : DE X W a fa) (hb : DE X W b fb) (hs : PlainIx b := by exact fun _ _ => rfl) : DE X W (.Subscript a b pos) (bin ixM fa fb) := by
  obtain ⟨ta, pa, ra⟩ := ha
  obtain ⟨tb, pb, rb⟩ := hb
  refine ⟨_, pe_ix ix_seq pa pb hs, fun w H σ s Q R p => ?_⟩
  refine ra.bnd R p fun d s1 w1 H1 v1 l1 R1 r1 p1 => ?_
  refine rb.bnd R1 p1 fun e s2 w2 H2 v2 l2 R2 r2 p2 => ?_
  exact rop_ix W w2 H2 σ s2 v1 v2 d e Q R2 (Rep.up l2 r1) r2 p2
/-! ### slices -/
def DO (X : Cx) (W : WX) (e : Option Expr) (f : M (Option Int)) : Prop := ∃ t, PO X e t ∧ Fol X.K W (⟨fun _ _ _ a b => a = b, fun _ _ _ _ _ _ _ _ _ _ h => h⟩ : Pr (Option Int) (Option Int)) t f
def partM (f : M D) : M (Option Int) := bnd f fun d => match d with
  | .int i => ret (some i)
  | _ => fail
theorem do_none : DO X W none (ret none) := ⟨_, po_none, fun w H σ s Q R p => Post.here p R rfl⟩
theorem do_some {e : Expr} {f : M D} (h : DE X W e f) : DO X W (some e) (partM f) := by
  obtain ⟨t, p, r⟩ := h
  refine ⟨_, po_some p, fun w H σ s Q R z => ?_⟩
  refine r.bnd R z fun d s1 w1 H1 v l1 R1 r1 p1 => ?_
  cases r1 with
  | int i => exact ⟨i, rfl, Post.here p1 R1 rfl⟩
  | _ => exact p1.elim
def cutD (xs : List D) (lo hi : Option Int) : List D := (xs.drop (HT.sIx xs.length 0 lo)).take (HT.sIx xs.length xs.length hi - HT.sIx xs.length 0 lo)
theorem RepL.cut {K : PySem.W.Frag} {w : Wd} {vs : List V} {ds : List D} (r : RepL K w vs ds) (lo hi : Option Int) : RepL K w (cutV vs lo hi) (cutD ds lo hi) := by
  unfold cutV cutD
  rw [RepL.length r]
  exact (r.drop _).take _
/-- of a text -/
def slS (f : M D) (lo hi : M (Option Int)) : M D := bnd f fun d => bnd lo fun l => bnd hi fun u => match d with
  | .str x => if lenOk x.length = true then ret (.str (cutS x l u)) else fail
  | _ => fail
/-- of a list -/
def slL (f : M D) (lo hi : M (Option Int)) : M Cell := bnd f fun d => bnd lo fun l => bnd hi fun u => fun s => match lstOf s d with
  | some ds => .ok (.lst (cutD ds l u)) s
  | none => .bad
section
variable {e : Expr} {lo hi : Option Expr} {f : M D} {fl fh : M (Option Int)} {pos p2 : Pos}
theorem de_slS (h : DE X W e f) (hl : DO X W lo fl) (hh : DO X W hi fh) : DE X W (.Subscript e (.Slice lo hi none p2) pos) (slS f fl fh) := by
  obtain ⟨t, p, r⟩ := h
  obtain ⟨tl, pl, rl⟩ := hl
  obtain ⟨th, ph, rh⟩ := hh
  refine ⟨_, pe_slice sl_str p pl ph, fun w H σ s Q R z => ?_⟩
  refine r.bnd R z fun d s1 w1 H1 v1 l1 R1 r1 p1 => ?_
  refine rl.bnd R1 p1 fun a s2 w2 H2 v2 l2 R2 r2 p2 => ?_
  refine rh.bnd R2 p2 fun b s3 w3 H3 v3 l3 R3 r3 p3 => ?_
  cases r2; cases r3
  cases r1 with
  | str x =>
    dsimp only at p3
    split at p3
    · next k => exact ⟨x, rfl, of_decide_eq_true k, Post.here p3 R3 (Rep.str _)⟩
    · exact p3.elim
  | _ => exact p3.elim
theorem dn_slL (h : DE X W e f) (hl : DO X W lo fl) (hh : DO X W hi fh) : DN X W (.Subscript e (.Slice lo hi none p2) pos) (slL f fl fh) := by
  obtain ⟨t, p, r⟩ := h
  obtain ⟨tl, pl, rl⟩ := hl
  obtain ⟨th, ph, rh⟩ := hh
  refine ⟨_, pe_slice sl_list p pl ph, fun w H σ s Q R z => ?_⟩
  refine r.bnd R z fun d s1 w1 H1 v1 l1 R1 r1 p1 => ?_
  refine rl.bnd R1 p1 fun a s2 w2 H2 v2 l2 R2 r2 p2 => ?_
  refine rh.bnd R2 p2 fun b s3 w3 H3 v3 l3 R3 r3 p3 => ?_
  cases r2; cases r3
  split at p3
  · next ds hd =>
    obtain ⟨a', vs, rfl, h1, h2⟩ := R3.list (Rep.up l3 (Rep.up l2 r1)) hd
    refine ⟨a', vs, rfl, h1, fun q hq => ?_⟩
    exact p3 w3 _ _ (Le.laid hq) (R3.laid hq) ⟨q, rfl, (R3.fresh hq).1, (R3.fresh hq).2, ⟨_, upd_same, h2.cut a b⟩, hq⟩
  · exact p3.elim
end
/-! ### list(..), tuple(..), ord, str of an int, abs, min, max of two -/
def listN : List D → M Cell
  | [d] => fun s => match d with
    | .tup ds => .ok (.lst ds) s
    | d => match lstOf s d with
      | some ds => .ok (.lst ds) s
      | none => .bad
  | _ => fun _ => .bad
theorem rc_list : RCalN X (fun xs H Q => ∃ p ys, xs = [.ref p] ∧ (SqL X.K H p ys ∨ SqT X.K H p ys) ∧ ∀ l, H l = none → Q (.ref l) (upd H l (.lst ys))) listN := by
  intro W w H σ s vs ds Q R r p
  unfold listN at p
  split at p
  · next d =>
    obtain ⟨v, rfl, rv⟩ := one_of r
    split at p
    · next es =>
      obtain ⟨a, us, rfl, h1, h2⟩ := R.tuple rv (ds := es) rfl
      exact ⟨a, us, rfl, .inr h1, fun q hq => p w _ _ (Le.laid hq) (R.laid hq) ⟨q, rfl, (R.fresh hq).1, (R.fresh hq).2, ⟨_, upd_same, h2⟩, hq⟩⟩
    · split at p
      · next es he =>
        obtain ⟨a, us, rfl, h1, h2⟩ := R.list rv he
        exact ⟨a, us, rfl, .inl h1, fun q hq => p w _ _ (Le.laid hq) (R.laid hq) ⟨q, rfl, (R.fresh hq).1, (R.fresh hq).2, ⟨_, upd_same, h2⟩, hq⟩⟩
      · exact p.elim
  · exact p.elim
def tupleM : List D → M D
  | [d] => fun s => match d with
    | .tup ds => .ok (.tup ds) s
    | d => match lstOf s d with
      | some ds => .ok (.tup ds) s
      | none => .bad
  | _ => fun _ => .bad
def rTupC (K : PySem.W.Frag) (xs : List V) (H : Hp) (Q : VK) : Prop := ∃ p ys, xs = [.ref p] ∧ ((SqL K H p ys ∧ ∀ (l : Addr) (o : Obj), o.dict = none → H l = none → Q (.ref l) (upd H l (.frz o (.tup ys)))) ∨ (SqT K H p ys ∧ Q (.ref p) H))
/-- tuple(xs), the new object known -/
theorem call_tupleC : CallR X (.type "tuple") (rTupC X.K) := by
  intro pins s σ H xs us Q I r h
  obtain ⟨p, ys, e, h⟩ := h
  subst e
  obtain ⟨u, e, ru⟩ := vals1 r
  subst e
  cases ru
  rcases h with ⟨hs, q⟩ | ⟨hs, q⟩
  · obtain ⟨its, rv, pl, hz⟩ := I.list hs
    refine call_tuple_list pl.isList (fun h' k => ?_) (by rw [List.size_toArray, ← rv.length]; exact hz)
    have J : Inv X pins σ H { s with heap := h' } := I.kept (t' := s.toks) k
    have hg : (h'.push { cls := .type "tuple", data := .seq its.toArray }).get? h'.objs.size = some { cls := .type "tuple", data := .seq its.toArray } := Heap.get?_push_size _ rfl
    refine ⟨.ref h'.objs.size, _, ?_, rfl, q _ { cls := .type "tuple", data := .seq its.toArray } rfl (J.hok.fresh (Nat.le_refl _))⟩
    exact J.laid (t' := s.toks) (fun b o e => Heap.get?_push_of_some _ e) (Nat.le_refl _) ⟨hg, hz, its, rv, ⟨_, hg, rfl, _, rfl⟩⟩
  · obtain ⟨its, rv, pl, hz⟩ := I.tuple hs
    exact call_tuple_tup pl ⟨.ref p, H, I, rfl, q⟩
theorem rc_tuple : RCal X (rTupC X.K) tupleM := by
  intro W w H σ s vs ds Q R r p
  unfold tupleM at p
  split at p
  · next d =>
    obtain ⟨v, rfl, rv⟩ := one_of r
    split at p
    · next es =>
      obtain ⟨a, us, rfl, h1, h2⟩ := R.tuple rv (ds := es) rfl
      exact ⟨a, us, rfl, .inr ⟨h1, Post.here p R rv⟩⟩
    · split at p
      · next es he =>
        obtain ⟨a, us, rfl, h1, h2⟩ := R.list rv he
        refine ⟨a, us, rfl, .inl ⟨h1, fun q o ho hq => ?_⟩⟩
        obtain ⟨l3, R3, r3⟩ := R.newT hq h2 ho
        exact p _ _ _ l3 R3 r3
      · exact p.elim
  · exact p.elim
def ordM : List D → M D
  | [.str x] => if x.length = 1 then ret (.int (x.cps.getD 0 0 : Nat)) else fail
  | _ => fail
theorem rc_ord : RCal X (fun xs H Q => ∃ x, xs = [.str x] ∧ x.length = 1 ∧ Q (.int (x.cps.getD 0 0 : Nat)) H) ordM := by
  intro W w H σ s vs ds Q R r p
  unfold ordM at p
  split at p
  · next x =>
    obtain ⟨v, rfl, rv⟩ := one_of r
    cases rv
    split at p
    · next k => exact ⟨x, rfl, k, Post.here p R (Rep.int _)⟩
    · exact p.elim
  · exact p.elim
def strM : List D → M D
  | [.int i] => if i.natAbs.log2 < 1920 then ret (.str (toString i)) else fail
  | _ => fail
theorem rc_str : RCal X (fun xs H Q => ∃ i, xs = [.int i] ∧ i.natAbs.log2 < 1920 ∧ Q (.str (toString i)) H) strM := by
  intro W w H σ s vs ds Q R r p
  unfold strM at p
  split at p
  · next x =>
    obtain ⟨v, rfl, rv⟩ := one_of r
    cases rv
    split at p
    · next k => exact ⟨x, rfl, k, Post.here p R (Rep.str _)⟩
    · exact p.elim
  · exact p.elim
def absM : List D → M D
  | [.int i] => ret (.int (if i < 0 then -i else i))
  | _ => fail
theorem rc_abs : RCal X (fun xs H Q => ∃ i, xs = [.int i] ∧ Q (.int (if i < 0 then -i else i)) H) absM := by
  intro W w H σ s vs ds Q R r p
  unfold absM at p
  split at p
  · obtain ⟨v, rfl, rv⟩ := one_of r
    cases rv
    exact ⟨_, rfl, Post.here p R (Rep.int _)⟩
  · exact p.elim
def max2M : List D → M D
  | [.int i, .int j] => ret (.int (if j > i then j else i))
  | _ => fail
def min2M : List D → M D
  | [.int i, .int j] => ret (.int (if j < i then j else i))
  | _ => fail
theorem rc_max2 : RCal X (fun xs H Q => ∃ i j, xs = [.int i, .int j] ∧ Q (.int (if j > i then j else i)) H) max2M := by
  intro W w H σ s vs ds Q R r p
  unfold max2M at p
  split at p
  · obtain ⟨v, u, rfl, rv, ru⟩ := two_of r
    cases rv; cases ru
    exact ⟨_, _, rfl, Post.here p R (Rep.int _)⟩
  · exact p.elim
theorem rc_min2 : RCal X (fun xs H Q => ∃ i j, xs = [.int i, .int j] ∧ Q (.int (if j < i then j else i)) H) min2M := by
  intro W w H σ s vs ds Q R r p
  unfold min2M at p
  split at p
  · obtain ⟨v, u, rfl, rv, ru⟩ := two_of r
    cases rv; cases ru
    exact ⟨_, _, rfl, Post.here p R (Rep.int _)⟩
  · exact p.elim
def negM : D → M D
  | .int i => ret (.int (-i))
  | _ => fail
theorem de_neg {e : Expr} {f : M D} {pos : Pos} (h : DE X W e f) : DE X W (.UnaryOp .USub e pos) (bnd f negM) := by
  obtain ⟨t, p, r⟩ := h
  refine ⟨_, pe_un un_neg p, fun w H σ s Q R z => ?_⟩
  refine r.bnd R z fun d s1 w1 H1 v l1 R1 r1 p1 => ?_
  cases r1 with
  | int i => exact ⟨i, rfl, Post.here p1 R1 (Rep.int _)⟩
  | _ => exact p1.elim
/-! ### methods of lists and texts -/
def isTy (T : String) (s : S) (d : D) : Bool := match d with
  | .str _ => T == "str"
  | d => (T == "list" && (lstOf s d).isSome) || (T == "dict" && (dctOf s d).isSome)
theorem tyV_of {K : PySem.W.Frag} {w : Wd} {H : Hp} {σ : L2.St} {s : S} {v : V} {d : D} {T : String} (R : RS K w H σ s) (r : Rep K w v d) (h : isTy T s d = true) : tyV K T v H := by
  unfold isTy at h
  split at h
  · cases r
    show T = "str"
    simpa using h
  · rw [Bool.or_eq_true, Bool.and_eq_true, Bool.and_eq_true] at h
    rcases h with ⟨h1, h2⟩ | ⟨h1, h2⟩
    · obtain ⟨ds, hd⟩ := Option.isSome_iff_exists.mp h2
      obtain ⟨a, vs, rfl, h3, _⟩ := R.list r hd
      exact .inl ⟨by simpa using h1, vs, h3⟩
    · obtain ⟨ds, hd⟩ := Option.isSome_iff_exists.mp h2
      obtain ⟨a, vs, rfl, h3, _⟩ := R.dict r hd
      exact .inr (.inr (.inl ⟨by simpa using h1, .inl ⟨vs, h3⟩⟩))
def methM (T : String) (f : M D) (fs : M (List D)) (g : D → List D → M D) : M D := bnd f fun d s => if isTy T s d = true then bnd fs (fun ds => g d ds) s else .bad
def meth0M (T : String) (f : M D) (g : D → M D) : M D := bnd f fun d s => if isTy T s d = true then g d s else .bad
def RMt (X : Cx) (r : V → List V → Hp → VK → Prop) (g : D → List D → M D) : Prop := ∀ (W : WX) w H σ s v vs d ds Q, RS X.K w H σ s → Rep X.K w v d → RepL X.K w vs ds → Post X.K W (pD X.K) w H σ (g d ds s) Q → r v vs H Q
theorem de_meth {o e : Expr} {es : List Expr} {f : M D} {fs : M (List D)} {g : D → List D → M D} {name : Str} {ap pos : Pos} {T id : String} {r : V → List V → Hp → VK → Prop} (hr : RMt X r g) (pa : PlainAttrs T) (slot : Slot T name id) (hty : typeOf (.builtin id) = pure (.type "method_descriptor")) (hm : MtR X id r)
    (ho : DE X W o f) (ha : DA X W (e :: es) fs) (hbase : attributeBase o name X.env (eval o X.env) = eval o X.env := by rfl)
    (hfew : ((backTo pos (starEach (e :: es) X.env)).all (fun x => !x.1) && (backToKw pos (keywordEach [] X.env)).all (fun x => x.1.isSome)
      && decide ((e :: es).length + ([] : List Keyword).length + (if ([] : List Keyword).isEmpty then 0 else 1) < 30)) = true := by rfl)
    (hline : (ap.endLine == pos.line) = true := by rfl) (hs : starEach (e :: es) X.env = (false, eval e X.env) :: starEach es X.env := by rfl) (hplain : (backTo pos (starEach es X.env)).any (·.1) = false := by rfl) :
    DE X W (.Call (.Attribute o name ap) (e :: es) [] pos) (methM T f fs g) := by
  obtain ⟨to, po, ro⟩ := ho
  obtain ⟨ta, qa, ra⟩ := ha
  refine ⟨_, pe_bm pa slot hty hm po qa hbase hfew hline hs hplain, fun w H σ s Q R z => ?_⟩
  refine ro.bnd R z fun d s1 w1 H1 v l1 R1 r1 p1 => ?_
  split at p1
  · next k =>
    refine ⟨tyV_of R1 r1 k, ?_⟩
    refine ra.bnd R1 p1 fun ds s2 w2 H2 vs l2 R2 r2 p2 => ?_
    exact hr W w2 H2 σ s2 v vs d ds Q R2 (Rep.up l2 r1) r2 p2
  · exact p1.elim
theorem de_meth0 {o : Expr} {f : M D} {g : D → M D} {name : Str} {ap pos : Pos} {T id : String} {r : V → List V → Hp → VK → Prop} (hr : RMt X r fun d _ => g d) (pa : PlainAttrs T) (slot : Slot T name id) (hty : typeOf (.builtin id) = pure (.type "method_descriptor")) (hm : MtR X id r)
    (ho : DE X W o f) (hbase : attributeBase o name X.env (eval o X.env) = eval o X.env := by rfl) (hline : (ap.endLine == pos.line) = true := by rfl) :
    DE X W (.Call (.Attribute o name ap) [] [] pos) (meth0M T f g) := by
  obtain ⟨to, po, ro⟩ := ho
  refine ⟨_, pe_bm0 pa slot hty hm po hbase hline, fun w H σ s Q R z => ?_⟩
  refine ro.bnd R z fun d s1 w1 H1 v l1 R1 r1 p1 => ?_
  split at p1
  · next k => exact ⟨tyV_of R1 r1 k, hr W w1 H1 σ s1 v [] d [] Q R1 r1 .nil p1⟩
  · exact p1.elim
/-- a list that stands by itself is written -/
def wrM (d : D) (g : List D → M (List D × D)) : M D := fun s => match d with
  | .cell n => match s.vh[n]? with
    | some (.lst ds) => match g ds s with
      | .ok (es, y) s' => .ok y { s' with vh := s'.vh.set n (.lst es) }
      | _ => .bad
    | _ => .bad
  | _ => .bad
def appM (d : D) : List D → M D
  | [e] => wrM d fun ds s => if ds.length < sizeLine then .ok (ds ++ [e], .non) s else .bad
  | _ => fail
theorem RS.wr {K : PySem.W.Frag} {w : Wd} {H : Hp} {σ : L2.St} {s : S} {v : V} {d : D} {g : List D → M (List D × D)} {Q : V → Hp → Prop} (R : RS K w H σ s) (r : Rep K w v d) (p : Post K W (pD K) w H σ (wrM d g s) Q) :
    ∃ (a : Addr) (vs : List V) (ds es : List D) (y : D) (s' : S), v = .ref a ∧ H a = some (.lst vs) ∧ RepL K w vs ds ∧ g ds s = .ok (es, y) s' ∧ (s' = s → ∀ us u, RepL K w us es → Rep K w u y → Q u (upd H a (.lst us))) := by
  unfold wrM at p
  cases r with
  | @cell a n h1 =>
    obtain ⟨c, e, hc⟩ := R.cellOf h1
    dsimp only at p
    rw [e] at p
    cases c with
    | dct _ => exact p.elim
    | obj _ _ => exact p.elim
    | dctL _ _ _ => exact p.elim
    | dctN _ _ => exact p.elim
    | lst ds =>
      obtain ⟨vs, h2, h3⟩ := hc
      dsimp only at p
      cases hg : g ds s with
      | exc _ _ => rw [hg] at p; exact p.elim
      | bad => rw [hg] at p; exact p.elim
      | ok q s' =>
        rw [hg] at p
        obtain ⟨es, y⟩ := q
        refine ⟨a, vs, ds, es, y, s', rfl, h2, h3, hg, fun e us u r1 r2 => ?_⟩
        subst e
        exact p w _ u (Le.write (List.mem_of_getElem? h1)) (R.setCell h1 ⟨us, upd_same, r1⟩) r2
  | _ => exact p.elim
theorem rm_append : RMt X rAppend appM := by
  intro W w H σ s v vs d ds Q R r rs p
  unfold appM at p
  split at p
  · next e =>
    obtain ⟨u, rfl, ru⟩ := one_of rs
    obtain ⟨a, us, ds, es, y, s', rfl, h1, h2, h3, h4⟩ := R.wr r p
    split at h3
    · next k =>
      cases h3
      exact ⟨a, us, u, rfl, rfl, h1, by rw [RepL.length h2]; exact k, h4 rfl _ _ (RepL.append h2 (.cons ru .nil)) Rep.non⟩
    · cases h3
  · exact p.elim
theorem de_append {o e : Expr} {f : M D} {fs : M (List D)} {ap pos : Pos} (ho : DE X W o f) (ha : DA X W [e] fs) (hbase : attributeBase o "append" X.env (eval o X.env) = eval o X.env := by rfl)
    (hfew : ((backTo pos (starEach [e] X.env)).all (fun x => !x.1) && (backToKw pos (keywordEach [] X.env)).all (fun x => x.1.isSome)
      && decide (([e] : List Expr).length + ([] : List Keyword).length + (if ([] : List Keyword).isEmpty then 0 else 1) < 30)) = true := by rfl)
    (hline : (ap.endLine == pos.line) = true := by rfl) (hs : starEach [e] X.env = (false, eval e X.env) :: starEach [] X.env := by rfl) (hplain : (backTo pos (starEach [] X.env)).any (·.1) = false := by rfl) :
    DE X W (.Call (.Attribute o "append" ap) [e] [] pos) (methM "list" f fs appM) :=
  de_meth rm_append PySem.F.plainAttrs_list PySem.F.slot_list_append PySem.F.type_list_append mt_append ho ha hbase hfew hline hs hplain
/-! sep.join(list of texts) -/
def strsOf : List D → Option (List Str)
  | [] => some []
  | .str x :: r => (strsOf r).map (x :: ·)
  | _ => none
def joinOk (a : Str) (ys : List Str) : Bool := decide ((ys.map (·.length)).sum + ys.length * a.length ≤ 16777216)
def seqOf (s : S) : D → Option (List D)
  | .tup ds => some ds
  | d => lstOf s d
def joinM (d : D) : List D → M D
  | [e] => fun s => match d with
    | .str a => match seqOf s e with
      | some ds => match strsOf ds with
        | some ys => if joinOk a ys = true then .ok (.str (Txt.join a ys)) s else .bad
        | none => .bad
      | none => .bad
    | _ => .bad
  | _ => fail
theorem strs_rep {K : PySem.W.Frag} {w : Wd} : ∀ {vs : List V} {ds : List D} {ys : List Str}, RepL K w vs ds → strsOf ds = some ys → vs = ys.map V.str
  | _, _, ys, .nil, h => by cases h; rfl
  | _, _, ys, .cons (d := d) (ds := ds) r t, h => by
    cases r with
    | str x =>
      unfold strsOf at h
      cases e : strsOf ds with
      | none => rw [e] at h; cases h
      | some zs => rw [e] at h; cases h; rw [strs_rep t e]; rfl
    | _ => cases h
theorem rm_join : RMt X (fun x xs H Q => ∃ a p, ∃ ys : List Str, x = .str a ∧ xs = [.ref p] ∧ (SqL X.K H p (ys.map V.str) ∨ SqT X.K H p (ys.map V.str)) ∧
    (ys.map (·.length)).sum + ys.length * a.length ≤ 16777216 ∧ Q (.str (Txt.join a ys)) H) joinM := by
  intro W w H σ s v vs d ds Q R r rs p
  unfold joinM at p
  split at p
  · next e =>
    obtain ⟨u, rfl, ru⟩ := one_of rs
    split at p
    · next a =>
      cases r
      split at p
      · next es he =>
        split at p
        · next ys hy =>
          split at p
          · next k =>
            have hk : (ys.map (·.length)).sum + ys.length * a.length ≤ 16777216 := of_decide_eq_true k
            unfold seqOf at he
            split at he
            · next ts =>
              cases he
              obtain ⟨q, us, rfl, h1, h2⟩ := R.tuple ru (ds := es) rfl
              rw [strs_rep h2 hy] at h1
              exact ⟨a, q, ys, rfl, rfl, .inr h1, hk, Post.here p R (Rep.str _)⟩
            · obtain ⟨q, us, rfl, h1, h2⟩ := R.list ru he
              rw [strs_rep h2 hy] at h1
              exact ⟨a, q, ys, rfl, rfl, .inl h1, hk, Post.here p R (Rep.str _)⟩
          · exact p.elim
        · exact p.elim
      · exact p.elim
    · exact p.elim
  · exact p.elim
def jnM (f g : M D) : M D := bnd f fun d s => match d with
  | .str a => bnd g (fun e => joinM (.str a) [e]) s
  | _ => .bad
theorem de_join {o e : Expr} {f g : M D} {ap pos : Pos} (ho : DE X W o f) (he : DE X W e g) (hs : starEach [e] X.env = [(false, eval e X.env)] := by rfl) (hbase : attributeBase o "join" X.env (eval o X.env) = eval o X.env := by rfl) (hline : (ap.endLine == pos.line) = true := by rfl) :
    DE X W (.Call (.Attribute o "join" ap) [e] [] pos) (jnM f g) := by
  obtain ⟨to, po, ro⟩ := ho
  obtain ⟨te, pe, re⟩ := he
  refine ⟨_, pe_join po pe hs hbase hline, fun w H σ s Q R z => ?_⟩
  refine ro.bnd R z fun d s1 w1 H1 v l1 R1 r1 p1 => ?_
  cases r1 with
  | str a =>
    have p1 : Post X.K W (pD X.K) w1 H1 σ (bnd g (fun e => joinM (.str a) [e]) s1) Q := p1
    refine ⟨⟨a, rfl⟩, ?_⟩
    refine re.bnd R1 p1 fun e s2 w2 H2 u l2 R2 r2 p2 => ?_
    exact rm_join W w2 H2 σ s2 _ [u] (.str a) [e] Q R2 (.str a) (.cons r2 .nil) p2
  | _ => exact p1.elim
/-! ### for the printed texts -/
def isM : D → D → M D := fun d e => match e with | .non => isNonM d | _ => fail
def isnotM : D → D → M D := fun d e => match e with | .non => notNonM d | _ => fail
theorem rop_is : ROp X (fun x y H Q => y = .non ∧ Q (.bl (decide (x = .non))) H) isM := rop_isN
theorem rop_isnot : ROp X (fun x y H Q => y = .non ∧ Q (.bl (!decide (x = .non))) H) isnotM := rop_notN
theorem de_gI' {x : Str} {i : Int} {pos : Pos} (hm : ∃ t, X.mg x = some (.int i t)) (hg : Gl X x := by rfl) (hd : (x == ("__debug__" : Str)) = false := by decide) : DE X W (.Name x pos) (ret (.int i)) := let ⟨_, h⟩ := hm; de_gI hg h hd
theorem de_gS' {x z : Str} {pos : Pos} (hm : ∃ t, X.mg x = some (.str z t)) (hg : Gl X x := by rfl) (hd : (x == ("__debug__" : Str)) = false := by decide) : DE X W (.Name x pos) (ret (.str z)) := let ⟨_, h⟩ := hm; de_gS hg h hd
theorem pg_n {i : Nat} {x : Str} {pos : Pos} (hN : X.N.Nodup) (hi : X.N[i]? = some x := by rfl) (hx : Loc X.env.scope x := by first | exact Or.inl rfl | exact Or.inr rfl) (hf : X.fn x = true ∨ X.env.scope.names.lookup x = some .local := by first | exact .inl rfl | exact .inr rfl) : PG X (.Name x pos) (gName i) := pg_name hN hi hx hf
/-- a def as the top leaves it -/
structure Top (K : PySem.W.Frag) (mg : Str → Option Value) (x : Str) (st : Stmt) (ps : List Str) : Prop where
  ex : ∃ (f : Addr) (fd : FuncData), Fun K x x st f fd ∧ mg x = some (.ref f) ∧ Binds K fd ps [] ∧ ∀ (s : Shared) (us : List Value), us.length = ps.length → BindsTo s fd ⟨us, []⟩ (ps.zip us)
theorem top_mk {K : PySem.W.Frag} {h : Heap} {mg : Str → Option Value} (X : K.In h) (G : h.Ns mainGlobals mg) {x : Str} {st : Stmt} {ps : List Str} {f : Addr} {oc : Value} {od an : Option Addr} {osl : Array (Option Value)} {kV doc pm cdv ct : Value} (a : PySem.W.nsIn K mainGlobals x = some (some (.ref f)))
    (l : K.lookup f = some ⟨oc, od, .func (PySem.W.fnOf x x (defArgs st) (defBody st) (defScope st) .none kV doc pm an cdv ct), osl⟩) (c : PySem.W.codeIn K cdv x = true) (k : PySem.W.keepIn K (.ref f) = true)
    (b : ∀ (kV doc pm : Value) (an : Option Addr) (cdv ct : Value) (us : List Value), us.length = ps.length → bindArgs (PySem.W.fnOf x x (defArgs st) (defBody st) (defScope st) .none kV doc pm an cdv ct) ⟨us, []⟩ = pure (ps.zip us)) : Top K mg x st ps :=
  have F := fun_mk (st := st) l c k
  ⟨f, _, F, PySem.W.mg_of X G a, F.binds b, fun s us hl => .of_eq (b _ _ _ _ _ _ us hl)⟩
theorem Top.fn {P : Program} {wd : World} {K : PySem.W.Frag} {mg : Str → Option Value} {base : Heap} {x : Str} {st : Stmt} {N ps : List Str} {k : Nat} {g : M Out} (T : Top K mg x st ps) (Sc : FnScope N ps (defScope st)) (hle : ps.length ≤ N.length)
    (body : ∀ (f : Addr) (cdv : Value) (A : Around) (outer : List Env) (s : Shared) (H : Hp) (E : XK), Room k (A.deeper (envOfC x (defScope st) s.heap.objs.size f cdv)) →
      DSs (cxOf CX0 P wd K mg base N x (defScope st) f cdv A outer s H E).nox W0 (defBody st) g) : FnP P wd K mg base x ps.length (k + 1) (runP N.length g) :=
  let ⟨f, fd, F, m, b, _⟩ := T.ex
  ⟨f, fd, ps, rfl, m, F.kp, b, fn_pure F Sc hle fun cdv A outer s H E hr => body f cdv A outer s H E hr⟩
theorem Top.law {P : Program} {wd : World} {K : PySem.W.Frag} {mg : Str → Option Value} {x y : Str} {st : Stmt} {N : List Str} {k : Nat} {g : M Out} (T : Top K mg x st [y]) (Sc : FnScope N [y] (defScope st)) (hle : 1 ≤ N.length)
    (body : ∀ (base : Heap), K.In base → base.Ns mainGlobals mg → ∀ (f : Addr) (cdv : Value) (A : Around) (outer : List Env) (s : Shared) (H : Hp) (E : XK), Room k (A.deeper (envOfC x (defScope st) s.heap.objs.size f cdv)) →
      DSs (cxOf CX0 P wd K mg base N x (defScope st) f cdv A outer s H E).nox W0 (defBody st) g) :
    ∃ (fa : Addr) (fd : FuncData), mg x = some (.ref fa) ∧ (∀ (s : Shared) (u : Value), BindsTo s fd ⟨[u], []⟩ [(y, u)]) ∧ ∀ base : Heap, K.In base → base.Ns mainGlobals mg → FnOk P wd K mg base CX0 (k + 1) fa fd [y] (SpP K 1 (runP N.length g)) :=
  let ⟨f, fd, F, m, _, b⟩ := T.ex
  ⟨f, fd, m, fun s u => b s [u] rfl, fun base X G => fn_pure F Sc hle fun cdv A outer s H E hr => body base X G f cdv A outer s H E hr⟩
theorem ints_rep {K : PySem.W.Frag} {w : Wd} : ∀ ns : List Int, RepL K w (ns.map V.int) (ns.map D.int)
  | [] => .nil
  | n :: r => .cons (.int n) (ints_rep r)
/-- the law's def: from the script to True -/
theorem law_end {l : PySem.W.OpenLaw} {q : Program} {loose : List Str} {XP : (Str → Option Value) → Heap → Prop} {YP : World → Heap → Prop} {d : DefRec} {K : Params → PySem.W.Frag} {x : Str} {k : Nat} {F : Pf} (hn : l.most = some 63) (hdf : d.params.defaults = []) (hd : d.name = "law") (hr : Room k callerA)
    (hY : ∀ (w : World) (h : Heap), YP w h → (K w.params).In h)
    (W : ∀ (w : World) (mg : Str → Option Value) (h : Heap), (K w.params).In h → h.Ns mainGlobals mg → (∃ (fa : Addr) (fd : FuncData), mg "law" = some (.ref fa) ∧ (∀ (s : Shared) (u : Value), BindsTo s fd ⟨[u], []⟩ [(x, u)]) ∧
      ∀ base : Heap, (K w.params).In base → base.Ns mainGlobals mg → FnOk l.prog w (K w.params) mg base CX0 k fa fd [x] (SpP (K w.params) 1 F)))
    (hF : ∀ ns : List Int, ns.length ≤ 63 → (∀ z ∈ ns, Builtin.Int.intBits z ≤ 1048576) → F [.lst (ns.map D.int)] [] = some (.bl true)) :
    PySem.W.WalkO q loose XP YP l.row.toRowW d [] (fun f vs => PySem.call f vs) := by
  refine L2.walk_ofB (n := 63) (k := k) (x := x) (CX := fun _ => CX0) (sp := fun w => SpP (K w.params) 1 F) hn (by decide) hdf hr hY (fun w mg fa h X G hmg => ?_) (fun w H a ns hl hb _ hS => ?_) fun _ _ _ _ _ z => z
  · obtain ⟨fa', fd, e, b, G'⟩ := W w mg h X G
    rw [hd, e] at hmg
    cases hmg
    exact ⟨fd, b, G'⟩
  · refine ⟨rfl, ⟨[], H⟩, [], ⟨[], []⟩, [.lst (ns.map D.int)], .bl true, ⟨fun _ _ h => h, rfl, fun i d h => by simp at h, rfl, .nil, fun _ h => by simp at h, fun n a c e => by simp at e⟩, .cons (.lst hS (ints_rep ns)) .nil, hF ns hl hb, fun w' H' v _ _ r => ?_⟩
    cases r
    rfl
end Fx

namespace Fx
open PySem PySem.Spec PyProof.Rows L2
variable {X : Cx} {W : WX}
/-! ### a < b of numbers, texts, alike data -/
def rLtData (K : PySem.W.Frag) : R2 := fun x y H Q => ∃ d e, Dp K H x d ∧ Dp K H y e ∧ PySem.W.alike d e = true ∧ d ≠ .none ∧ d.depth ≤ 64 ∧ Q (.bl (PySem.W.dataLt d e)) H
theorem op_ltData (hu : X.A.units + 64 < cLine) : OpR X (compareOp .Lt) (rLtData X.K) := by
  intro pins s σ H x y v u Q I rx ry h
  obtain ⟨d, e, hd, he, al, dn, sd, q⟩ := h
  obtain ⟨as, r1⟩ := Dp.reads I d x v hd rx
  obtain ⟨bs, r2⟩ := Dp.reads I e y u he ry
  exact PySem.W.lt_data r1 r2 al dn (Nat.lt_of_le_of_lt (Nat.add_le_add_left (Nat.le_trans (Nat.min_le_left _ _) sd) _) hu) ⟨.bl _, H, I, rfl, q⟩
def rLtA (K : PySem.W.Frag) : R2 := fun x y H Q => rI0 (fun i j => .bl (decide (i < j))) x y H Q ∨ (∃ i j, x = .str i ∧ y = .str j ∧ Q (.bl (decide (i.cps.toList < j.cps.toList))) H) ∨ rLtData K x y H Q
theorem op_ltA (hu : X.A.units + 64 < cLine) : OpR X (compareOp .Lt) (rLtA X.K) := opr_or op_lt (opr_or op_lt_str (op_ltData hu))
def ltAM : D → D → M D
  | .int i, .int j => ret (.bl (decide (i < j)))
  | .str a, .str b => ret (.bl (decide (a.cps.toList < b.cps.toList)))
  | .tup a, .tup b => fun s => match pyD s (.tup a), pyD s (.tup b) with
    | some p, some q => if (PySem.W.alike p q && decide (p.depth ≤ 64)) = true then .ok (.bl (PySem.W.dataLt p q)) s else .bad
    | _, _ => .bad
  | _, _ => fail
theorem rop_ltA : ROp X (rLtA X.K) ltAM := by
  intro W w H σ s x y d e Q R rx ry p
  unfold ltAM at p
  split at p
  · cases rx; cases ry; exact .inl ⟨_, _, rfl, rfl, Post.here p R (Rep.bl _)⟩
  · cases rx; cases ry; exact .inr (.inl ⟨_, _, rfl, rfl, Post.here p R (Rep.bl _)⟩)
  · next a b =>
    split at p
    · next p1 q1 h1 h2 =>
      split at p
      · next k =>
        rw [Bool.and_eq_true, decide_eq_true_eq] at k
        refine .inr (.inr ⟨p1, q1, R.py rx h1, R.py ry h2, k.1, ?_, k.2, Post.here p R (Rep.bl _)⟩)
        intro z
        subst z
        unfold pyD at h1
        dsimp only at h1
        unfold pyT at h1
        cases h3 : pyL a with
        | none => rw [h3] at h1; cases h1
        | some y => rw [h3] at h1; cases h1
      · exact p.elim
    · exact p.elim
  · exact p.elim
/-! ### a slice of a text, a list, a tuple -/
theorem slr_or {r1 r2 : V → Option Int → Option Int → Hp → VK → Prop} (h1 : SlR X r1) (h2 : SlR X r2) : SlR X (fun x l u H Q => r1 x l u H Q ∨ r2 x l u H Q) := by
  intro pins s σ H x v vl vu lo hi sl Q I rx hs pl pu h
  rcases h with h | h
  · exact h1 pins s σ H x v vl vu lo hi sl Q I rx hs pl pu h
  · exact h2 pins s σ H x v vl vu lo hi sl Q I rx hs pl pu h
/-- t[a:b] of a tuple, not the whole, the new object known -/
def rSlC (K : PySem.W.Frag) : V → Option Int → Option Int → Hp → VK → Prop := fun x l u H Q => ∃ a xs, x = .ref a ∧ SqT K H a xs ∧
  ¬ (HT.sIx xs.length 0 l = 0 ∧ HT.sIx xs.length xs.length u = xs.length) ∧ ∀ (p : Addr) (o : Obj), o.dict = none → H p = none → Q (.ref p) (upd H p (.frz o (.tup (cutV xs l u))))
theorem sl_tupC : SlR X (rSlC X.K) := by
  intro pins s σ H x v vl vu lo hi sl Q I rx hs pl pu h
  obtain ⟨a, xs, e, hx, hw, q⟩ := h
  subst e
  cases rx
  obtain ⟨its, rv, ht, hz⟩ := I.tuple hx
  have hl : its.toArray.size = xs.length := by rw [List.size_toArray]; exact rv.length.symm
  refine ⟨"tuple", _, PyProof.Rows.slot_tuple_getitem.lookup, ht.typeIs, HT.getItem_tuple_cut ht hs pl pu (by rw [hl]; exact hw) ?_ (by rw [hl]; exact hz)⟩
  rw [hl]
  have hg : (s.heap.push { cls := .type "tuple", data := .seq ((its.toArray.toList.drop (HT.sIx xs.length 0 lo)).take (HT.sIx xs.length xs.length hi - HT.sIx xs.length 0 lo)).toArray }).get? s.heap.objs.size = some { cls := .type "tuple", data := .seq ((its.toArray.toList.drop (HT.sIx xs.length 0 lo)).take (HT.sIx xs.length xs.length hi - HT.sIx xs.length 0 lo)).toArray } := Heap.get?_push_size _ rfl
  have rr := (rv.drop (HT.sIx xs.length 0 lo)).take (HT.sIx xs.length xs.length hi - HT.sIx xs.length 0 lo)
  have hd : ({ cls := .type "tuple", data := .seq ((its.toArray.toList.drop (HT.sIx xs.length 0 lo)).take (HT.sIx xs.length xs.length hi - HT.sIx xs.length 0 lo)).toArray } : Obj).dict = none := rfl
  refine ⟨.ref s.heap.objs.size, _, ?_, rfl, q _ _ hd (I.hok.fresh (Nat.le_refl _))⟩
  exact I.laid (t' := s.toks) (fun b ob k => Heap.get?_push_of_some _ k) (Nat.le_refl _) ⟨hg, Nat.le_trans (cutV_length xs lo hi) hz, _, rr, ⟨_, hg, rfl, _, rfl⟩⟩
/-- t[a:b] of a tuple: the whole of it is t itself -/
def rSlCA (K : PySem.W.Frag) : V → Option Int → Option Int → Hp → VK → Prop := fun x l u H Q => ∃ a xs, x = .ref a ∧ SqT K H a xs ∧
  (HT.sIx xs.length 0 l = 0 ∧ HT.sIx xs.length xs.length u = xs.length → Q (.ref a) H) ∧
  (¬ (HT.sIx xs.length 0 l = 0 ∧ HT.sIx xs.length xs.length u = xs.length) → ∀ (p : Addr) (o : Obj), o.dict = none → H p = none → Q (.ref p) (upd H p (.frz o (.tup (cutV xs l u)))))
theorem sl_tupCA : SlR X (rSlCA X.K) := by
  intro pins s σ H x v vl vu lo hi sl Q I rx hs pl pu h
  obtain ⟨a, xs, e, hx, q1, q2⟩ := h
  by_cases hw : HT.sIx xs.length 0 lo = 0 ∧ HT.sIx xs.length xs.length hi = xs.length
  · exact sl_tupA pins s σ H x v vl vu lo hi sl Q I rx hs pl pu ⟨a, xs, e, hx, q1, fun n => absurd hw n⟩
  · exact sl_tupC pins s σ H x v vl vu lo hi sl Q I rx hs pl pu ⟨a, xs, e, hx, hw, q2 hw⟩
theorem cutD_whole {α : Type} {xs : List α} {l u : Option Int} (h : HT.sIx xs.length 0 l = 0 ∧ HT.sIx xs.length xs.length u = xs.length) : (xs.drop (HT.sIx xs.length 0 l)).take (HT.sIx xs.length xs.length u - HT.sIx xs.length 0 l) = xs := by
  rw [h.1, h.2, List.drop_zero, Nat.sub_zero, List.take_length]
def slV (d : D) (l u : Option Int) : M D := fun s => match d with
  | .str x => if lenOk x.length = true then .ok (.str (cutS x l u)) s else .bad
  | .tup ds => .ok (.tup (cutD ds l u)) s
  | d => match lstOf s d with
    | some ds => .ok (.lst (cutD ds l u)) s
    | none => .bad
def slM (f : M D) (lo hi : M (Option Int)) : M D := bnd f fun d => bnd lo fun l => bnd hi fun u => slV d l u
theorem de_sl {e : Expr} {lo hi : Option Expr} {f : M D} {fl fh : M (Option Int)} {pos p2 : Pos} (h : DE X W e f) (hl : DO X W lo fl) (hh : DO X W hi fh) : DE X W (.Subscript e (.Slice lo hi none p2) pos) (slM f fl fh) := by
  obtain ⟨t, p, r⟩ := h
  obtain ⟨tl, pl, rl⟩ := hl
  obtain ⟨th, ph, rh⟩ := hh
  refine ⟨_, pe_slice (slr_or sl_str (slr_or sl_list sl_tupCA)) p pl ph, fun w H σ s Q R z => ?_⟩
  refine r.bnd R z fun d s1 w1 H1 v1 l1 R1 r1 p1 => ?_
  refine rl.bnd R1 p1 fun a s2 w2 H2 v2 l2 R2 r2 p2 => ?_
  refine rh.bnd R2 p2 fun b s3 w3 H3 v3 l3 R3 r3 p3 => ?_
  cases r2; cases r3
  replace r1 := Rep.up l3 (Rep.up l2 r1)
  unfold slV at p3
  split at p3
  · next x =>
    cases r1
    split at p3
    · next k => exact .inl ⟨x, rfl, of_decide_eq_true k, Post.here p3 R3 (Rep.str _)⟩
    · exact p3.elim
  · next ds =>
    obtain ⟨a', vs, rfl, h1, h2⟩ := R3.tuple r1 (ds := ds) rfl
    refine .inr (.inr ⟨a', vs, rfl, h1, fun z => ?_, fun _ q o ho hq => ?_⟩)
    · have e : cutD ds a b = ds := by
        unfold cutD
        rw [RepL.length h2] at z
        exact cutD_whole z
      rw [e] at p3
      exact Post.here p3 R3 r1
    · obtain ⟨l4, R4, r4⟩ := R3.newT hq (h2.cut a b) ho
      exact p3 _ _ _ l4 R4 r4
  · split at p3
    · next ds hd =>
      obtain ⟨a', vs, rfl, h1, h2⟩ := R3.list r1 hd
      refine .inr (.inl ⟨a', vs, rfl, h1, fun q hq => ?_⟩)
      obtain ⟨l4, R4, r4⟩ := R3.newL hq (h2.cut a b)
      exact p3 _ _ _ l4 R4 r4
    · exact p3.elim
end Fx

/-! Fx: sorted(xs, key=f), f a def of the text -/
namespace PySem.W
open PySem PySem.Calls PyProof.Rows
section
variable {prog : Program} {w : World} {A : Around} {E : Value → Shared → Prop} {s : Shared} {a kS : Addr} {b : Bool} {vs : List Value} {e1 : Nat} {P : PySem.Fin → Shared → Prop} {kz : List PyData}
/-- the heap with a hole at kS -/
def holed (h : Heap) (kS : Addr) : Heap := h.update kS fun o => { o with data := .freed }
theorem holed_at (h : Heap) (kS : Addr) : (holed h kS).get? kS = none := by
  unfold holed Heap.update Heap.get?
  dsimp only
  rw [Array.getElem?_modify]
  simp only [if_true]
  cases h.objs[kS]? <;> rfl
theorem holed_ne (h : Heap) {kS c : Addr} (hc : c ≠ kS) : (holed h kS).get? c = h.get? c := (Heap.SameBut.update h kS _).2 c hc
/-- the keys are made and the items sorted; J: what the caller keeps true between the calls -/
theorem keyI_rest {f : Value} (J : List Value → Shared → Prop) (j0 : J [] s) (nk : s.heap.get? kS = some (seqObj "list" #[] 0)) (na : s.heap.get? a = some (seqObj "list" #[] e1)) (hka : kS ≠ a)
    (hlen : kz.length = vs.length) (hZ : vs.length ≤ sizeLine) (hal : AllAlike kz) (hsk : Sortable kz) (hu : ∀ d, d ∈ kz → A.units + d.depth < cLine)
    (turn : ∀ (i : Nat) (v : Value) (ks : List Value) (s' : Shared) (kA : Array Value) (e : Nat), vs[i]? = some v → ks.length = i → J ks s' → s'.heap.get? kS = some (seqObj "list" kA e) → s'.heap.get? a = some (seqObj "list" #[] e1) →
      wpAny (model prog w) A (call f [v]) (fun u s'' => J (ks ++ [u]) s'' ∧ s''.heap.get? kS = some (seqObj "list" kA e) ∧ s''.heap.get? a = some (seqObj "list" #[] e1)) (fun _ _ => False) s')
    (upd : ∀ ks s' h' tk, J ks s' → Heap.SameBut kS s'.heap h' → (∃ o, h'.get? kS = some o) → J ks { s' with heap := h', toks := tk })
    (keys : ∀ ks s', J ks s' → ks.length = vs.length → EachIs (fun v k => ∃ as, Reads s'.heap v k as) ks kz)
    (h : ∀ ks s' h' tk out c, J ks s' → (∀ q o, q ≠ a → q ≠ kS → s'.heap.get? q = some o → h'.get? q = some o) → h'.get? a = some (seqObj "list" (List.toArray out) c) → KeyedOut b kz vs out → P (.done (.ret .none)) { s' with heap := h', toks := tk }) :
    wpAny (model prog w) A (ksk_rest a f b vs.toArray e1 (.ref kS)) P E s := by
  unfold ksk_rest
  refine wpAny_bind (wpAny_rule ?_)
  first
    | rw [List.forIn_toArray]
    | (rw [← Array.forIn_toList]; simp only [List.toList_toArray])
  refine wpAny_bind (ksk_fold (fun i s' => ∃ ks e, ks.length = i ∧ J ks s' ∧ s'.heap.get? kS = some (seqObj "list" ks.toArray e) ∧ s'.heap.get? a = some (seqObj "list" #[] e1)) vs 0 s ⟨[], 0, rfl, j0, nk, na⟩ ?_ ?_)
  · rintro j x s' hx ⟨ks, e, hl, hJ, nk', na'⟩
    rw [Nat.zero_add] at hl
    have hj : j < vs.length := (List.getElem?_eq_some_iff.mp hx).1
    refine wpAny_bind (wpAny_attempt (wpAny_mono (turn j x ks s' ks.toArray e hx hl hJ nk' na') (fun v s'' he => ?_) fun _ _ hF => hF.elim))
    obtain ⟨hJ2, nk2, na2⟩ := he
    dsimp only
    have s1 := Heap.SameBut.update s''.heap kS (Obj.mapSeq (·.push v))
    obtain ⟨c2, hc2⟩ : ∃ c2, (s''.heap.update kS (Obj.mapSeq (·.push v))).get? kS = some (seqObj "list" (ks.toArray.push v) c2) := ⟨_, get?_update_seq nk2 (·.push v)⟩
    refine wpAny_bind (listUpdate_at nk2 rfl ?_ (by rw [List.size_toArray]; omega) (by rw [Array.size_push, List.size_toArray]; omega))
    refine wpAny_pure ⟨rfl, ks ++ [v], c2, by rw [List.length_append, hl, Nat.zero_add]; rfl, upd _ _ _ _ hJ2 s1 ⟨_, hc2⟩, ?_, (s1.2 a hka.symm).trans na2⟩
    rw [show (ks ++ [v]).toArray = ks.toArray.push v by simp]
    exact hc2
  · rintro s' ⟨ks, e, hl, hJ, nk', na'⟩
    rw [Nat.zero_add] at hl
    try dsimp only
    refine wpAny_bind (listItems_at nk' rfl ?_)
    have hk := keys ks s' hJ hl
    refine keyH_end (κ := dataKind s'.heap kz) (h₁ := holed s'.heap kS) (s := s') (keys := ks.toArray) (fun q o hq e => ?_) (holed_at _ _) nk' na' hka (SortsAt.data (s := s') (by simpa using hk) hal hsk hu) (by rw [List.size_toArray]; exact hl) hZ fun h' tk c kp hD => ?_
    · by_cases hqk : q = kS
      · subst hqk
        rw [holed_at] at e
        cases e
      · rw [← e, holed_ne _ hqk]
    · refine h ks s' h' tk _ c hJ (fun q o h1 h2 e => kp q o h1 ((holed_ne _ h2).trans e)) hD ⟨s'.heap, ks, hal, ?_, hk⟩
      simp

theorem sortedI_key {l : Addr} {f : Value} {kw : List (Str × Value)} {Q : Value → Shared → Prop} (J : Addr → Addr → List Value → Shared → Prop) (hl : s.heap.IsList l vs.toArray) (hlen : kz.length = vs.length) (hZ : vs.length ≤ sizeLine) (hal : AllAlike kz) (hsk : Sortable kz)
    (hu : ∀ d, d ∈ kz → A.units + 2 + d.depth < cLine) (ha1 : argsOk "sorted" ⟨[.ref l], kw⟩) (ha2 : ∀ x, argsOk "list.sort" ⟨[.ref x], kw⟩) (ht : ∀ x, Builtin.«list.sort» ⟨[.ref x], kw⟩ = ksk_tree x f b)
    (j0 : ∀ a kS h' tk, s.heap.objs.size ≤ a → s.heap.objs.size ≤ kS → kS ≠ a → (∀ b o, s.heap.get? b = some o → h'.get? b = some o) → J a kS [] { s with heap := h', toks := tk })
    (turn : ∀ (a kS : Addr) (i : Nat) (v : Value) (ks : List Value) (s' : Shared) (kA : Array Value) (e e1 : Nat), vs[i]? = some v → ks.length = i → J a kS ks s' → s'.heap.get? kS = some (seqObj "list" kA e) → s'.heap.get? a = some (seqObj "list" #[] e1) →
      wpAny (model prog w) A.in1.in1 (call f [v]) (fun u s'' => J a kS (ks ++ [u]) s'' ∧ s''.heap.get? kS = some (seqObj "list" kA e) ∧ s''.heap.get? a = some (seqObj "list" #[] e1)) (fun _ _ => False) s')
    (upd : ∀ a kS ks s' h' tk, J a kS ks s' → Heap.SameBut kS s'.heap h' → (∃ o, h'.get? kS = some o) → J a kS ks { s' with heap := h', toks := tk })
    (keys : ∀ a kS ks s', J a kS ks s' → ks.length = vs.length → EachIs (fun v k => ∃ as, Reads s'.heap v k as) ks kz)
    (h : ∀ a kS ks s' h' tk out c, J a kS ks s' → (∀ q o, q ≠ a → q ≠ kS → s'.heap.get? q = some o → h'.get? q = some o) → h'.get? a = some (seqObj "list" (List.toArray out) c) → KeyedOut b kz vs out → Q (.ref a) { s' with heap := h', toks := tk }) :
    wpAny (model prog w) A (call (.builtin "sorted") [.ref l] kw) Q E s := by
  refine sorted_of_sort hl hZ ha1 ha2 fun E' => ?_
  rw [ht]
  have ho := copyHeap_at s.heap vs
  have ha : s.heap.objs.size + 1 < (copyHeap s.heap vs).objs.size := Heap.lt_size ho
  obtain ⟨e1, ho1⟩ : ∃ e1, ((copyHeap s.heap vs).update (s.heap.objs.size + 1) (Obj.mapSeq fun _ => (#[] : Array Value))).get? (s.heap.objs.size + 1) = some (seqObj "list" #[] e1) := ⟨_, get?_update_seq ho fun _ => #[]⟩
  have hkS : (((copyHeap s.heap vs).update (s.heap.objs.size + 1) (Obj.mapSeq fun _ => (#[] : Array Value))).push (seqObj "tuple" vs.toArray 0)).objs.size = (copyHeap s.heap vs).objs.size + 1 := by rw [size_push', Heap.size_update]
  have s1 := Heap.SameBut.update (copyHeap s.heap vs) (s.heap.objs.size + 1) (Obj.mapSeq fun _ => (#[] : Array Value))
  unfold ksk_tree
  refine wpAny_bind (listItems_at ho rfl ?_)
  refine wpAny_bind (listUpdate_at ho rfl ?_ (by rw [List.size_toArray]; exact hZ) (Nat.zero_le _))
  refine wpAny_bind (seqEpoch_at ho1 rfl ?_)
  refine wpAny_bind (wpAny_newTuple ?_ (by show vs.length ≤ _; exact hZ))
  refine wpAny_bind (wpAny_newList ?_ (Nat.zero_le _))
  refine wpAny_holding ?_
  have hne : (((copyHeap s.heap vs).update (s.heap.objs.size + 1) (Obj.mapSeq fun _ => (#[] : Array Value))).push (seqObj "tuple" vs.toArray 0)).objs.size ≠ s.heap.objs.size + 1 := by rw [hkS]; exact Nat.ne_of_gt (Nat.lt_succ_of_lt ha)
  refine keyI_rest (kz := kz) (s := { s with heap := (((copyHeap s.heap vs).update (s.heap.objs.size + 1) (Obj.mapSeq fun _ => (#[] : Array Value))).push (seqObj "tuple" vs.toArray 0)).push (seqObj "list" #[] 0) })
    (kS := (((copyHeap s.heap vs).update (s.heap.objs.size + 1) (Obj.mapSeq fun _ => (#[] : Array Value))).push (seqObj "tuple" vs.toArray 0)).objs.size) (J (s.heap.objs.size + 1) _)
    (j0 _ _ _ s.toks (Nat.le_succ _) (by rw [hkS]; omega) hne fun q o e => Heap.get?_push_of_some _ (Heap.get?_push_of_some _ ((s1.2 q (Nat.ne_of_lt (Nat.lt_succ_of_lt (Heap.lt_size e)))).trans (copyHeap_old e)))) (Heap.get?_push_size _ rfl) (Heap.get?_push_of_some _ (Heap.get?_push_of_some _ ho1)) hne hlen hZ hal hsk (fun d hd => hu d hd)
    (fun i v ks s' kA e => turn _ _ i v ks s' kA e e1) (upd _ _) (keys _ _) fun ks s' h' tk out c a1 a2 a3 a4 => ⟨rfl, h _ _ ks s' h' tk out c a1 a2 a3 a4⟩
end
end PySem.W
namespace Fx
open PySem PySem.Spec PyProof.Rows L2
/-- what is asked of the keys -/
def GoodK (ps : List PyData) : Prop := PySem.W.AllAlike ps ∧ PySem.W.Sortable ps ∧ ∀ p ∈ ps, p.depth ≤ 60
def sortP (ds : List D) (ps : List PyData) : List D := ((ds.zip ps).mergeSort (PySem.W.dataLe false Prod.snd)).map Prod.fst
def keysD (F : Pf) (vh : List Cell) (ds : List D) : Option (List D) := mapO (fun x => F [x] vh) ds
noncomputable def sortKM (F : Pf) (ds : List D) : M Cell := fun s => match keysD F s.vh ds with
  | some kds => match pyL kds with
    | some ps => open Classical in if GoodK ps ∧ ds.length ≤ 16777216 then .ok (.lst (sortP ds ps)) s else .bad
    | none => .bad
  | none => .bad
noncomputable def sortKN (F : Pf) (d : D) : M Cell := fun s => match itemsOf s d with
  | some ds => match d with
    | .lst _ | .cell _ => sortKM F ds s
    | _ => .bad
  | none => .bad
theorem mapO_length {f : D → Option D} : ∀ {xs ys : List D}, mapO f xs = some ys → ys.length = xs.length
  | [], ys, h => by cases h; rfl
  | x :: xs, ys, h => by
    unfold mapO at h
    cases h1 : f x with
    | none => rw [h1] at h; cases h
    | some y =>
      cases h2 : mapO f xs with
      | none => rw [h1, h2] at h; cases h
      | some zs => rw [h1, h2] at h; cases h; rw [List.length_cons, List.length_cons, mapO_length h2]
theorem mapO_at {f : D → Option D} : ∀ {xs ys : List D} {i : Nat} {x : D}, mapO f xs = some ys → xs[i]? = some x → ∃ y, ys[i]? = some y ∧ f x = some y
  | [], ys, i, x, h, e => by cases e
  | z :: xs, ys, i, x, h, e => by
    unfold mapO at h
    cases h1 : f z with
    | none => rw [h1] at h; cases h
    | some y =>
      cases h2 : mapO f xs with
      | none => rw [h1, h2] at h; cases h
      | some zs =>
        rw [h1, h2] at h; cases h
        cases i with
        | zero => cases e; exact ⟨y, rfl, h1⟩
        | succ i => exact mapO_at (i := i) h2 e
theorem pyL_length : ∀ {ds : List D} {ps : List PyData}, pyL ds = some ps → ps.length = ds.length
  | [], ps, h => by cases h; rfl
  | x :: xs, ps, h => by
    unfold pyL at h
    cases h1 : pyT x with
    | none => rw [h1] at h; cases h
    | some y =>
      cases h2 : pyL xs with
      | none => rw [h1, h2] at h; cases h
      | some zs => rw [h1, h2] at h; cases h; rw [List.length_cons, List.length_cons, pyL_length h2]
theorem RepL.snoc {K : PySem.W.Frag} {w : Wd} {v : V} {d : D} (r : Rep K w v d) : ∀ {vs : List V} {ds : List D}, RepL K w vs ds → RepL K w (vs ++ [v]) (ds ++ [d])
  | _, _, .nil => .cons r .nil
  | _, _, .cons h t => .cons h (RepL.snoc r t)
theorem RepL.at' {K : PySem.W.Frag} {w : Wd} : ∀ {vs : List V} {ds : List D} {i : Nat} {v : V}, RepL K w vs ds → vs[i]? = some v → ∃ d, ds[i]? = some d ∧ Rep K w v d
  | _, _, _, _, .nil, e => by cases e
  | _, _, 0, _, .cons h _, e => by cases e; exact ⟨_, rfl, h⟩
  | _, _, i + 1, _, .cons _ t, e => RepL.at' (i := i) t e
theorem Vals.at' : ∀ {xs : List V} {us : List Value} {i : Nat} {u : Value}, Vals xs us → us[i]? = some u → ∃ x, xs[i]? = some x ∧ RelV x u
  | _, _, _, _, .nil, e => by cases e
  | _, _, 0, _, .cons h _, e => by cases e; exact ⟨_, rfl, h⟩
  | _, _, i + 1, _, .cons _ t, e => Vals.at' (i := i) t e
theorem each_rep {K : PySem.W.Frag} {w : Wd} : ∀ {vs : List V} {ds : List D} {us : List Value} {ps : List PyData}, RepL K w vs ds → Vals vs us → ps.length = ds.length →
    PySem.W.EachIs (fun (u : Value) (b : D × PyData) => ∃ x, RelV x u ∧ Rep K w x b.1) us (ds.zip ps)
  | _, _, _, [], .nil, .nil, _ => .nil
  | _, _, _, p :: ps, .cons h t, .cons r rs, e => .cons ⟨_, r, h⟩ (each_rep t rs (by simpa using e))
theorem rep_each {K : PySem.W.Frag} {w : Wd} : ∀ {us : List Value} {bs : List (D × PyData)}, PySem.W.EachIs (fun (u : Value) (b : D × PyData) => ∃ x, RelV x u ∧ Rep K w x b.1) us bs → ∃ vs, Vals vs us ∧ RepL K w vs (bs.map Prod.fst)
  | _, _, .nil => ⟨[], .nil, .nil⟩
  | _, _, .cons ⟨x, r, h⟩ t => let ⟨vs, a, b⟩ := rep_each t; ⟨x :: vs, .cons r a, .cons h b⟩
variable {X : Cx} {W : WX}
def rSortK (K : PySem.W.Frag) (F : Pf) (f : Addr) : List V → List V → Hp → VK → Prop := fun vs zs H Q => ∃ (a : Addr) (w : Wd) (σ : L2.St) (st : S) (xs : List V) (ds kds : List D) (ps : List PyData), vs = [.ref a] ∧ zs = [.ref f] ∧ RS K w H σ st ∧ SqL K H a xs ∧ RepL K w xs ds ∧
  keysD F st.vh ds = some kds ∧ pyL kds = some ps ∧ GoodK ps ∧ ds.length ≤ 16777216 ∧ ∀ w' H' v, Le w H w' H' → RS K w' H' σ st → (pN K).p H w' H' v (.lst (sortP ds ps)) → Q v H'
theorem cr_sortK {f : Addr} {fd : FuncData} {pn : List Str} {k : Nat} {F : Pf} (hps : pn.length = 1) (hb : Binds X.K fd pn []) (G : FnOk X.prog X.w X.K X.mg X.base CX0 k f fd pn (SpP X.K 1 F)) (hr : Room (k + 2) X.A) :
    CallRK X (.builtin "sorted") [Str.ofString "key"] (rSortK X.K F f) := by
  intro pins s σ H vs zs us ws Q I r rz h
  obtain ⟨a, w, σ0, st, xs, ds, kds, ps, rfl, rfl, R, hs, hx, hk, hp, hg, hz, q⟩ := h
  obtain rfl := Vals.ref1 r
  obtain ⟨w1, rfl, e1⟩ := vals1 rz
  obtain rfl : w1 = Value.ref f := e1
  obtain ⟨its, rv, hl, hz2⟩ := I.list hs
  have l1 := RepL.length hx
  have l2 := rv.length
  have l3 := mapO_length hk
  have l4 := pyL_length hp
  have hu : X.A.units + 66 < cLine := by have := hr.un; omega
  refine PySem.W.sortedI_key (b := false) (kz := ps) (vs := its)
    (fun a' kS ks s' => s.heap.objs.size ≤ a' ∧ s.heap.objs.size ≤ kS ∧ kS ≠ a' ∧ ∃ w' H' kvs, Inv X pins σ H' s' ∧ Le w H w' H' ∧ RS X.K w' H' σ0 st ∧ Vals kvs ks ∧ RepL X.K w' kvs (kds.take ks.length) ∧ H' a' = none ∧ H' kS = none)
    hl.isList (by omega) (by omega) hg.1 hg.2.1 (fun d hd => by have := hg.2.2 d hd; omega) (PyProof.Rows.ksk_s1 _ _) (fun _ => PyProof.Rows.ksk_l1 _ _) (fun _ => PyProof.Rows.ksk_t1 _ _)
    (fun a' kS h' tk h1 h2 h3 h4 => ⟨h1, h2, h3, w, H, [], I.kept (t' := tk) h4, Le.refl _ _, R, .nil, by rw [List.length_nil, List.take_zero]; exact .nil, I.hok.fresh h1, I.hok.fresh h2⟩) ?turn ?upd ?keys ?fin
  case turn =>
    intro a' kS i v ks s' kA e e1 hv hi ⟨h1, h2, h3, w', H', kvs, I', l', R', rk, hk', n1, n2⟩ g1 g2
    obtain ⟨y, hy, ry⟩ := Vals.at' rv hv
    obtain ⟨d, hd, rd⟩ := RepL.at' hx hy
    obtain ⟨kd, hkd, hF⟩ := mapO_at hk hd
    have f1 := I.fpOk h1 n1
    have f2 := I.fpOk h2 n2
    have I2 : Inv X ((kS, seqObj "list" kA e) :: (a', seqObj "list" #[] e1) :: pins) σ H' s' := I'.pins_of fun p hp => by
      rcases List.mem_cons.mp hp with rfl | hp
      · exact ⟨g1, n2, f2.2.1, f2.2.2.1, fun v z => by cases z⟩
      · rcases List.mem_cons.mp hp with rfl | hp
        · exact ⟨g2, n1, f1.2.1, f1.2.2.1, fun v z => by cases z⟩
        · exact I'.pin p (List.mem_append_right _ hp)
    have r2 : Vals [y] [v] := .cons ry .nil
    have hr2 : Room k X.A.in1.in1 := hr.in1.in1
    have sp : SpP X.K 1 F [y] H' (fun u H2 => ∃ w2, Le w' H' w2 H2 ∧ RS X.K w2 H2 σ0 st ∧ Rep X.K w2 u kd) (fun _ _ _ => False) := ⟨rfl, w', σ0, st, [d], kd, R', .cons (Rep.up l' rd) .nil, hF, fun w2 H2 u l2 R2 r2 => ⟨w2, l2, R2, r2⟩⟩
    refine wpAny_call (codeAny_mono (G.run X.A.in1.in1 X.stack s' H' ⟨[v], []⟩ [v] [y] _ _ hr2 I2.env0.in1.in1 (hb s' [v] I2.kIn (by rw [hps]; rfl)) r2 sp) fun r s'' hq => ?_)
    cases r with
    | error e => exact hq.elim
    | ok fl =>
      cases fl with
      | next => exact False.elim hq
      | brk => exact False.elim hq
      | cont => exact False.elim hq
      | ret u =>
        obtain ⟨x, H2, I3, rx, w2, l2, R2, rk2⟩ := I2.after hq
        have p1 := I3.pin (kS, seqObj "list" kA e) (List.mem_append_right _ (.head _))
        have p2 := I3.pin (a', seqObj "list" #[] e1) (List.mem_append_right _ (.tail _ (.head _)))
        refine ⟨⟨h1, h2, h3, w2, H2, kvs ++ [x], I3.pins_of fun p hp => I3.pin p (List.mem_append_right _ (.tail _ (.tail _ hp))), l'.trans l2, R2, rk.append (.cons rx .nil), ?_, p2.2.1, p1.2.1⟩, p1.1, p2.1⟩
        rw [List.length_append, List.length_cons, List.length_nil, Nat.zero_add, List.take_add_one]
        rw [hi] at hk' ⊢
        rw [hkd]
        exact RepL.snoc rk2 (RepL.up l2 hk')
  case upd =>
    intro a' kS ks s' h' tk ⟨h1, h2, h3, w', H', kvs, I', l', R', rk, hk', n1, n2⟩ hs2 _
    have f2 := I.fpOk h2 n2
    exact ⟨h1, h2, h3, w', H', kvs, I'.turned (t' := tk) (fun b o hb e => (hs2.2 b hb).trans e) n2 f2.2.1 f2.2.2.2.1 f2.2.2.2.2.1 f2.2.2.2.2.2, l', R', rk, hk', n1, n2⟩
  case keys =>
    intro a' kS ks s' ⟨h1, h2, h3, w', H', kvs, I', l', R', rk, hk', n1, n2⟩ hlen
    rw [hlen, List.take_of_length_le (by omega)] at hk'
    obtain ⟨as, ra⟩ := Dp.readsAll I' ps kvs ks (dpL_of R'.sub hk' hp) rk
    have := PySem.W.readsAll_each (enc := id) (vs := ks) (bs := ps) (as := as) (h := s'.heap) (by rw [List.map_id]; exact ra)
    exact this
  case fin =>
    intro a' kS ks s' h' tk out c ⟨h1, h2, h3, w', H', kvs, I', l', R', rk, hk', n1, n2⟩ hkeep hD ko
    have e0 : (ds.zip ps).map Prod.snd = ps := List.map_snd_zip (by omega)
    have eo := PySem.W.keyedOut_each (R := fun (u : Value) (b : D × PyData) => ∃ x, RelV x u ∧ Rep X.K w' x b.1) (bs := ds.zip ps) (vs := its) (out := out) (rev := false) Prod.snd (by rw [e0]; exact ko) (each_rep (RepL.up l' hx) rv (by omega))
    obtain ⟨ys, ry, hy⟩ := rep_each eo
    have hly : ys.length ≤ sizeLine := by
      rw [RepL.length hy, List.length_map, List.length_mergeSort, List.length_zip]
      omega
    have f1 := I.fpOk h1 n1
    have f2 := I.fpOk h2 n2
    have na : ∀ b u, H' b = some u → b ≠ a' := fun b u e z => by rw [z, n1] at e; cases e
    have nk : ∀ b u, H' b = some u → b ≠ kS := fun b u e z => by rw [z, n2] at e; cases e
    have up : ∀ b u, H' b = some u → upd H' a' (.lst ys) b = some u := fun b u e => by rw [upd_ne (na b u e)]; exact e
    have kp : ∀ b o, b ∉ [a', kS] → s'.heap.get? b = some o → h'.get? b = some o := fun b o hb e => hkeep b o (fun z => hb (by simp [z])) (fun z => hb (by simp [z])) e
    have J : Inv X pins σ (upd H' a' (.lst ys)) { s' with heap := h', toks := tk } := by
      refine I'.step (g' := s'.gens) (d' := s'.drawn) (ch := [a', kS]) (fun b hb => ?_) (fun b o _ _ hc e _ => kp b o hc e) (fun b o _ _ hc e _ => ⟨o.slots, kp b o hc e⟩) (fun b o hc _ n => by rw [upd_ne (fun z => hc (by simp [z]))]; exact n)
        (fun b o hc e => ⟨o, kp b o hc e⟩) (fun b _ e => up b _ e) (fun b _ _ e => up b _ e) (fun b ps e => ⟨#[], by rw [up b _ e]; simp⟩) (fun m hm => ?_) (fun b u e => ?_) I'.bare
      · rcases List.mem_cons.mp hb with rfl | hb
        · exact ⟨f1.2.2.2.1, f1.2.1, f1.2.2.2.2.1, f1.2.2.2.2.2⟩
        · rw [List.mem_singleton.mp hb]
          exact ⟨f2.2.2.2.1, f2.2.1, f2.2.2.2.2.1, f2.2.2.2.2.2⟩
      · obtain ⟨o, es, ep, ho, r⟩ := hm
        exact ⟨o, es, ep, hkeep _ o (Ne.symm f1.2.1) (Ne.symm f2.2.1) ho, r⟩
      · by_cases hb : b = a'
        · subst hb
          rw [upd_same] at e
          cases e
          exact ⟨hly, out, c, ry, hD⟩
        · rw [upd_ne hb] at e
          refine (I'.hok b u e).stay (fun c v hc z => hkeep c v ?_ ?_ z) (fun c z => up c _ z) fun c xs z => up c _ z
          · rcases hc with hc | hc
            · rw [hc]; exact hb
            · exact na c _ hc
          · rcases hc with hc | hc
            · rw [hc]; exact nk b _ e
            · exact nk c _ hc
    exact ⟨.ref a', upd H' a' (.lst ys), J, rfl, q w' _ (.ref a') (l'.trans (Le.laid n1)) (R'.laid n1) ⟨a', rfl, (R'.fresh n1).1, (R'.fresh n1).2, ⟨ys, upd_same, hy⟩, I.hok.fresh h1⟩⟩
theorem dn_sortK {y : Str} {k : Nat} {F : Pf} {e : Expr} {fe : M D} {p p2 kp pos : Pos} (hm : X.mg "sorted" = none) (h : FnP X.prog X.w X.K X.mg X.base y 1 k F) (hr : Room (k + 2) X.A) (he' : DE X W e fe) (hg : Gl X "sorted" := by rfl) (hgy : Gl X y := by rfl) (hdy : (y == ("__debug__" : Str)) = false := by decide)
    (hs : starEach [e] X.env = (false, eval e X.env) :: starEach [] X.env := by rfl) (he : backTo pos (starEach [e] X.env) = (false, eval e X.env) :: backTo pos (starEach [] X.env) := by rfl) (hpl : (backTo pos (starEach [e] X.env)).any (·.1) = false := by rfl) :
    DN X W (.Call (.Name "sorted" p) [e] [⟨some "key", .Name y p2, kp⟩] pos) (bnd fe (sortKN F)) := by
  obtain ⟨f, fd, ps, hps, hmy, hk, hb, G⟩ := h.ex
  obtain ⟨t, q, r⟩ := he'
  refine ⟨_, pe_callBK (cr_sortK hps hb G hr) hg hm rfl (pa_cons q pa_nil hs) (pk_cons (pe_glob hgy hmy (v := .ref f) rfl hdy) pk_nil) (by decide) (by decide) he hpl, fun w H σ s Q R z => ?_⟩
  show t σ H fun v H1 => rSortK X.K F f [v] [.ref f] H1 Q
  refine r.bnd R z fun d s1 w1 H1 v l1 R1 r1 p1 => ?_
  unfold sortKN at p1
  split at p1
  · next ds hd =>
    have main : ∀ (hl : lstOf s1 d = some ds), Post X.K W (pN X.K) w1 H1 σ (sortKM F ds s1) Q → rSortK X.K F f [v] [.ref f] H1 Q := fun hl p1 => by
      obtain ⟨a, xs, rfl, h1, h2⟩ := R1.list r1 hl
      unfold sortKM at p1
      split at p1
      · next kds hk =>
        split at p1
        · next ps hp =>
          split at p1
          · next k =>
            exact ⟨a, w1, σ, s1, xs, ds, kds, ps, rfl, rfl, R1, h1, h2, hk, hp, k.1, k.2, p1⟩
          · exact p1.elim
        · exact p1.elim
      · exact p1.elim
    cases d with
    | lst xs => exact main hd p1
    | cell n => exact main hd p1
    | _ => exact p1.elim
  · exact p1.elim
end Fx

/-! Fx: more methods of lists -/
namespace Fx
open PySem PySem.Spec PyProof.Rows L2
variable {X : Cx} {W : WX}
/-- insert(i, x), i not below 0 -/
def insM (d : D) : List D → M D
  | [.int i, e] => wrM d fun ds s => if ds.length < sizeLine ∧ 0 ≤ i ∧ i < 2 ^ 62 then .ok (ds.take i.toNat ++ [e] ++ ds.drop i.toNat, .non) s else .bad
  | _ => fail
theorem RepL.dropN {K : PySem.W.Frag} {w : Wd} : ∀ {vs : List V} {ds : List D} (n : Nat), RepL K w vs ds → RepL K w (vs.drop n) (ds.drop n)
  | _, _, 0, h => by rw [List.drop_zero, List.drop_zero]; exact h
  | _, _, n + 1, .nil => by rw [List.drop_nil, List.drop_nil]; exact .nil
  | _, _, n + 1, .cons _ t => by rw [List.drop_succ_cons, List.drop_succ_cons]; exact RepL.dropN n t
theorem rm_insert : RMt X (fun x vs H Q => ∃ (l : Addr) (xs : List V) (i : Int) (y : V), x = .ref l ∧ vs = [.int i, y] ∧ H l = some (.lst xs) ∧ xs.length < sizeLine ∧ 0 ≤ i ∧ i < 2 ^ 63 ∧
    Q .non (upd H l (.lst (xs.take i.toNat ++ [y] ++ xs.drop i.toNat)))) insM := by
  intro W w H σ s v vs d ds Q R r rs p
  unfold insM at p
  split at p
  · next i e =>
    obtain ⟨u, u2, rfl, ru, ru2⟩ := two_of rs
    cases ru
    obtain ⟨a, us, ds, es, y, s', rfl, h1, h2, h3, h4⟩ := R.wr r p
    split at h3
    · next k =>
      cases h3
      exact ⟨a, us, i, u2, rfl, rfl, h1, by rw [RepL.length h2]; exact k.1, k.2.1, Int.lt_trans k.2.2 (by decide), h4 rfl _ _ (RepL.append (RepL.append (RepL.take _ h2) (.cons ru2 .nil)) (RepL.dropN _ h2)) Rep.non⟩
    · cases h3
  · exact p.elim
theorem de_insert {o e e2 : Expr} {f : M D} {fs : M (List D)} {ap pos : Pos} (ho : DE X W o f) (ha : DA X W [e, e2] fs) (hbase : attributeBase o "insert" X.env (eval o X.env) = eval o X.env := by rfl)
    (hfew : ((backTo pos (starEach [e, e2] X.env)).all (fun x => !x.1) && (backToKw pos (keywordEach [] X.env)).all (fun x => x.1.isSome)
      && decide (([e, e2] : List Expr).length + ([] : List Keyword).length + (if ([] : List Keyword).isEmpty then 0 else 1) < 30)) = true := by rfl)
    (hline : (ap.endLine == pos.line) = true := by rfl) (hs : starEach [e, e2] X.env = (false, eval e X.env) :: starEach [e2] X.env := by rfl) (hplain : (backTo pos (starEach [e2] X.env)).any (·.1) = false := by rfl) :
    DE X W (.Call (.Attribute o "insert" ap) [e, e2] [] pos) (methM "list" f fs insM) :=
  de_meth rm_insert PySem.F.plainAttrs_list PySem.F.slot_list_insert PySem.F.type_list_insert mt_insert ho ha hbase hfew hline hs hplain
/-- pop() -/
def popM (d : D) : M D := wrM d fun ds s => match ds[ds.length - 1]? with
  | some e => .ok (ds.dropLast, e) s
  | none => .bad
theorem RepL.dropLast {K : PySem.W.Frag} {w : Wd} {vs : List V} {ds : List D} (h : RepL K w vs ds) : RepL K w vs.dropLast ds.dropLast := by
  rw [List.dropLast_eq_take, List.dropLast_eq_take, RepL.length h]
  exact RepL.take _ h
theorem RepL.at2 {K : PySem.W.Frag} {w : Wd} : ∀ {vs : List V} {ds : List D} {i : Nat} {d : D}, RepL K w vs ds → ds[i]? = some d → ∃ v, vs[i]? = some v ∧ Rep K w v d
  | _, _, _, _, .nil, e => by cases e
  | _, _, 0, _, .cons h _, e => by cases e; exact ⟨_, rfl, h⟩
  | _, _, i + 1, _, .cons _ t, e => RepL.at2 (i := i) t e
def RMt0 (X : Cx) (r : V → List V → Hp → VK → Prop) (g : D → M D) : Prop := ∀ (W : WX) w H σ s v d Q, RS X.K w H σ s → Rep X.K w v d → Post X.K W (pD X.K) w H σ (g d s) Q → r v [] H Q
theorem de_meth00 {o : Expr} {f : M D} {g : D → M D} {name : Str} {ap pos : Pos} {T id : String} {r : V → List V → Hp → VK → Prop} (hr : RMt0 X r g) (pa : PlainAttrs T) (slot : Slot T name id) (hty : typeOf (.builtin id) = pure (.type "method_descriptor")) (hm : MtR X id r)
    (ho : DE X W o f) (hbase : attributeBase o name X.env (eval o X.env) = eval o X.env := by rfl) (hline : (ap.endLine == pos.line) = true := by rfl) :
    DE X W (.Call (.Attribute o name ap) [] [] pos) (meth0M T f g) := by
  obtain ⟨to, po, ro⟩ := ho
  refine ⟨_, pe_bm0 pa slot hty hm po hbase hline, fun w H σ s Q R z => ?_⟩
  refine ro.bnd R z fun d s1 w1 H1 v l1 R1 r1 p1 => ?_
  split at p1
  · next k => exact ⟨tyV_of R1 r1 k, hr W w1 H1 σ s1 v d Q R1 r1 p1⟩
  · exact p1.elim
theorem rm_pop : RMt0 X rPop popM := by
  intro W w H σ s v d Q R r p
  obtain ⟨a, us, ds, es, y, s', rfl, h1, h2, h3, h4⟩ := R.wr r p
  split at h3
  · next e he =>
    cases h3
    obtain ⟨u, hu, ru⟩ := RepL.at2 h2 he
    exact ⟨a, us, u, rfl, rfl, h1, by rw [RepL.length h2]; exact hu, h4 rfl _ _ (RepL.dropLast h2) ru⟩
  · cases h3
theorem de_pop {o : Expr} {f : M D} {ap pos : Pos} (ho : DE X W o f) (hbase : attributeBase o "pop" X.env (eval o X.env) = eval o X.env := by rfl) (hline : (ap.endLine == pos.line) = true := by rfl) :
    DE X W (.Call (.Attribute o "pop" ap) [] [] pos) (meth0M "list" f popM) := de_meth00 rm_pop PySem.F.plainAttrs_list PySem.F.slot_list_pop PySem.F.type_list_pop mt_pop ho hbase hline
def clrM (d : D) : M D := wrM d fun _ s => .ok ([], .non) s
theorem rm_clear : RMt0 X rClear clrM := by
  intro W w H σ s v d Q R r p
  obtain ⟨a, us, ds, es, y, s', rfl, h1, h2, h3, h4⟩ := R.wr r p
  cases h3
  exact ⟨a, us, rfl, rfl, h1, h4 rfl _ _ .nil Rep.non⟩
theorem de_clear {o : Expr} {f : M D} {ap pos : Pos} (ho : DE X W o f) (hbase : attributeBase o "clear" X.env (eval o X.env) = eval o X.env := by rfl) (hline : (ap.endLine == pos.line) = true := by rfl) :
    DE X W (.Call (.Attribute o "clear" ap) [] [] pos) (meth0M "list" f clrM) := de_meth00 rm_clear PySem.F.plainAttrs_list PySem.F.slot_list_clear PySem.F.type_list_clear mt_clear ho hbase hline
/-- isinstance(x, (A, B)) -/
def isa2M (A B : String) (d : D) : M D := fun s => match tyName s d with
  | some a => .ok (.bl (isaT A a || isaT B a)) s
  | none => .bad
end Fx

/-! Fx: defs that write cells of the caller, or hand back cells of their own -/
namespace Fx
open PySem PySem.Spec PyProof.Rows L2
variable {X : Cx} {W : WX}
abbrev Sf := List D → List Cell → Option (D × List Cell)
noncomputable def runS (n : Nat) (g : M Out) : Sf := fun ds vh => match g (initS n ds vh) with
  | .ok (.rt d) s => some (d, s.vh)
  | .ok .nx s => some (.non, s.vh)
  | _ => none
def SpS (K : PySem.W.Frag) (n : Nat) (F : Sf) : Sp := fun vs H Q _ => vs.length = n ∧ ∃ w σ s ds d vh, RS K w H σ s ∧ RepL K w vs ds ∧ F ds s.vh = some (d, vh) ∧ ∀ w' H' v, Le w H w' H' → RS K w' H' σ ⟨s.loc, vh⟩ → Rep K w' v d → Q v H'
theorem start_ok {K : PySem.W.Frag} {w : Wd} {H : Hp} {σ : L2.St} {z : S} {vs : List V} {ds : List D} {N : List Str} {ps : List Str} (R : RS K w H σ z) (rv : RepL K w vs ds) : RS K w H (start N vs) (initS N.length ds z.vh) := by
  have hdl := RepL.length rv
  refine R.other (l := ds.map some ++ List.replicate (N.length - ds.length) none) ?_ fun i d hi => ?_
  · show (vs.map some ++ List.replicate (N.length - vs.length) none).length = _
    simp only [List.length_append, List.length_map, List.length_replicate]
    rw [hdl]
  · by_cases hlt : i < ds.length
    · rw [List.getElem?_append_left (by rw [List.length_map]; exact hlt), List.getElem?_map] at hi
      cases h2 : ds[i]? with
      | none => rw [h2] at hi; cases hi
      | some d2 =>
        rw [h2] at hi; cases hi
        obtain ⟨v, h3, h4⟩ := RepL.get rv h2
        refine ⟨v, ?_, h4⟩
        show (vs.map some ++ _)[i]? = _
        rw [List.getElem?_append_left (by rw [List.length_map, hdl]; exact hlt), List.getElem?_map, h3]; rfl
    · rw [List.getElem?_append_right (by rw [List.length_map]; omega)] at hi
      have := List.mem_of_getElem? hi
      rw [List.mem_replicate] at this
      cases this.2
theorem fn_st {P : Program} {wd : World} {K : PySem.W.Frag} {mg : Str → Option Value} {base : Heap} {x qual : Str} {st : Stmt} {f : Addr} {fd : FuncData} {N ps : List Str} {k : Nat} {g : M Out} (F : Fun K x qual st f fd) (Sc : FnScope N ps (defScope st)) (hle : ps.length ≤ N.length)
    (body : ∀ (cdv : Value) (A : Around) (outer : List Env) (s : Shared) (H : Hp) (E : XK), Room k (A.deeper (envOfC qual (defScope st) s.heap.objs.size f cdv)) →
      DSs (cxOf CX0 P wd K mg base N qual (defScope st) f cdv A outer s H E).nox W0 (defBody st) g) : FnOk P wd K mg base CX0 (k + 1) f fd ps (SpS K ps.length (runS N.length g)) := by
  refine F.ok Sc (fun vs H Q E h => h.1) fun cdv A outer s H vs Q E hr h => ?_
  obtain ⟨t, p, r⟩ := body cdv A outer s H E hr
  obtain ⟨hl, w, σ, z, ds, d, vh, R, rv, e, q⟩ := h
  refine ⟨t, p, r w H _ (initS N.length ds z.vh) _ (start_ok (ps := ps) R rv) ?_⟩
  show PostS K W0 w H (g (initS N.length ds z.vh)) _
  unfold runS at e
  have fin_ok : ∀ {d0 : D} {s1 : S}, some (d0, s1.vh) = some (d, vh) → ∀ w' H' σ' v, Le w H w' H' → RS K w' H' σ' s1 → Rep K w' v d0 → Q v H' := fun {d0 s1} e w' H' σ' v l R' rv => by
    cases e
    refine q _ _ _ l (R'.other (l := z.loc) R.len fun i d hi => ?_) rv
    obtain ⟨v, h1, h2⟩ := R.loc i d hi
    exact ⟨v, h1, Rep.up l h2⟩
  cases hg : g (initS N.length ds z.vh) with
  | bad => rw [hg] at e; cases e
  | exc x s1 => rw [hg] at e; cases e
  | ok o s1 =>
    rw [hg] at e
    cases o with
    | brk => cases e
    | cnt => cases e
    | rt d0 => exact fun w' H' σ' v l R' rv => fin_ok e w' H' σ' v l R' rv
    | nx => exact fun w' H' σ' l R' => fin_ok e w' H' σ' .non l R' .non
structure FnS (P : Program) (wd : World) (K : PySem.W.Frag) (mg : Str → Option Value) (base : Heap) (x : Str) (n k : Nat) (F : Sf) : Prop where
  ex : ∃ (f : Addr) (fd : FuncData) (ps : List Str), ps.length = n ∧ mg x = some (.ref f) ∧ PySem.W.keepIn K (.ref f) = true ∧ Binds K fd ps [] ∧ FnOk P wd K mg base CX0 k f fd ps (SpS K n F)
theorem FnS.mono {P : Program} {wd : World} {K : PySem.W.Frag} {mg : Str → Option Value} {base : Heap} {x : Str} {n j k : Nat} {F : Sf} (h : FnS P wd K mg base x n j F) (l : j ≤ k) : FnS P wd K mg base x n k F :=
  let ⟨f, fd, ps, a, b, c, d, e⟩ := h.ex; ⟨f, fd, ps, a, b, c, d, e.mono l⟩
def callS (n : Nat) (F : Sf) (ds : List D) : M D := fun s => if ds.length = n then match F ds s.vh with
  | some (d, vh) => .ok d ⟨s.loc, vh⟩
  | none => .bad else .bad
theorem de_callS {x : Str} {n k : Nat} {F : Sf} {e : Expr} {es : List Expr} {fs : M (List D)} {p pos : Pos} (h : FnS X.prog X.w X.K X.mg X.base x n k F) (hr : Room k X.A) (ha : DA X W (e :: es) fs) (hg : Gl X x := by rfl) (hdb : (x == ("__debug__" : Str)) = false := by decide)
    (he : starEach (e :: es) X.env = (false, eval e X.env) :: starEach es X.env := by rfl) (hpl : (backTo pos (starEach es X.env)).any (·.1) = false := by rfl) : DE X W (.Call (.Name x p) (e :: es) [] pos) (bnd fs (callS n F)) := by
  obtain ⟨f, fd, ps, hps, hm, hk, hb, G⟩ := h.ex
  obtain ⟨t, q, r⟩ := ha
  refine ⟨_, pe_call G hr hg hm hk hb .nil pass0 q hdb he hpl, fun w H σ s Q R z => ?_⟩
  refine r.bnd R z fun ds s1 w1 H1 vs l1 R1 r1 p1 => ?_
  have p1 : Post X.K W (pD X.K) w1 H1 σ (if ds.length = n then match F ds s1.vh with
    | some (d, vh) => .ok d ⟨s1.loc, vh⟩
    | none => .bad else .bad) Q := p1
  by_cases hl : ds.length = n
  · rw [if_pos hl] at p1
    cases hF : F ds s1.vh with
    | none => rw [hF] at p1; exact p1.elim
    | some dv =>
      obtain ⟨d, vh⟩ := dv
      rw [hF] at p1
      refine ⟨?_, w1, σ, s1, ds, d, vh, R1, ?_, hF, fun w' H' v l R' r' => p1 w' H' v l R' r'⟩
      · rw [List.append_nil, RepL.length r1]; exact hl
      · rw [List.append_nil]; exact r1
  · rw [if_neg hl] at p1; exact p1.elim
end Fx
namespace Fx
open PySem PySem.Spec PyProof.Rows L2
theorem Top.fnS {P : Program} {wd : World} {K : PySem.W.Frag} {mg : Str → Option Value} {base : Heap} {x : Str} {st : Stmt} {N ps : List Str} {k : Nat} {g : M Out} (T : Top K mg x st ps) (Sc : FnScope N ps (defScope st)) (hle : ps.length ≤ N.length)
    (body : ∀ (f : Addr) (cdv : Value) (A : Around) (outer : List Env) (s : Shared) (H : Hp) (E : XK), Room k (A.deeper (envOfC x (defScope st) s.heap.objs.size f cdv)) →
      DSs (cxOf CX0 P wd K mg base N x (defScope st) f cdv A outer s H E).nox W0 (defBody st) g) : FnS P wd K mg base x ps.length (k + 1) (runS N.length g) :=
  let ⟨f, fd, F, m, b, _⟩ := T.ex
  ⟨f, fd, ps, rfl, m, F.kp, b, fn_st F Sc hle fun cdv A outer s H E hr => body f cdv A outer s H E hr⟩
/-- a def that is never called (the bottom of a recursion) -/
theorem Top.nil {P : Program} {wd : World} {K : PySem.W.Frag} {mg : Str → Option Value} {base : Heap} {x : Str} {st : Stmt} {ps : List Str} {k : Nat} (T : Top K mg x st ps) : FnP P wd K mg base x ps.length k (fun _ _ => none) :=
  let ⟨f, fd, F, m, b, _⟩ := T.ex
  ⟨f, fd, ps, rfl, m, F.kp, b, fun _ _ _ _ h => h.1, fun _ _ _ _ _ _ _ _ _ _ _ _ _ h => by obtain ⟨_, _, _, _, _, _, _, _, e, _⟩ := h; cases e⟩
theorem Top.nilS {P : Program} {wd : World} {K : PySem.W.Frag} {mg : Str → Option Value} {base : Heap} {x : Str} {st : Stmt} {ps : List Str} {k : Nat} (T : Top K mg x st ps) : FnS P wd K mg base x ps.length k (fun _ _ => none) :=
  let ⟨f, fd, F, m, b, _⟩ := T.ex
  ⟨f, fd, ps, rfl, m, F.kp, b, fun _ _ _ _ h => h.1, fun _ _ _ _ _ _ _ _ _ _ _ _ _ h => by obtain ⟨_, _, _, _, _, _, _, _, _, e, _⟩ := h; cases e⟩
end Fx

/-! Fx: isinstance(x, (A, B)), zip of two lists or of two tuples -/
namespace Fx
open PySem PySem.Spec PyProof.Rows L2
variable {X : Cx} {W : WX}
theorem kit_two {K : PySem.W.Frag} {a A B : String} (h1 : PySem.W.kitOne K (.type a) (.type A) = some (isaT A a)) (h2 : PySem.W.kitOne K (.type a) (.type B) = some (isaT B a)) : PySem.W.kitAny K (.type a) [.type A, .type B] = some (isaT A a || isaT B a) := by
  unfold PySem.W.kitAny
  rw [h1]
  cases isaT A a with
  | true => rfl
  | false =>
    dsimp only
    unfold PySem.W.kitAny
    rw [h2]
    cases isaT B a <;> rfl
theorem de_isa2 (A B : String) {e : Expr} {f : M D} {p pa pb tpos pos : Pos} {kk : Nat} (hi : X.mg "isinstance" = none) (hA : X.mg (Str.ofString A) = none) (hB : X.mg (Str.ofString B) = none) (h : DE X W e f) (hvA : bootBuiltins (Str.ofString A) = some (.type A)) (hvB : bootBuiltins (Str.ofString B) = some (.type B)) (hTA : A ∈ sixT := by decide) (hTB : B ∈ sixT := by decide)
    (hg : Gl X "isinstance" := by rfl) (hgA : Gl X (Str.ofString A) := by rfl) (hgB : Gl X (Str.ofString B) := by rfl)
    (hnA : Str.ofString A ≠ "__name__" := by decide) (hdA : (Str.ofString A == ("__debug__" : Str)) = false := by decide) (hnB : Str.ofString B ≠ "__name__" := by decide) (hdB : (Str.ofString B == ("__debug__" : Str)) = false := by decide)
    (hst : starEach [e, .Tuple [.Name (Str.ofString A) pa, .Name (Str.ofString B) pb] kk tpos] X.env = (false, eval e X.env) :: starEach [.Tuple [.Name (Str.ofString A) pa, .Name (Str.ofString B) pb] kk tpos] X.env := by rfl)
    (hst2 : starEach [.Tuple [.Name (Str.ofString A) pa, .Name (Str.ofString B) pb] kk tpos] X.env = (false, eval (.Tuple [.Name (Str.ofString A) pa, .Name (Str.ofString B) pb] kk tpos) X.env) :: starEach [] X.env := by rfl)
    (hst3 : starEach [.Name (Str.ofString A) pa, .Name (Str.ofString B) pb] X.env = (false, eval (.Name (Str.ofString A) pa) X.env) :: starEach [.Name (Str.ofString B) pb] X.env := by rfl) (hst4 : starEach [.Name (Str.ofString B) pb] X.env = (false, eval (.Name (Str.ofString B) pb) X.env) :: starEach [] X.env := by rfl)
    (hpl : (backTo pos (starEach [.Tuple [.Name (Str.ofString A) pa, .Name (Str.ofString B) pb] kk tpos] X.env)).any (·.1) = false := by rfl) :
    DE X W (.Call (.Name "isinstance" p) [e, .Tuple [.Name (Str.ofString A) pa, .Name (Str.ofString B) pb] kk tpos] [] pos) (bnd f (isa2M A B)) := by
  obtain ⟨t, q, k⟩ := h
  refine ⟨_, pe_callB call_isiT hg hi (by decide +kernel) (pa_cons q (pa_cons (pe_tup (pa_cons (pe_bltn (v := .ty A) hgA hA hvA rfl hnA hdA) (pa_cons (pe_bltn (v := .ty B) hgB hB hvB rfl hnB hdB) pa_nil hst4) hst3)) pa_nil hst2) hst) (by decide) (by decide) hst hpl, fun w H σ s Q R z => ?_⟩
  refine k.bnd R z fun d s1 w1 H1 v l1 R1 r1 p1 => ?_
  have p1 : Post X.K W (pD X.K) w1 H1 σ (match tyName s1 d with
    | some a => .ok (.bl (isaT A a || isaT B a)) s1
    | none => .bad) Q := p1
  cases ht : tyName s1 d with
  | none => rw [ht] at p1; exact p1.elim
  | some a =>
    rw [ht] at p1
    refine ⟨by show 2 ≤ sizeLine; decide, fun tp htp => ?_⟩
    have R2 : RS X.K w1 (upd H1 tp (.tup [.ty A, .ty B])) σ s1 := R1.laid htp
    refine ⟨v, tp, [.ty A, .ty B], .type a, [.type A, .type B], isaT A a || isaT B a, rfl, upd_same, .cons (.ty A) (.cons (.ty B) .nil), tyx_of R2 r1 ht, kit_two (kit_ty (kit_all A hTA a (tyName_in ht))) (kit_ty (kit_all B hTB a (tyName_in ht))), ?_⟩
    exact p1 w1 _ _ (Le.laid htp) R2 (Rep.bl _)
/-! zip -/
noncomputable def zipA : List D → M Wk
  | [a, b] => fun s => match lstOf s a, lstOf s b with
    | some xs, some ys => .ok ⟨List.zipWith D.pr xs ys, fun s' => lstOf s' a = some xs ∧ lstOf s' b = some ys⟩ s
    | _, _ => match tupOf a, tupOf b with
      | some xs, some ys => .ok ⟨List.zipWith D.pr xs ys, fun _ => True⟩ s
      | _, _ => .bad
  | _ => fun _ => .bad
theorem pI_zipT {K : PySem.W.Frag} {w0 : Wd} {a b : Addr} {d e : D} {xs ys : List D} (ra : Rep K w0 (.ref a) d) (rb : Rep K w0 (.ref b) e) (k1 : tupOf d = some xs) (k2 : tupOf e = some ys) : wkI K w0 (RZ.ItzT K a b) ⟨List.zipWith D.pr xs ys, fun _ => True⟩ := by
  intro w H σ s l R hok i
  obtain ⟨a', vs, e1, h1, h2⟩ := R.tuple (ra.upW l) k1
  cases e1
  obtain ⟨b', us, e2, h3, h4⟩ := R.tuple (rb.upW l) k2
  cases e2
  have hlen : (List.zipWith D.pr xs ys).length = min xs.length ys.length := List.length_zipWith
  refine ⟨fun hi => ?_, fun hi => ⟨vs, us, h1, h3, ?_⟩, fun x H' hy d' hd => ?_⟩
  · have hi : i < (List.zipWith D.pr xs ys).length := hi
    rw [hlen] at hi
    obtain ⟨v, hv, _⟩ := RepL.get h2 (List.getElem?_eq_getElem (show i < xs.length by omega))
    obtain ⟨u, hu, _⟩ := RepL.get h4 (List.getElem?_eq_getElem (show i < ys.length by omega))
    exact ⟨vs, us, v, u, h1, h3, hv, hu⟩
  · have hi : (List.zipWith D.pr xs ys).length ≤ i := hi
    rw [hlen] at hi
    rw [RepL.length h2, RepL.length h4]
    omega
  · obtain ⟨T, x1, y1, rfl, nT, rfl, f1, f2⟩ := hy
    have hd : (List.zipWith D.pr xs ys)[i]? = some d' := hd
    obtain ⟨v1, hv1⟩ : ∃ v, xs[i]? = some v := by
      have := (List.getElem?_eq_some_iff.mp hd).1
      rw [hlen] at this
      exact ⟨_, List.getElem?_eq_getElem (show i < xs.length by omega)⟩
    obtain ⟨v2, hv2⟩ : ∃ v, ys[i]? = some v := by
      have := (List.getElem?_eq_some_iff.mp hd).1
      rw [hlen] at this
      exact ⟨_, List.getElem?_eq_getElem (show i < ys.length by omega)⟩
    rw [List.getElem?_zipWith, hv1, hv2] at hd
    cases hd
    obtain ⟨u1, hu1, r1⟩ := RepL.get h2 hv1
    obtain ⟨u2, hu2, r2⟩ := RepL.get h4 hv2
    have e1 := f1 vs h1
    have e2 := f2 us h3
    rw [hu1] at e1; cases e1
    rw [hu2] at e2; cases e2
    obtain ⟨l2, R2, r⟩ := R.newP nT r1 r2
    exact ⟨_, l2, R2, r⟩
theorem di_zipA {es : List Expr} {kk : Nat} {tpos : Pos} {a b : Expr} {f : M (List D)} {p pos : Pos} (hm : X.mg "zip" = none) (h : DA X W [a, b] f) (hg : Gl X "zip" := by rfl)
    (hs : starEach [a, b] X.env = (false, eval a X.env) :: starEach [b] X.env := by rfl) (hpl : (backTo pos (starEach [b] X.env)).any (·.1) = false := by rfl) :
    DI X W (.Tuple es kk tpos) (.Call (.Name "zip" p) [a, b] [] pos) (bnd f zipA) := by
  obtain ⟨t, q, r⟩ := h
  refine ⟨_, RZ.pi_zipA hg hm q hs hpl, fun w H σ s R0 R z => ?_⟩
  refine r.bnd R z fun ds s1 w1 H1 vs l1 R1 r1 p1 => ?_
  cases r1 with
  | nil => exact p1.elim
  | cons h t =>
    cases t with
    | nil => exact p1.elim
    | cons h2 t2 =>
      cases t2 with
      | cons _ _ => exact p1.elim
      | nil =>
        unfold zipA at p1
        dsimp only at p1
        split at p1
        · next xs ys hx hy =>
          obtain ⟨a', vs, e1, q1, q2⟩ := R1.list h hx
          subst e1
          obtain ⟨b', us, e2, q3, q4⟩ := R1.list h2 hy
          subst e2
          exact ⟨a', b', vs, us, rfl, .inl ⟨q1, q3, p1 w1 H1 _ (Le.refl _ _) R1 (pI_zip h h2)⟩⟩
        · split at p1
          · next xs ys hx hy =>
            obtain ⟨a', vs, e1, q1, q2⟩ := R1.tuple h hx
            subst e1
            obtain ⟨b', us, e2, q3, q4⟩ := R1.tuple h2 hy
            subst e2
            exact ⟨a', b', vs, us, rfl, .inr ⟨q1, q3, p1 w1 H1 _ (Le.refl _ _) R1 (pI_zipT h h2 hx hy)⟩⟩
          · exact p1.elim
end Fx

/-! the equations by which a printed text is reckoned -/
namespace Fx
open PySem PySem.Spec PyProof.Rows L2
/-- an equation that simp is to use as a step of its own -/
theorem nr {α : Sort _} {a b : α} (h : a = b) : a = b := h
theorem runP_of {n : Nat} {g : M Out} {ds : List D} {vh : List Cell} {d : D} (h : ∃ l, g (initS n ds vh) = .ok (.rt d) ⟨l, vh⟩) (hn : nc vh.length d = true) : runP n g ds vh = some d := by
  obtain ⟨l, h⟩ := h
  unfold runP
  rw [h]
  show fin vh ⟨l, vh⟩ d = some d
  unfold fin
  rw [if_pos (by exact List.take_length)]
  unfold thaw
  rw [if_pos hn]
/-- a list that was made cell by cell is handed back -/
theorem runP_cell {n : Nat} {g : M Out} {ds : List D} {vh more : List Cell} {es : List D} {k : Nat} (h : ∃ l, g (initS n ds vh) = .ok (.rt (.cell (vh.length + k))) ⟨l, vh ++ more⟩) (hk : more[k]? = some (.lst es)) (hn : ncL vh.length es = true) : runP n g ds vh = some (.lst es) := by
  obtain ⟨l, h⟩ := h
  have hm : ∀ es : List D, ncL vh.length es = true → mapO (thaw (vh ++ more) vh.length 7) es = some es := fun es => by
    induction es with
    | nil => intro _; rfl
    | cons x xs ih =>
      intro h
      have h : (nc vh.length x && ncL vh.length xs) = true := h
      rw [Bool.and_eq_true] at h
      unfold mapO
      rw [ih h.2]
      have : thaw (vh ++ more) vh.length 7 x = some x := by unfold thaw; rw [if_pos h.1]
      rw [this]
  unfold runP
  rw [h]
  show fin vh ⟨l, vh ++ more⟩ _ = _
  unfold fin
  rw [if_pos (by show (vh ++ more).take vh.length = vh; exact List.take_left)]
  unfold thaw
  rw [if_neg (by simp [nc])]
  show (match (vh ++ more)[vh.length + k]? with | some (.lst ds) => (mapO (thaw (vh ++ more) vh.length 7) ds).map D.lst | _ => none) = _
  rw [List.getElem?_append_right (by omega), Nat.add_sub_cancel_left, hk]
  show (mapO (thaw (vh ++ more) vh.length 7) es).map D.lst = _
  rw [hm es hn]; rfl
def Res.then' {α β : Type} (r : Res α) (k : α → M β) : Res β := match r with
  | .ok a s => k a s
  | .exc e s => .exc e s
  | .bad => .bad
def Res.andThen (r : Res Out) (q : M Out) : Res Out := match r with
  | .ok .nx s' => q s'
  | r => r
section
variable {α β : Type}
theorem x_bnd {m : M α} {k : α → M β} {s : S} : bnd m k s = (m s).then' k := nr rfl
theorem x_ok {a : α} {s : S} {k : α → M β} : (Res.ok a s).then' k = k a s := nr rfl
theorem x_ret {a : α} {s : S} : ret a s = .ok a s := nr rfl
theorem x_fail {s : S} : (fail : M α) s = .bad := nr rfl
theorem x_ite {c : Prop} [Decidable c] {a b : Res α} {k : α → M β} : (if c then a else b).then' k = if c then a.then' k else b.then' k := by split <;> rfl
theorem x_iteM {c : Prop} [Decidable c] {a b : M α} {s : S} : (if c then a else b) s = if c then a s else b s := by split <;> rfl
theorem x_bad {k : α → M β} : (Res.bad : Res α).then' k = .bad := nr rfl
end
def look (o : Option (Option D)) (s : S) : Res D := match o with
  | some (some d) => .ok d s
  | _ => .bad
theorem x_get {i : Nat} {s : S} : getL i s = look s.loc[i]? s := nr rfl
theorem x_look {d : D} {s : S} : look (some (some d)) s = .ok d s := nr rfl
theorem x_set {i : Nat} {s : S} {d : D} : setL i d s = .ok .nx ⟨s.loc.set i (some d), s.vh⟩ := nr rfl
theorem x_seq {p q : M Out} {s : S} : seqM p q s = (p s).andThen q := by unfold seqM Res.andThen; rfl
theorem x_nx {s : S} {q : M Out} : (Res.ok Out.nx s).andThen q = q s := nr rfl
theorem x_rt {d : D} {s : S} {q : M Out} : (Res.ok (Out.rt d) s).andThen q = .ok (.rt d) s := nr rfl
theorem x_brk {s : S} {q : M Out} : (Res.ok Out.brk s).andThen q = .ok .brk s := nr rfl
theorem x_cnt {s : S} {q : M Out} : (Res.ok Out.cnt s).andThen q = .ok .cnt s := nr rfl
theorem x_bad2 {q : M Out} : (Res.bad : Res Out).andThen q = .bad := nr rfl
theorem x_ite2 {c : Prop} [Decidable c] {a b : Res Out} {q : M Out} : (if c then a else b).andThen q = if c then a.andThen q else b.andThen q := by split <;> rfl
theorem x_asg {p : M D} {t : D → M Out} {s : S} : asgM p t s = (p s).then' t := nr rfl
theorem x_retM {p : M D} {s : S} : retM p s = (p s).then' fun d => ret (.rt d) := nr rfl
theorem x_drop {p : M D} {s : S} : dropM p s = (p s).then' fun _ => ret .nx := nr rfl
theorem x_if {c : M Bool} {p q : M Out} {s : S} : ifM c p q s = (c s).then' fun b => if b = true then p else q := nr rfl
theorem x_itM {c : M Bool} {p q : M D} {s : S} : iteM c p q s = (c s).then' fun b => if b = true then p else q := nr rfl
theorem x_asB {b : Bool} {s : S} : asB (.bl b) s = .ok b s := nr rfl
theorem x_bin {op : D → D → M D} {a b : M D} {s : S} : bin op a b s = (a s).then' fun d => bnd b fun e => op d e := nr rfl
theorem x_tst {a : M D} {s : S} : tst a s = (a s).then' asB := nr rfl
theorem x_and {p q : M D} {s : S} : andV p q s = (p s).then' fun d => bnd (asB d) fun c => if c = true then q else ret (.bl false) := nr rfl
theorem x_or {p q : M D} {s : S} : orV p q s = (p s).then' fun d => bnd (asB d) fun c => if c = true then ret (.bl true) else q := nr rfl
theorem x_not {p : M D} {s : S} : notV p s = (p s).then' fun d => bnd (asB d) fun c => ret (.bl (!c)) := nr rfl
theorem x_andT {p q : M Bool} {s : S} : andT p q s = (p s).then' fun c => if c = true then q else ret false := nr rfl
theorem x_orT {p q : M Bool} {s : S} : orT p q s = (p s).then' fun c => if c = true then ret true else q := nr rfl
theorem x_notT {p : M Bool} {s : S} : notT p s = (p s).then' fun c => ret (!c) := nr rfl
theorem x_cons {p : M D} {q : M (List D)} {s : S} : consM p q s = (p s).then' fun d => bnd q fun ds => ret (d :: ds) := nr rfl
def callR (o : Option D) (s : S) : Res D := match o with
  | some d => .ok d s
  | none => .bad
theorem x_call {n : Nat} {F : Pf} {ds : List D} {s : S} : callP n F ds s = if ds.length = n then callR (F ds s.vh) s else .bad := nr rfl
theorem x_callR {d : D} {s : S} : callR (some d) s = .ok d s := nr rfl
theorem x_isa {T : String} {d : D} {s : S} : isaM T d s = match tyName s d with | some a => .ok (.bl (isaT T a)) s | none => .bad := nr rfl
theorem x_sub {i j : Int} {s : S} : subM (.int i) (.int j) s = .ok (.int (i - j)) s := nr rfl
theorem x_add {i j : Int} {s : S} : addM (.int i) (.int j) s = .ok (.int (i + j)) s := nr rfl
theorem x_addS {i j : Str} {s : S} : addM (.str i) (.str j) s = if lenOk (i.length + j.length) = true then .ok (.str (i ++ j)) s else .bad := by
  show (if lenOk (i.length + j.length) = true then ret (D.str (i ++ j)) else fail) s = _
  split <;> rfl
theorem x_mod {i j : Int} {s : S} (h : 0 < j) : modM (.int i) (.int j) s = .ok (.int (i % j)) s := by
  show (if decide (0 < j) = true then ret _ else fail) s = _
  rw [if_pos (decide_eq_true h)]; rfl
theorem x_div {i j : Int} {s : S} (h : 0 < j) (h2 : j.natAbs.log2 < 9000) : divM (.int i) (.int j) s = .ok (.int (i / j)) s := by
  show (if (decide (0 < j) && decide (j.natAbs.log2 < 9000)) = true then ret _ else fail) s = _
  rw [if_pos (by rw [decide_eq_true h, decide_eq_true h2]; rfl)]; rfl
theorem x_mul {i j : Int} {s : S} (h : i.natAbs.log2 + j.natAbs.log2 < 100000000) : mulM (.int i) (.int j) s = .ok (.int (i * j)) s := by
  show (if decide (i.natAbs.log2 + j.natAbs.log2 < 100000000) = true then ret _ else fail) s = _
  rw [if_pos (decide_eq_true h)]; rfl
theorem x_pow {i j : Int} {s : S} (h : 0 ≤ j) (h2 : j ≤ 1000000) (h3 : i.natAbs < 2 ^ 64) : powM (.int i) (.int j) s = .ok (.int (i ^ j.toNat)) s := by
  show (if (decide (0 ≤ j) && (decide (j ≤ 1000000) && decide (i.natAbs < 2 ^ 64))) = true then ret _ else fail) s = _
  rw [if_pos (by rw [decide_eq_true h, decide_eq_true h2, decide_eq_true h3]; rfl)]; rfl
theorem x_shr {i j : Int} {s : S} (h : 0 ≤ j) : shrM (.int i) (.int j) s = .ok (.int (i / 2 ^ j.toNat)) s := by
  show (if decide (0 ≤ j) = true then ret _ else fail) s = _
  rw [if_pos (decide_eq_true h)]; rfl
theorem x_shl {i j : Int} {s : S} (h : 0 ≤ j) (h2 : j ≤ 1000000) (h3 : i.natAbs < 2 ^ 64) : shlM (.int i) (.int j) s = .ok (.int (i * 2 ^ j.toNat)) s := by
  show (if (decide (0 ≤ j) && (decide (j ≤ 1000000) && decide (i.natAbs < 2 ^ 64))) = true then ret _ else fail) s = _
  rw [if_pos (by rw [decide_eq_true h, decide_eq_true h2, decide_eq_true h3]; rfl)]; rfl
theorem x_xor {i j : Int} {s : S} : xorM (.int i) (.int j) s = .ok (.int (Builtin.bitXor i j)) s := nr rfl
theorem x_band {i j : Int} {s : S} : andM (.int i) (.int j) s = .ok (.int (Builtin.bitAnd i j)) s := nr rfl
theorem x_lt {i j : Int} {s : S} : ltAM (.int i) (.int j) s = .ok (.bl (decide (i < j))) s := nr rfl
theorem x_ltS {i j : Str} {s : S} : ltAM (.str i) (.str j) s = .ok (.bl (decide (i.cps.toList < j.cps.toList))) s := nr rfl
theorem x_le {i j : Int} {s : S} : leM (.int i) (.int j) s = .ok (.bl (decide (i ≤ j))) s := nr rfl
theorem x_gt {i j : Int} {s : S} : gtM (.int i) (.int j) s = .ok (.bl (decide (j < i))) s := nr rfl
theorem x_ge {i j : Int} {s : S} : geM (.int i) (.int j) s = .ok (.bl (decide (j ≤ i))) s := nr rfl
theorem x_eqI {i j : Int} {s : S} : eqM (.int i) (.int j) s = .ok (.bl (decide (i = j))) s := by
  show (if (SeqAt.shaped (PyData.int i) && SeqAt.shaped (PyData.int j)) = true then Res.ok (D.bl (PyData.eqv (.int i) (.int j))) s else .bad) = _
  rw [if_pos (by rfl)]
  simp [PyData.eqv, Bool.beq_eq_decide_eq]
theorem x_neI {i j : Int} {s : S} : neM (.int i) (.int j) s = .ok (.bl (!decide (i = j))) s := by
  show (if (SeqAt.shaped (PyData.int i) && SeqAt.shaped (PyData.int j)) = true then Res.ok (D.bl (!PyData.eqv (.int i) (.int j))) s else .bad) = _
  rw [if_pos (by rfl)]
  simp [PyData.eqv, Bool.beq_eq_decide_eq]
theorem x_true {α : Sort _} {a b : α} : (if true = true then a else b) = a := nr rfl
theorem x_false {α : Sort _} {a b : α} : (if false = true then a else b) = b := nr rfl
theorem x_aug {f : Int → Int → Int} {i : Nat} {p : M D} {s : S} : augI f i p s = (getL i s).then' fun a => bnd p fun b => augF f i a b := nr rfl
theorem x_augF {f : Int → Int → Int} {i : Nat} {x y : Int} {s : S} : augF f i (.int x) (.int y) s = .ok .nx ⟨s.loc.set i (some (.int (f x y))), s.vh⟩ := nr rfl
theorem x_forM {f : M Wk} {t : D → M Out} {b : M Out} {s : S} : forM f t b s = (f s).then' fun it => loopM it.ok t b it.items := nr rfl
theorem x_ran1 {n : Int} {s : S} (h : okB n = true) : ran1I [.int n] s = .ok ⟨ranD 0 n.toNat, fun _ => True⟩ s := by
  show (if okB n = true then _ else _) = _
  rw [if_pos h]
theorem x_ran2 {lo n : Int} {s : S} (h : okB lo = true) (h2 : okB n = true) : ran2I [.int lo, .int n] s = .ok ⟨ranD lo (n - lo).toNat, fun _ => True⟩ s := by
  show (if (okB lo && okB n) = true then _ else _) = _
  rw [if_pos (by rw [h, h2]; rfl)]
theorem okB_of {i : Int} (h : -(2 ^ 62) ≤ i) (h2 : i < 2 ^ 62) : okB i = true := by
  unfold okB
  rw [decide_eq_true h, decide_eq_true h2]; rfl
theorem x_seqL {ds : List D} {s : S} : seqI (.lst ds) s = .ok ⟨ds, fun s' => itemsOf s' (.lst ds) = some ds⟩ s := nr rfl
theorem x_seqT {ds : List D} {s : S} : seqI (.tup ds) s = .ok ⟨ds, fun s' => itemsOf s' (.tup ds) = some ds⟩ s := nr rfl
theorem x_seqS {x : Str} {s : S} : seqI (.str x) s = .ok ⟨signs x, fun s' => itemsOf s' (.str x) = some (signs x)⟩ s := nr rfl
theorem x_frz {m : M Cell} {s : S} : frzM m s = (m s).then' fun c => match c with | .lst ds => ret (.lst ds) | _ => fail := nr rfl
theorem x_own {m : M Cell} {s : S} : ownM m s = (m s).then' fun c s => .ok (.cell s.vh.length) ⟨s.loc, s.vh ++ [c]⟩ := nr rfl
theorem lenOk_of {n : Nat} (h : n ≤ 16777216) : lenOk n = true := decide_eq_true (Nat.le_trans h (by decide))
theorem x_lst {q : M (List D)} {s : S} : lstN q s = (q s).then' fun ds => if lenOk ds.length = true then ret (.lst ds) else fail := nr rfl
theorem x_tup {q : M (List D)} {s : S} : tupM q s = (q s).then' fun ds => if lenOk ds.length = true then ret (.tup ds) else fail := nr rfl
theorem x_lenL {ds : List D} {s : S} : lenM [.lst ds] s = .ok (.int ds.length) s := nr rfl
theorem x_lenT {ds : List D} {s : S} : lenM [.tup ds] s = .ok (.int ds.length) s := nr rfl
theorem x_lenS {x : Str} {s : S} (h : lenOk x.length = true) : lenM [.str x] s = .ok (.int x.length) s := by
  show (if lenOk x.length = true then _ else _) = _
  rw [if_pos h]
def Res.opt {α : Type} (o : Option α) (s : S) : Res α := match o with
  | some y => .ok y s
  | none => .bad
theorem x_opt {α : Type} {y : α} {s : S} : Res.opt (some y) s = .ok y s := nr rfl
theorem x_ixL {ds : List D} {i : Int} {s : S} : ixM (.lst ds) (.int i) s = Res.opt (atI ds i) s := by cases h : atI ds i <;> simp [ixM, lstOf, Res.opt, h]
theorem x_ixT {ds : List D} {i : Int} {s : S} : ixM (.tup ds) (.int i) s = Res.opt (atI ds i) s := by cases h : atI ds i <;> simp [ixM, Res.opt, h]
theorem x_slL {f : M D} {lo hi : M (Option Int)} {s : S} : slL f lo hi s = (f s).then' fun d => bnd lo fun l => bnd hi fun u => fun s => match lstOf s d with | some ds => .ok (.lst (cutD ds l u)) s | none => .bad := nr rfl
theorem x_slM {f : M D} {lo hi : M (Option Int)} {s : S} : slM f lo hi s = (f s).then' fun d => bnd lo fun l => bnd hi fun u => slV d l u := nr rfl
theorem x_slVL {ds : List D} {l u : Option Int} {s : S} : slV (.lst ds) l u s = .ok (.lst (cutD ds l u)) s := nr rfl
theorem x_slVS {x : Str} {l u : Option Int} {s : S} : slV (.str x) l u s = if lenOk x.length = true then .ok (.str (cutS x l u)) s else .bad := nr rfl
theorem x_min2 {i j : Int} {s : S} : min2M [.int i, .int j] s = .ok (.int (if j < i then j else i)) s := nr rfl
theorem x_max2 {i j : Int} {s : S} : max2M [.int i, .int j] s = .ok (.int (if j > i then j else i)) s := nr rfl
theorem x_abs {i : Int} {s : S} : absM [.int i] s = .ok (.int (if i < 0 then -i else i)) s := nr rfl
theorem x_neg {i : Int} {s : S} : negM (.int i) s = .ok (.int (-i)) s := nr rfl
theorem x_part {f : M D} {s : S} : partM f s = (f s).then' fun d => match d with | .int i => ret (some i) | _ => fail := nr rfl
/-! comprehensions, loops -/
/-- every turn gives v d and leaves the cells -/
theorem lc_map {ok : S → Prop} {i : Nat} {c : M Bool} {e : M D} {l0 l : List (Option D)} {vh : List Cell} {q : D → Bool} {v : D → D} (hok : ∀ l, ok ⟨l, vh⟩) : ∀ (ds acc : List D), (acc.length + ds.length ≤ 16777216) →
    (∀ d ∈ ds, ∃ l1, c ⟨l0.set i (some d), vh⟩ = .ok (q d) ⟨l1, vh⟩ ∧ (q d = true → ∃ l2, e ⟨l1, vh⟩ = .ok (v d) ⟨l2, vh⟩)) →
    lcLoop ok i c e l0 l ds acc ⟨l0, vh⟩ = .ok (.lst (acc ++ (ds.filter q).map v)) ⟨l, vh⟩
  | [], acc, _, _ => by
    unfold lcLoop
    rw [if_pos (hok l0)]
    simp
  | d :: ds, acc, hl, h => by
    obtain ⟨l1, h1, h2⟩ := h d (List.mem_cons_self)
    have hlen : acc.length < sizeLine := Nat.lt_of_lt_of_le (show acc.length < 16777216 by simp at hl; omega) (by decide)
    unfold lcLoop
    rw [if_pos ⟨hok l0, hlen⟩]
    cases hq : q d with
    | false =>
      rw [hq] at h1
      have e1 : c { (⟨l0, vh⟩ : S) with loc := l0.set i (some d) } = .ok false ⟨l1, vh⟩ := h1
      rw [e1]
      have := lc_map (l := l) hok ds acc (by simp at hl; omega) (fun d' hd => h d' (List.mem_cons_of_mem _ hd))
      rw [List.filter_cons, if_neg (by rw [hq]; decide)]
      exact this
    | true =>
      rw [hq] at h1
      obtain ⟨l2, h3⟩ := h2 hq
      have e1 : c { (⟨l0, vh⟩ : S) with loc := l0.set i (some d) } = .ok true ⟨l1, vh⟩ := h1
      rw [e1]
      dsimp only
      rw [h3]
      have := lc_map (l := l) hok ds (acc ++ [v d]) (by simp at hl ⊢; omega) (fun d' hd => h d' (List.mem_cons_of_mem _ hd))
      rw [List.filter_cons, if_pos hq, List.map_cons]
      simpa using this
theorem lcM_map {f : M Wk} {i : Nat} {c : M Bool} {e : M D} {l : List (Option D)} {vh : List Cell} {items : List D} {ok : S → Prop} {q : D → Bool} {v : D → D} (hf : f ⟨l, vh⟩ = .ok ⟨items, ok⟩ ⟨l, vh⟩) (hok : ∀ l, ok ⟨l, vh⟩) (hl : items.length ≤ 16777216)
    (h : ∀ d ∈ items, ∃ l1, c ⟨(l.set i none).set i (some d), vh⟩ = .ok (q d) ⟨l1, vh⟩ ∧ (q d = true → ∃ l2, e ⟨l1, vh⟩ = .ok (v d) ⟨l2, vh⟩)) : lcM f i c e ⟨l, vh⟩ = .ok (.lst ((items.filter q).map v)) ⟨l, vh⟩ := by
  unfold lcM
  rw [bnd_ok hf]
  have := lc_map (l := l) hok items [] (by simpa using hl) h
  simpa using this
/-- without a test -/
theorem lcM_all {f : M Wk} {i : Nat} {e : M D} {l : List (Option D)} {vh : List Cell} {items : List D} {ok : S → Prop} {v : D → D} (hf : f ⟨l, vh⟩ = .ok ⟨items, ok⟩ ⟨l, vh⟩) (hok : ∀ l, ok ⟨l, vh⟩) (hl : items.length ≤ 16777216)
    (h : ∀ d ∈ items, ∃ l2, e ⟨(l.set i none).set i (some d), vh⟩ = .ok (v d) ⟨l2, vh⟩) : lcM f i yesM e ⟨l, vh⟩ = .ok (.lst (items.map v)) ⟨l, vh⟩ := by
  have := lcM_map (c := yesM) (q := fun _ => true) (v := v) hf hok hl fun d hd => ⟨_, rfl, fun _ => h d hd⟩
  rw [this, List.filter_eq_self.mpr (fun _ _ => rfl)]
/-- a for loop by what holds between its turns; it may leave by a return where Pv says so -/
theorem loopM_all {ok : S → Prop} {t : D → M Out} {b : M Out} (Pv : Nat → S → Prop) (items : List D) (hok : ∀ i s, Pv i s → ok s)
    (hs : ∀ (i : Nat) d s, items[i]? = some d → Pv i s → ∃ s1, t d s = .ok .nx s1 ∧ ∃ s2, (b s1 = .ok .nx s2 ∨ b s1 = .ok .cnt s2) ∧ Pv (i + 1) s2) : ∀ (k : Nat) s, k ≤ items.length → Pv k s → ∃ s2, loopM ok t b (items.drop k) s = .ok .nx s2 ∧ Pv items.length s2 := by
  intro k s hk hp
  generalize hm : items.length - k = m
  induction m generalizing k s with
  | zero =>
    have e : k = items.length := by omega
    subst e
    refine ⟨s, ?_, hp⟩
    rw [List.drop_length]
    unfold loopM
    rw [if_pos (hok _ _ hp)]
  | succ m ih =>
    have hlt : k < items.length := by omega
    obtain ⟨s1, h1, s2, h2, h3⟩ := hs k items[k] s (List.getElem?_eq_getElem hlt) hp
    obtain ⟨s3, h4, h5⟩ := ih (k + 1) s2 (by omega) h3 (by omega)
    refine ⟨s3, ?_, h5⟩
    rw [List.drop_eq_getElem_cons hlt]
    unfold loopM
    rw [if_pos (hok _ _ hp), h1]
    dsimp only
    rcases h2 with h2 | h2 <;> rw [h2] <;> exact h4
/-- a while by a measure -/
theorem whileM_all {c : M Bool} {b : M Out} (Pv : S → Prop) (μ : S → Nat) (hs : ∀ s, Pv s → (∃ s1, c s = .ok true s1 ∧ ∃ s2, (b s1 = .ok .nx s2 ∨ b s1 = .ok .cnt s2) ∧ Pv s2 ∧ μ s2 < μ s) ∨ ∃ s1, c s = .ok false s1 ∧ Pv s1 ∧ c s1 = .ok false s1) :
    ∀ (n : Nat) s, Pv s → μ s < n → ∃ s2 s3, whileM c b n s = .ok .nx s2 ∧ Pv s2 ∧ c s3 = .ok false s2 := by
  intro n
  induction n with
  | zero => intro s _ h; omega
  | succ n ih =>
    intro s hp hm
    rcases hs s hp with ⟨s1, h1, s2, h2, h3, h4⟩ | ⟨s1, h1, h2, h3⟩
    · obtain ⟨s3, s4, h5, h6, h7⟩ := ih s2 h3 (by omega)
      refine ⟨s3, s4, ?_, h6, h7⟩
      unfold whileM
      rw [h1]
      dsimp only
      rcases h2 with h2 | h2 <;> rw [h2] <;> exact h5
    · refine ⟨s1, s, ?_, h2, h1⟩
      unfold whileM
      rw [h1]
end Fx
namespace Fx
open PySem PySem.Spec PyProof.Rows L2
theorem atI_ofNat {α : Type} {xs : List α} {i : Nat} (h : i < xs.length) : atI xs (i : Int) = xs[i]? := by
  unfold atI ixN
  rw [if_pos (by omega), if_pos (by omega)]
  simp
theorem log2_of {x : Int} {k : Nat} (h0 : 0 < k) (h : x.natAbs < 2 ^ k) : x.natAbs.log2 < k := PySem.Flt.log2_lt_of h0 h
theorem cut_all {xs : List D} {k : Int} {n : Nat} (hk : k = (n : Int)) : cutD xs none (some k) = xs.take n := by
  subst hk
  unfold cutD
  rw [HT.sIx_none, show HT.sIx xs.length xs.length (some (n : Int)) = min n xs.length from HT.sIx_nat xs.length xs.length n]
  rw [List.drop_zero, Nat.sub_zero]
  by_cases h : n ≤ xs.length
  · rw [Nat.min_eq_left h]
  · rw [Nat.min_eq_right (by omega), List.take_of_length_le (by omega), List.take_of_length_le (by omega)]
/-- an int turned by f -/
def onI (f : Int → Int) : D → D
  | .int i => .int (f i)
  | d => d
theorem onI_int (f : Int → Int) (n : Int) : onI f (.int n) = .int (f n) := rfl
theorem onI_map (f : Int → Int) (ns : List Int) : (ns.map D.int).map (onI f) = (ns.map f).map D.int := by
  rw [List.map_map, List.map_map]; rfl
theorem mem_ints {ns : List Int} {d : D} (h : d ∈ ns.map D.int) : ∃ n, n ∈ ns ∧ d = .int n := by
  obtain ⟨n, a, b⟩ := List.mem_map.mp h
  exact ⟨n, a, b.symm⟩
theorem x_catL {xs ys : List D} {s : S} (h : lenOk (xs.length + ys.length) = true) : addM (.lst xs) (.lst ys) s = .ok (.lst (xs ++ ys)) s := by
  show (if lenOk (xs.length + ys.length) = true then _ else _) = _
  rw [if_pos h]
theorem at_ints {ns : List Int} {i : Nat} (h : i < ns.length) : atI (ns.map D.int) (i : Int) = some (.int ns[i]) := by
  rw [atI_ofNat (by rw [List.length_map]; exact h), List.getElem?_map, List.getElem?_eq_getElem h]; rfl
theorem ranD_at {lo : Int} {n i : Nat} {d : D} (h : (ranD lo n)[i]? = some d) : i < n ∧ d = .int (lo + (i : Int)) := by
  have hi : i < n := by
    have := (List.getElem?_eq_some_iff.mp h).1
    rw [ranD_len] at this; exact this
  rw [ranD_get hi] at h
  cases h
  exact ⟨hi, rfl⟩
/-- the whole loop -/
theorem loopM_run {ok : S → Prop} {t : D → M Out} {b : M Out} (Pv : Nat → S → Prop) (items : List D) (s : S) (hok : ∀ i s, Pv i s → ok s)
    (hs : ∀ (i : Nat) d s, items[i]? = some d → Pv i s → ∃ s1, t d s = .ok .nx s1 ∧ ∃ s2, (b s1 = .ok .nx s2 ∨ b s1 = .ok .cnt s2) ∧ Pv (i + 1) s2) (h0 : Pv 0 s) : ∃ s2, loopM ok t b items s = .ok .nx s2 ∧ Pv items.length s2 :=
  loopM_all Pv items hok hs 0 s (Nat.zero_le _) h0
end Fx

/-! texts by their codes, plain values -/
namespace Fx
open PySem PySem.Spec PyProof.Rows L2 TL
/-- the text of these codes -/
def tx (cs : List Nat) : Str := ⟨cs.toArray⟩
theorem tx_len (cs : List Nat) : (tx cs).length = cs.length := by
  show cs.toArray.size = cs.length
  exact List.size_toArray
theorem tx_tl (cs : List Nat) : (tx cs).cps.toList = cs := by
  show cs.toArray.toList = cs
  simp
theorem tx_of (x : Str) : tx x.cps.toList = x := by
  cases x
  simp [tx]
theorem tx_app (a b : List Nat) : tx a ++ tx b = tx (a ++ b) := by
  have h : tl (tx a ++ tx b) = tl (tx a) ++ tl (tx b) := tl_append _ _
  rw [show tl (tx a) = a from tx_tl a, show tl (tx b) = b from tx_tl b] at h
  rw [← tx_of (tx a ++ tx b)]
  show tx (tl (tx a ++ tx b)) = _
  rw [h]
theorem tx_inj {a b : List Nat} (h : tx a = tx b) : a = b := by
  have := congrArg (fun x : Str => x.cps.toList) h
  simpa [tx_tl] using this
theorem tx_one (c : Nat) : (⟨#[c]⟩ : Str) = tx [c] := rfl
theorem tx_nil : Str.ofString "" = tx [] := by decide +kernel
theorem joinL_nil : ∀ ps : List (List Nat), joinL [] ps = ps.flatten
  | [] => rfl
  | [p] => by simp [joinL]
  | p :: q :: r => by
    show p ++ ([] ++ joinL [] (q :: r)) = _
    rw [joinL_nil (q :: r)]
    simp
theorem flat_one (cs : List Nat) : (cs.map fun c => [c]).flatten = cs := by
  induction cs with
  | nil => rfl
  | cons c r ih => simp [ih]
theorem join_tx (ps : List (List Nat)) : Txt.join (tx []) (ps.map tx) = tx ps.flatten := by
  rw [join_eq, ← tx_of (Str.join _ _)]
  show tx (tl (Str.join (tx []) (ps.map tx))) = _
  rw [tl_join, show tl (tx []) = [] from tx_tl [], joinL_nil, List.map_map]
  congr 1
  congr 1
  rw [show (tl ∘ tx) = id from funext fun cs => tx_tl cs, List.map_id]
theorem strsOf_map : ∀ ps : List (List Nat), strsOf (ps.map fun p => D.str (tx p)) = some (ps.map tx)
  | [] => rfl
  | p :: r => by
    show (strsOf (r.map fun p => D.str (tx p))).map (tx p :: ·) = _
    rw [strsOf_map r]; rfl
/-- joined without a sign between -/
theorem x_join {f g : M D} {s : S} : jnM f g s = (f s).then' fun d s => match d with | .str a => bnd g (fun e => joinM (.str a) [e]) s | _ => .bad := nr rfl
theorem join_ok (ps : List (List Nat)) (s : S) (h : (ps.map List.length).sum ≤ 16777216) : joinM (.str (tx [])) [.lst (ps.map fun p => D.str (tx p))] s = .ok (.str (tx ps.flatten)) s := by
  show (match strsOf (ps.map fun p => D.str (tx p)) with | some ys => if joinOk (tx []) ys = true then Res.ok (D.str (Txt.join (tx []) ys)) s else .bad | none => .bad) = _
  rw [strsOf_map]
  show (if joinOk (tx []) (ps.map tx) = true then Res.ok (D.str (Txt.join (tx []) (ps.map tx))) s else .bad) = _
  rw [if_pos, join_tx]
  unfold joinOk
  refine decide_eq_true ?_
  rw [tx_len, List.length_nil, Nat.mul_zero, Nat.add_zero, List.map_map, show ((fun x : Str => x.length) ∘ tx) = List.length from funext fun cs => tx_len cs]
  exact h
theorem sum_ones (cs : List Nat) : ((cs.map fun c => [c]).map List.length).sum = cs.length := by
  induction cs with
  | nil => rfl
  | cons c r ih => simp at ih ⊢; omega
theorem join_signs (cs : List Nat) (s : S) (h : cs.length ≤ 16777216) : joinM (.str (tx [])) [.lst (cs.map fun c => D.str (tx [c]))] s = .ok (.str (tx cs)) s := by
  have := join_ok (cs.map fun c => [c]) s (by rw [sum_ones]; exact h)
  rw [flat_one, List.map_map] at this
  exact this
theorem x_ixS {cs : List Nat} {i : Int} {s : S} (h : cs.length ≤ 16777216) : ixM (.str (tx cs)) (.int i) s = Res.opt ((atI cs i).map fun c => D.str (tx [c])) s := by
  show (if lenOk (tx cs).length = true then (match atI (tx cs).cps.toList i with | some c => Res.ok (D.str ⟨#[c]⟩) s | none => .bad) else .bad) = _
  rw [tx_len, if_pos (lenOk_of h), tx_tl]
  cases atI cs i <;> rfl
theorem cutS_take (cs : List Nat) (n : Nat) : cutS (tx cs) none (some (n : Int)) = tx (cs.take n) := by
  unfold cutS
  rw [tx_tl, tx_len, HT.sIx_none, show HT.sIx cs.length cs.length (some (n : Int)) = min n cs.length from HT.sIx_nat _ _ n, List.drop_zero, Nat.sub_zero]
  show tx (cs.take (min n cs.length)) = _
  congr 1
  by_cases h : n ≤ cs.length
  · rw [Nat.min_eq_left h]
  · rw [Nat.min_eq_right (by omega), List.take_of_length_le (by omega), List.take_of_length_le (by omega)]
theorem cutS_drop (cs : List Nat) (n : Nat) : cutS (tx cs) (some (n : Int)) none = tx (cs.drop n) := by
  unfold cutS
  rw [tx_tl, tx_len, HT.sIx_none, show HT.sIx cs.length 0 (some (n : Int)) = min n cs.length from HT.sIx_nat _ _ n]
  show tx ((cs.drop (min n cs.length)).take (cs.length - min n cs.length)) = _
  congr 1
  by_cases h : n ≤ cs.length
  · rw [Nat.min_eq_left h, List.take_of_length_le (by rw [List.length_drop]; exact Nat.le_refl _)]
  · rw [Nat.min_eq_right (by omega), List.drop_of_length_le (Nat.le_refl _), List.drop_of_length_le (by omega)]
    simp
theorem x_slS {f : M D} {lo hi : M (Option Int)} {s : S} : slS f lo hi s = (f s).then' fun d => bnd lo fun l => bnd hi fun u => match d with | .str x => if lenOk x.length = true then ret (.str (cutS x l u)) else fail | _ => fail := nr rfl
theorem tx_eq {a b : List Nat} : decide (tx a = tx b) = decide (a = b) := by
  by_cases h : a = b
  · subst h; simp
  · rw [decide_eq_false h]
    exact decide_eq_false fun e => h (tx_inj e)
theorem x_eqS {a b : List Nat} {s : S} : eqM (.str (tx a)) (.str (tx b)) s = .ok (.bl (decide (a = b))) s := by
  show Res.ok (D.bl (decide (tx a = tx b))) s = _
  rw [tx_eq]
theorem x_neS {a b : List Nat} {s : S} : neM (.str (tx a)) (.str (tx b)) s = .ok (.bl (!decide (a = b))) s := by
  show Res.ok (D.bl (!decide (tx a = tx b))) s = _
  rw [tx_eq]
theorem x_eqB {a b : Bool} {s : S} : eqM (.bl a) (.bl b) s = .ok (.bl (decide (a = b))) s := by
  show (if (SeqAt.shaped (PyData.bool a) && SeqAt.shaped (PyData.bool b)) = true then Res.ok (D.bl (PyData.eqv (.bool a) (.bool b))) s else .bad) = _
  rw [if_pos (by rfl)]
  cases a <;> cases b <;> simp [PyData.eqv]
theorem x_neB {a b : Bool} {s : S} : neM (.bl a) (.bl b) s = .ok (.bl (!decide (a = b))) s := by
  show (if (SeqAt.shaped (PyData.bool a) && SeqAt.shaped (PyData.bool b)) = true then Res.ok (D.bl (!PyData.eqv (.bool a) (.bool b))) s else .bad) = _
  rw [if_pos (by rfl)]
  cases a <;> cases b <;> simp [PyData.eqv]
/-! plain values -/
inductive Pl where
  | non | int (i : Int) | str (cs : List Nat)
def Pl.d : Pl → D
  | .non => .non
  | .int i => .int i
  | .str cs => .str (tx cs)
/-- the order of plain values -/
def Pl.lt : Pl → Pl → Bool
  | .non, .non => false
  | .non, _ => true
  | _, .non => false
  | .int i, .int j => decide (i < j)
  | .int _, .str _ => true
  | .str _, .int _ => false
  | .str a, .str b => decide (a < b)
theorem Pl.nc (b : Nat) (p : Pl) : Fx.nc b p.d = true := by cases p <;> rfl
theorem Pl.ncL (b : Nat) (ps : List Pl) : Fx.ncL b (ps.map Pl.d) = true := by
  induction ps with
  | nil => rfl
  | cons p r ih =>
    show (Fx.nc b p.d && Fx.ncL b (r.map Pl.d)) = true
    rw [Pl.nc, ih]; rfl
theorem mem_pls {ps : List Pl} {d : D} (h : d ∈ ps.map Pl.d) : ∃ p, p ∈ ps ∧ d = p.d := by
  obtain ⟨n, a, b⟩ := List.mem_map.mp h
  exact ⟨n, a, b.symm⟩
theorem isa_int_NoneType : isaT "int" "NoneType" = false := by decide
theorem isa_int_bool : isaT "int" "bool" = true := by decide
theorem isa_int_int : isaT "int" "int" = true := by decide
theorem isa_int_str : isaT "int" "str" = false := by decide
theorem isa_int_tuple : isaT "int" "tuple" = false := by decide
theorem isa_int_list : isaT "int" "list" = false := by decide
theorem isa_int_dict : isaT "int" "dict" = false := by decide
theorem isa_bool_NoneType : isaT "bool" "NoneType" = false := by decide
theorem isa_bool_bool : isaT "bool" "bool" = true := by decide
theorem isa_bool_int : isaT "bool" "int" = false := by decide
theorem isa_bool_str : isaT "bool" "str" = false := by decide
theorem isa_bool_tuple : isaT "bool" "tuple" = false := by decide
theorem isa_bool_list : isaT "bool" "list" = false := by decide
theorem isa_bool_dict : isaT "bool" "dict" = false := by decide
theorem isa_str_NoneType : isaT "str" "NoneType" = false := by decide
theorem isa_str_bool : isaT "str" "bool" = false := by decide
theorem isa_str_int : isaT "str" "int" = false := by decide
theorem isa_str_str : isaT "str" "str" = true := by decide
theorem isa_str_tuple : isaT "str" "tuple" = false := by decide
theorem isa_str_list : isaT "str" "list" = false := by decide
theorem isa_str_dict : isaT "str" "dict" = false := by decide
theorem isa_tuple_NoneType : isaT "tuple" "NoneType" = false := by decide
theorem isa_tuple_bool : isaT "tuple" "bool" = false := by decide
theorem isa_tuple_int : isaT "tuple" "int" = false := by decide
theorem isa_tuple_str : isaT "tuple" "str" = false := by decide
theorem isa_tuple_tuple : isaT "tuple" "tuple" = true := by decide
theorem isa_tuple_list : isaT "tuple" "list" = false := by decide
theorem isa_tuple_dict : isaT "tuple" "dict" = false := by decide
theorem isa_list_NoneType : isaT "list" "NoneType" = false := by decide
theorem isa_list_bool : isaT "list" "bool" = false := by decide
theorem isa_list_int : isaT "list" "int" = false := by decide
theorem isa_list_str : isaT "list" "str" = false := by decide
theorem isa_list_tuple : isaT "list" "tuple" = false := by decide
theorem isa_list_list : isaT "list" "list" = true := by decide
theorem isa_list_dict : isaT "list" "dict" = false := by decide
theorem isa_dict_NoneType : isaT "dict" "NoneType" = false := by decide
theorem isa_dict_bool : isaT "dict" "bool" = false := by decide
theorem isa_dict_int : isaT "dict" "int" = false := by decide
theorem isa_dict_str : isaT "dict" "str" = false := by decide
theorem isa_dict_tuple : isaT "dict" "tuple" = false := by decide
theorem isa_dict_list : isaT "dict" "list" = false := by decide
theorem isa_dict_dict : isaT "dict" "dict" = true := by decide
theorem x_is1 {s : S} : isM .non .non s = .ok (.bl true) s := nr rfl
theorem x_is2 {i : Int} {s : S} : isM (.int i) .non s = .ok (.bl false) s := nr rfl
theorem x_is3 {i : Str} {s : S} : isM (.str i) .non s = .ok (.bl false) s := nr rfl
theorem x_is4 {i : List D} {s : S} : isM (.lst i) .non s = .ok (.bl false) s := nr rfl
theorem x_is5 {i : List D} {s : S} : isM (.tup i) .non s = .ok (.bl false) s := nr rfl
theorem x_isn1 {s : S} : isnotM .non .non s = .ok (.bl false) s := nr rfl
theorem x_isn2 {i : Int} {s : S} : isnotM (.int i) .non s = .ok (.bl true) s := nr rfl
theorem x_isn3 {i : Str} {s : S} : isnotM (.str i) .non s = .ok (.bl true) s := nr rfl
theorem x_isn4 {i : List D} {s : S} : isnotM (.lst i) .non s = .ok (.bl true) s := nr rfl
theorem x_isn5 {i : List D} {s : S} : isnotM (.tup i) .non s = .ok (.bl true) s := nr rfl
/-! append to the list that is the last cell -/
theorem x_meth {T : String} {f : M D} {fs : M (List D)} {g : D → List D → M D} {s : S} : methM T f fs g s = (f s).then' fun d s => if isTy T s d = true then bnd fs (fun ds => g d ds) s else .bad := nr rfl
theorem last_cell {vh : List Cell} {c : Cell} : (vh ++ [c])[vh.length]? = some c := by simp
theorem isTy_last {l : List (Option D)} {vh : List Cell} {ds : List D} : isTy "list" ⟨l, vh ++ [.lst ds]⟩ (.cell vh.length) = true := by
  unfold isTy lstOf
  simp [last_cell]
theorem x_appL {l : List (Option D)} {vh : List Cell} {ds : List D} {e : D} (h : ds.length < 16777216) : appM (.cell vh.length) [e] ⟨l, vh ++ [.lst ds]⟩ = .ok .non ⟨l, vh ++ [.lst (ds ++ [e])]⟩ := by
  have hz : ds.length < sizeLine := Nat.lt_of_lt_of_le h (by decide)
  unfold appM wrM
  simp [last_cell, hz]
/-- the codes of a written text -/
def cd (s : String) : List Nat := (Str.ofString s).cps.toList
theorem lit (s : String) : Str.ofString s = tx (cd s) := (tx_of _).symm
theorem cd_nil : cd "" = [] := by decide +kernel
theorem atI_mod {α : Type} {xs : List α} {n m : Int} (d : α) (h0 : 0 < m) (hm : m = (xs.length : Int)) : atI xs (n % m) = some (xs.getD (n % m).toNat d) := by
  have h1 := Int.emod_nonneg n (by omega : m ≠ 0)
  have h2 := Int.emod_lt_of_pos n h0
  have e : n % m = (((n % m).toNat : Nat) : Int) := (Int.toNat_of_nonneg h1).symm
  have h3 : (n % m).toNat < xs.length := by omega
  rw [e, atI_ofNat h3, Int.toNat_natCast, List.getD_eq_getElem?_getD, List.getElem?_eq_getElem h3]
  rfl
/-- ranks -/
def Pl.rank : Pl → D
  | .non => .tup [.int 0, .int 0, .str (tx [])]
  | .int i => .tup [.int 1, .int i, .str (tx [])]
  | .str cs => .tup [.int 2, .int 0, .str (tx cs)]
theorem lex3 (a b c d : Int) (x y : Str) : PySem.W.dataLt (.tuple [.int a, .int b, .str x]) (.tuple [.int c, .int d, .str y]) = if a = c then (if b = d then decide (x.cps.toList < y.cps.toList) else decide (b < d)) else decide (a < c) := by
  rw [PySem.W.dataLt_tuple]
  have eI : ∀ a c : Int, PyData.eqv (.int a) (.int c) = decide (a = c) := fun a c => by simp [PyData.eqv, Bool.beq_eq_decide_eq]
  have eS : PyData.eqv (.str x) (.str y) = decide (x = y) := by rw [PyData.eqv]; rfl
  by_cases h1 : a = c
  · rw [if_pos h1, PySem.W.dataLt_all_yes (by rfl) (by rw [eI]; exact decide_eq_true h1)]
    by_cases h2 : b = d
    · rw [if_pos h2, PySem.W.dataLt_all_yes (by rfl) (by rw [eI]; exact decide_eq_true h2)]
      by_cases h3 : x = y
      · rw [PySem.W.dataLt_all_yes (by rfl) (by rw [eS]; exact decide_eq_true h3)]
        subst h3
        have : ¬ (x.cps.toList < x.cps.toList) := List.lt_irrefl _
        rw [decide_eq_false this]
        rfl
      · rw [PySem.W.dataLt_all_no (by rfl) (by rw [eS]; exact decide_eq_false h3), PySem.W.dataLt_str]
    · rw [if_neg h2, PySem.W.dataLt_all_no (by rfl) (by rw [eI]; exact decide_eq_false h2), PySem.W.dataLt_int]
  · rw [if_neg h1, PySem.W.dataLt_all_no (by rfl) (by rw [eI]; exact decide_eq_false h1), PySem.W.dataLt_int]
theorem lt3 (a b c d : Int) (x y : Str) (s : S) : ltAM (.tup [.int a, .int b, .str x]) (.tup [.int c, .int d, .str y]) s = .ok (.bl (if a = c then (if b = d then decide (x.cps.toList < y.cps.toList) else decide (b < d)) else decide (a < c))) s := by
  rw [← lex3]
  show (if (PySem.W.alike (PyData.tuple [.int a, .int b, .str x]) (PyData.tuple [.int c, .int d, .str y]) && decide ((PyData.tuple [.int a, .int b, .str x]).depth ≤ 64)) = true then Res.ok (D.bl (PySem.W.dataLt (PyData.tuple [.int a, .int b, .str x]) (PyData.tuple [.int c, .int d, .str y]))) s else .bad) = _
  rw [if_pos (by rfl)]
theorem rank_lt (a b : Pl) (s : S) : ltAM a.rank b.rank s = .ok (.bl (a.lt b)) s := by
  cases a <;> cases b <;> (unfold Pl.rank; rw [lt3]) <;> simp [Pl.lt, tx_tl] <;> omega
/-! numbers of few bits -/
theorem lg_mono {a b : Nat} (h : a ≤ b) : a.log2 ≤ b.log2 := by
  by_cases ha : a = 0
  · subst ha; simp
  · exact (Nat.le_log2 (by omega)).mpr (Nat.le_trans (Nat.log2_self_le ha) h)
def Sm (c : Int) : Prop := c.natAbs.log2 ≤ 2000000
theorem Sm.div {c k : Int} (h : Sm c) (hk : 0 < k) : Sm (c / k) := by
  unfold Sm at h ⊢
  refine Nat.le_trans (lg_mono ?_) h
  have e1 : k * (c / k) + c % k = c := Int.mul_ediv_add_emod c k
  have e2 := Int.emod_nonneg c (by omega : k ≠ 0)
  have e3 := Int.emod_lt_of_pos c hk
  rcases Int.lt_or_le (c / k) 0 with h1 | h1
  · have h2 : c / k ≥ c := by
      have : (k - 1) * (c / k) ≤ 0 := Int.mul_nonpos_of_nonneg_of_nonpos (by omega) (by omega)
      have e4 : (k - 1) * (c / k) = k * (c / k) - c / k := by rw [Int.sub_mul, Int.one_mul]
      have h3 : c < 0 := by
        rcases Int.lt_or_le c 0 with z | z
        · exact z
        · have := Int.ediv_nonneg z (Int.le_of_lt hk); omega
      -- c = k q + r, r < k, q ≤ -1
      have h5 : k * (c / k) + k > c := by omega
      have h6 : (k - 1) * (c / k + 1) ≤ 0 := Int.mul_nonpos_of_nonneg_of_nonpos (by omega) (by omega)
      have e7 : (k - 1) * (c / k + 1) = k * (c / k) + k - (c / k) - 1 := by rw [Int.sub_mul, Int.one_mul, Int.mul_add, Int.mul_one]; omega
      omega
    omega
  · have h2 : c / k ≤ c := by
      have : 0 ≤ (k - 1) * (c / k) := Int.mul_nonneg (by omega) h1
      have e4 : (k - 1) * (c / k) = k * (c / k) - c / k := by rw [Int.sub_mul, Int.one_mul]
      omega
    omega
theorem Sm.of_bits {c : Int} (h : Builtin.Int.intBits c ≤ 1048576) : Sm c := by
  unfold Sm
  unfold Builtin.Int.intBits at h
  split at h <;> first | (have : c.natAbs.log2 ≤ 1048576 := by omega); omega | (next k => (have e : c = 0 := by simpa using k); subst e; decide)
theorem Sm.mul {c : Int} (h : Sm c) (k : Int) (hk : k.natAbs.log2 < 10000000) : c.natAbs.log2 + k.natAbs.log2 < 100000000 := by
  unfold Sm at h; omega
theorem x_lenTx {cs : List Nat} {s : S} (h : cs.length ≤ 16777216) : lenM [.str (tx cs)] s = .ok (.int cs.length) s := by rw [x_lenS (by rw [tx_len]; exact lenOk_of h), tx_len]
theorem x_addTx {a b : List Nat} {s : S} (h : a.length + b.length ≤ 16777216) : addM (.str (tx a)) (.str (tx b)) s = .ok (.str (tx (a ++ b))) s := by rw [x_addS, tx_len, tx_len, if_pos (lenOk_of h), tx_app]
theorem x_slVTx {cs : List Nat} {l u : Option Int} {s : S} (h : cs.length ≤ 16777216) : slV (.str (tx cs)) l u s = .ok (.str (cutS (tx cs) l u)) s := by rw [x_slVS, tx_len, if_pos (lenOk_of h)]
theorem cutS_drop1 (cs : List Nat) (n : Nat) : cutS (tx cs) (some ((n : Int) + 1)) none = tx (cs.drop (n + 1)) := cutS_drop cs (n + 1)
end Fx

/-! Fx: more for reckoning -/
namespace Fx
open PySem PySem.Spec PyProof.Rows L2
/-- a def that made cells of its own and hands back a datum without them -/
theorem runP_more {n : Nat} {g : M Out} {ds : List D} {vh : List Cell} {d : D} (h : ∃ l more, g (initS n ds vh) = .ok (.rt d) ⟨l, vh ++ more⟩) (hn : nc vh.length d = true) : runP n g ds vh = some d := by
  obtain ⟨l, more, h⟩ := h
  unfold runP
  rw [h]
  show fin vh ⟨l, vh ++ more⟩ d = some d
  unfold fin
  rw [if_pos (by show (vh ++ more).take vh.length = vh; exact List.take_left)]
  unfold thaw
  rw [if_pos hn]
theorem cut_drop {xs : List D} {k : Int} {n : Nat} (hk : k = (n : Int)) : Fx.cutD xs (some k) none = xs.drop n := by
  subst hk
  unfold Fx.cutD
  rw [HT.sIx_none, show HT.sIx xs.length 0 (some (n : Int)) = min n xs.length from HT.sIx_nat _ _ n]
  by_cases h : n ≤ xs.length
  · rw [Nat.min_eq_left h, List.take_of_length_le (by rw [List.length_drop]; exact Nat.le_refl _)]
  · rw [Nat.min_eq_right (by omega), List.drop_of_length_le (Nat.le_refl _), List.drop_of_length_le (by omega)]
    simp
theorem x_lk0 : lenOk 0 = true := lenOk_of (by decide)
theorem x_lk1 : lenOk 1 = true := lenOk_of (by decide)
theorem x_lk2 : lenOk 2 = true := lenOk_of (by decide)
theorem x_lk3 : lenOk 3 = true := lenOk_of (by decide)
theorem x_lk4 : lenOk 4 = true := lenOk_of (by decide)
theorem x_lk5 : lenOk 5 = true := lenOk_of (by decide)
theorem x_lk6 : lenOk 6 = true := lenOk_of (by decide)
theorem x_lk7 : lenOk 7 = true := lenOk_of (by decide)
theorem x_lk8 : lenOk 8 = true := lenOk_of (by decide)
theorem x_lisL {ds : List D} {s : S} : listN [.lst ds] s = .ok (.lst ds) s := nr rfl
theorem x_lisT {ds : List D} {s : S} : listN [.tup ds] s = .ok (.lst ds) s := nr rfl
theorem x_srtL {F : Pf} {ds : List D} {s : S} : sortKN F (.lst ds) s = sortKM F ds s := nr rfl
end Fx

/-! Fx: the order of plain values, plainly -/
namespace Fx
open PySem PySem.Spec PyProof.Rows L2
instance : DecidableEq Pl
  | .non, .non => .isTrue rfl
  | .int i, .int j => if h : i = j then .isTrue (by rw [h]) else .isFalse fun z => h (by cases z; rfl)
  | .str i, .str j => if h : i = j then .isTrue (by rw [h]) else .isFalse fun z => h (by cases z; rfl)
  | .non, .int _ | .non, .str _ | .int _, .non | .int _, .str _ | .str _, .non | .str _, .int _ => .isFalse fun z => by cases z
theorem Pl.irr (p : Pl) : p.lt p = false := by
  cases p with
  | non => rfl
  | int i => simp [Pl.lt]
  | str cs => exact decide_eq_false (List.lt_irrefl cs)
theorem Pl.tr {a b c : Pl} (h : a.lt b = true) (h2 : b.lt c = true) : a.lt c = true := by
  cases a <;> cases b <;> cases c <;> first
    | rfl
    | (simp [Pl.lt] at h; done)
    | (simp [Pl.lt] at h2; done)
    | (simp [Pl.lt] at h h2 ⊢; omega)
    | (simp only [Pl.lt, decide_eq_true_eq] at h h2 ⊢; exact List.lt_trans h h2)
theorem Pl.tri (a b : Pl) : a.lt b = true ∨ a = b ∨ b.lt a = true := by
  cases a with
  | non => cases b <;> first | exact .inr (.inl rfl) | exact .inl rfl
  | int i =>
    cases b with
    | non => exact .inr (.inr rfl)
    | int j =>
      rcases Int.lt_trichotomy i j with h | h | h
      · exact .inl (decide_eq_true h)
      · exact .inr (.inl (by rw [h]))
      · exact .inr (.inr (decide_eq_true h))
    | str c => exact .inl rfl
  | str x =>
    cases b with
    | non => exact .inr (.inr rfl)
    | int j => exact .inr (.inr rfl)
    | str y =>
      by_cases h : x < y
      · exact .inl (decide_eq_true h)
      · by_cases h2 : y < x
        · exact .inr (.inr (decide_eq_true h2))
        · exact .inr (.inl (by rw [List.le_antisymm (List.not_lt.mp h2) (List.not_lt.mp h)]))
theorem Pl.asy {a b : Pl} (h : a.lt b = true) : b.lt a = false := by
  cases q : b.lt a with
  | false => rfl
  | true =>
    have := Pl.tr h q
    rw [Pl.irr] at this
    cases this
/-- not after -/
def Pl.le (a b : Pl) : Bool := !b.lt a
theorem Pl.le_trans {a b c : Pl} (h : a.le b = true) (h2 : b.le c = true) : a.le c = true := by
  unfold Pl.le at *
  cases q : c.lt a with
  | false => rfl
  | true =>
    rcases Pl.tri b c with h3 | h3 | h3
    · rw [Pl.tr h3 q] at h; cases h
    · rw [h3, q] at h; cases h
    · rw [h3] at h2; cases h2
theorem Pl.le_total (a b : Pl) : (a.le b || b.le a) = true := by
  unfold Pl.le
  cases q : b.lt a with
  | false => rfl
  | true => rw [Pl.asy q]; rfl
theorem Pl.le_iff {a b : Pl} : a.le b = true ↔ a = b ∨ a.lt b = true := by
  unfold Pl.le
  constructor
  · intro h
    rcases Pl.tri a b with h3 | h3 | h3
    · exact .inr h3
    · exact .inl h3
    · rw [h3] at h; cases h
  · rintro (h | h)
    · rw [h, Pl.irr]; rfl
    · rw [Pl.asy h]; rfl
/-! what == sees of them -/
def Pl.py : Pl → PyData
  | .non => .none
  | .int i => .int i
  | .str cs => .str (tx cs)
def Pl.ok : Pl → Prop
  | .str cs => ∀ c ∈ cs, c < 1114112
  | _ => True
theorem strOk_tx {cs : List Nat} (h : ∀ c ∈ cs, c < 1114112) : PySem.PyData.strOk (tx cs) = true := by
  show (cs.toArray.all fun c => decide (c < 0x110000)) = true
  rw [List.all_toArray, List.all_eq_true]
  exact fun c hc => decide_eq_true (h c hc)
theorem Pl.pyT (p : Pl) : Fx.pyT p.d = some p.py := by cases p <;> rfl
theorem Pl.pyL : ∀ ps : List Pl, Fx.pyL (ps.map Pl.d) = some (ps.map Pl.py)
  | [] => rfl
  | p :: ps => by rw [List.map_cons, Fx.pyL, Pl.pyT, Pl.pyL ps]; rfl
theorem Pl.can {p : Pl} (h : p.ok) : p.py.canLay0 = true := by
  cases p with
  | str cs => exact strOk_tx h
  | _ => rfl
theorem Pl.canL : ∀ {ps : List Pl}, (∀ p ∈ ps, p.ok) → PyData.canLayAll0 (ps.map Pl.py) = true
  | [], _ => rfl
  | p :: ps, h => by
    rw [List.map_cons, PyData.canLayAll0, Pl.can (h p List.mem_cons_self), Pl.canL fun q hq => h q (List.mem_cons_of_mem _ hq)]
    rfl
theorem Pl.dep (p : Pl) : p.py.depth = 0 := by cases p <;> rfl
theorem Pl.depL : ∀ ps : List Pl, PyData.depthAll (ps.map Pl.py) = 0
  | [] => rfl
  | p :: ps => by rw [List.map_cons, PyData.depthAll, Pl.dep, Pl.depL ps]; rfl
theorem Pl.shaped {p : Pl} (h : p.ok) : SeqAt.shaped p.py = true := by
  unfold SeqAt.shaped
  rw [Pl.can h, Pl.dep]; rfl
theorem Pl.shapedL {ps : List Pl} (h : ∀ p ∈ ps, p.ok) : SeqAt.shaped (.list (ps.map Pl.py)) = true := by
  unfold SeqAt.shaped PyData.canLay0 PyData.depth
  rw [Pl.canL h, Pl.depL]; rfl
theorem Pl.shapedT {ps : List Pl} (h : ∀ p ∈ ps, p.ok) : SeqAt.shaped (.tuple (ps.map Pl.py)) = true := by
  unfold SeqAt.shaped PyData.canLay0 PyData.depth
  rw [Pl.canL h, Pl.depL]; rfl
theorem Pl.eqv (a b : Pl) : PyData.eqv a.py b.py = decide (a = b) := by
  cases a <;> cases b <;> first
    | (simp [Pl.py, PyData.eqv]; done)
    | (simp only [Pl.py, PyData.eqv]
       refine Eq.symm ?_
       rename_i x y
       by_cases h : x = y
       · subst h; simp
       · rw [decide_eq_false (fun z => h (by cases z; rfl))]
         refine Eq.symm (Bool.eq_false_iff.mpr fun z => h ?_)
         first | exact tx_inj (eq_of_beq z) | exact eq_of_beq z)
theorem Pl.eqvL : ∀ as bs : List Pl, PyData.eqvAll (as.map Pl.py) (bs.map Pl.py) = decide (as = bs)
  | [], [] => rfl
  | [], b :: bs => by simp [PyData.eqvAll]
  | a :: as, [] => by simp [PyData.eqvAll]
  | a :: as, b :: bs => by
    rw [List.map_cons, List.map_cons, PyData.eqvAll, Pl.eqv, Pl.eqvL as bs]
    by_cases h : a = b
    · by_cases h2 : as = bs
      · simp [h, h2]
      · simp [h, h2]
    · simp [h]
theorem x_eqPl {a b : Pl} {s : S} (ha : a.ok) (hb : b.ok) : eqM a.d b.d s = .ok (.bl (decide (a = b))) s := by
  have main : eqD a.d b.d s = .ok (.bl (decide (a = b))) s := by
    unfold eqD
    have e : ∀ p : Pl, pyD s p.d = some p.py := fun p => by cases p <;> rfl
    rw [e, e]
    dsimp only
    rw [Pl.shaped ha, Pl.shaped hb, Pl.eqv]
    rfl
  cases a <;> cases b <;> first | exact main | (rename_i x y; exact (x_eqS).trans (by simp))
theorem pyD_pls {s : S} {ps : List Pl} : pyD s (.lst (ps.map Pl.d)) = some (.list (ps.map Pl.py)) := by
  show Fx.pyT _ = _
  unfold Fx.pyT
  rw [Pl.pyL]; rfl
theorem x_eqPls {as bs : List Pl} {s : S} (ha : ∀ p ∈ as, p.ok) (hb : ∀ p ∈ bs, p.ok) : eqM (.lst (as.map Pl.d)) (.lst (bs.map Pl.d)) s = .ok (.bl (decide (as = bs))) s := by
  show eqD _ _ s = _
  unfold eqD
  rw [pyD_pls, pyD_pls]
  dsimp only
  rw [Pl.shapedL ha, Pl.shapedL hb, PyData.eqv, Pl.eqvL]
  rfl
theorem x_nePls {as bs : List Pl} {s : S} (ha : ∀ p ∈ as, p.ok) (hb : ∀ p ∈ bs, p.ok) : neM (.lst (as.map Pl.d)) (.lst (bs.map Pl.d)) s = .ok (.bl (!decide (as = bs))) s := by
  show neD _ _ s = _
  unfold neD
  rw [pyD_pls, pyD_pls]
  dsimp only
  rw [Pl.shapedL ha, Pl.shapedL hb, PyData.eqv, Pl.eqvL]
  rfl
/-! ### sorted by a key that ranks as they do -/
theorem mapO_all {f : D → Option D} {α : Type} {g h : α → D} : ∀ {as : List α}, (∀ a ∈ as, f (g a) = some (h a)) → mapO f (as.map g) = some (as.map h)
  | [], _ => rfl
  | a :: as, e => by
    rw [List.map_cons, mapO, e a List.mem_cons_self, mapO_all fun b hb => e b (List.mem_cons_of_mem _ hb)]
    rfl
theorem pyL_all {α : Type} {g : α → D} {h : α → PyData} : ∀ {as : List α}, (∀ a ∈ as, pyT (g a) = some (h a)) → pyL (as.map g) = some (as.map h)
  | [], _ => rfl
  | a :: as, e => by
    rw [List.map_cons, Fx.pyL, e a List.mem_cons_self, pyL_all fun b hb => e b (List.mem_cons_of_mem _ hb)]
    rfl
def sortPl (ps : List Pl) : List Pl := ps.mergeSort Pl.le
theorem sortPl_perm (ps : List Pl) : (sortPl ps).Perm ps := List.mergeSort_perm ps _
theorem sortPl_sorted (ps : List Pl) : (sortPl ps).Pairwise fun a b => a.le b = true := List.pairwise_mergeSort (le := Pl.le) (fun _ _ _ => Pl.le_trans) Pl.le_total ps
theorem sort_pls {F : Pf} {kd : Pl → D} {key : Pl → PyData} {ps : List Pl} {s : S} (hF : ∀ p ∈ ps, F [p.d] s.vh = some (kd p)) (hk : ∀ p ∈ ps, pyT (kd p) = some (key p)) (hl : ps.length ≤ 16777216)
    (h1 : ∀ a b, PySem.W.alike (key a) (key b) = true) (h2 : ∀ a, ∃ x r, key a = .tuple (x :: r)) (h3 : ∀ a, (key a).depth ≤ 60) (h4 : ∀ a b, PySem.W.dataLt (key a) (key b) = a.lt b) :
    sortKM F (ps.map Pl.d) s = .ok (.lst ((sortPl ps).map Pl.d)) s := by
  have e1 : keysD F s.vh (ps.map Pl.d) = some (ps.map kd) := mapO_all hF
  have e2 : pyL (ps.map kd) = some (ps.map key) := pyL_all hk
  have g : GoodK (ps.map key) := by
    refine ⟨fun d hd d' hd' => ?_, .inl fun d hd => ?_, fun d hd => ?_⟩
    · obtain ⟨a, _, rfl⟩ := List.mem_map.mp hd
      obtain ⟨b, _, rfl⟩ := List.mem_map.mp hd'
      exact h1 a b
    · obtain ⟨a, _, rfl⟩ := List.mem_map.mp hd
      exact h2 a
    · obtain ⟨a, _, rfl⟩ := List.mem_map.mp hd
      exact h3 a
  unfold sortKM
  rw [e1]
  dsimp only
  rw [e2]
  dsimp only
  rw [if_pos ⟨g, by rw [List.length_map]; exact hl⟩]
  have e3 : (ps.map Pl.d).zip (ps.map key) = ps.map fun p => (p.d, key p) := by
    rw [List.zip_map', ]
  have e4 : sortP (ps.map Pl.d) (ps.map key) = (sortPl ps).map Pl.d := by
    unfold sortP sortPl
    rw [e3, ← List.map_mergeSort (r := Pl.le) (s := PySem.W.dataLe false Prod.snd) (f := fun p : Pl => (p.d, key p)) (fun a _ b _ => by
      rw [PySem.W.dataLe_eq]
      show (!b.lt a) = (!PySem.W.dataLt (key b) (key a))
      rw [h4]), List.map_map]
    rfl
  rw [e4]
/-! ### the rank (0, 0, ''), (1, n, ''), (2, 0, text) -/
def Pl.key : Pl → PyData
  | .non => .tuple [.int 0, .int 0, .str (Str.ofString "")]
  | .int i => .tuple [.int 1, .int i, .str (Str.ofString "")]
  | .str cs => .tuple [.int 2, .int 0, .str (tx cs)]
theorem Pl.rank_py (p : Pl) : Fx.pyT p.rank = some p.key := by cases p <;> rfl
theorem Pl.key_lt (a b : Pl) : PySem.W.dataLt a.key b.key = a.lt b := by
  cases a <;> cases b <;> simp [Pl.key, Pl.lt, lex3, tx_tl, List.lt_irrefl] <;> omega
theorem sort_rank {F : Pf} {ps : List Pl} {s : S} (hF : ∀ p ∈ ps, F [p.d] s.vh = some p.rank) (hl : ps.length ≤ 16777216) : sortKM F (ps.map Pl.d) s = .ok (.lst ((sortPl ps).map Pl.d)) s := by
  refine sort_pls (key := Pl.key) hF (fun p _ => Pl.rank_py p) hl (fun a b => ?_) (fun a => ?_) (fun a => ?_) Pl.key_lt
  · cases a <;> cases b <;> rfl
  · cases a <;> exact ⟨_, _, rfl⟩
  · cases a <;> simp [Pl.key, PyData.depth, PyData.depthAll]
/-! ### rising keys -/
def Rise (ks : List Pl) : Prop := ks.Pairwise fun a b => a.lt b = true
def cntLt (ks : List Pl) (p : Pl) : Nat := (ks.filter fun q => q.lt p).length
theorem cnt_of {p : Pl} : ∀ {ks : List Pl} {n : Nat}, n ≤ ks.length → (∀ i (h : i < ks.length), i < n → ks[i].lt p = true) → (∀ i (h : i < ks.length), n ≤ i → ks[i].lt p = false) → cntLt ks p = n
  | [], n, hn, _, _ => by simp at hn; subst hn; rfl
  | k :: ks, 0, _, _, h2 => by
    unfold cntLt
    rw [List.filter_cons_of_neg (by have := h2 0 (by simp) (Nat.le_refl _); rw [List.getElem_cons_zero] at this; rw [this]; decide)]
    exact cnt_of (ks := ks) (n := 0) (Nat.zero_le _) (fun i h h' => by omega) (fun i h _ => h2 (i + 1) (by simpa using h) (Nat.zero_le _))
  | k :: ks, n + 1, hn, h1, h2 => by
    unfold cntLt
    rw [List.filter_cons_of_pos (by have := h1 0 (by simp) (by omega); rw [List.getElem_cons_zero] at this; exact this), List.length_cons]
    have := cnt_of (ks := ks) (n := n) (by simpa using hn) (fun i h h' => h1 (i + 1) (by simpa using h) (by omega)) (fun i h h' => h2 (i + 1) (by simpa using h) (by omega))
    unfold cntLt at this
    omega
theorem Rise.at {ks : List Pl} (h : Rise ks) {i j : Nat} (hi : i < ks.length) (hj : j < ks.length) (hij : i < j) : ks[i].lt ks[j] = true := List.pairwise_iff_getElem.mp h i j hi hj hij
theorem Rise.down {ks : List Pl} (h : Rise ks) {p : Pl} {i j : Nat} (hi : i < ks.length) (hj : j < ks.length) (hij : i ≤ j) (hp : ks[j].lt p = true) : ks[i].lt p = true := by
  rcases Nat.lt_or_eq_of_le hij with h1 | h1
  · exact Pl.tr (h.at hi hj h1) hp
  · subst h1; exact hp
end Fx

/-! Fx: plain values put in order one by one, plainly -/
namespace Fx
open PySem PySem.Spec PyProof.Rows L2
/-- v at its place, where it is not there -/
def insPl (v : Pl) : List Pl → List Pl
  | [] => [v]
  | k :: ks => if k.lt v = true then k :: insPl v ks else if v.lt k = true then v :: k :: ks else k :: ks
theorem ins_mem (v x : Pl) : ∀ ks : List Pl, x ∈ insPl v ks ↔ x = v ∨ x ∈ ks
  | [] => by simp [insPl]
  | k :: ks => by
    unfold insPl
    by_cases h1 : k.lt v = true
    · rw [if_pos h1, List.mem_cons, ins_mem v x ks, List.mem_cons]
      constructor
      · rintro (h | h | h)
        · exact .inr (.inl h)
        · exact .inl h
        · exact .inr (.inr h)
      · rintro (h | h | h)
        · exact .inr (.inl h)
        · exact .inl h
        · exact .inr (.inr h)
    · rw [if_neg h1]
      by_cases h2 : v.lt k = true
      · rw [if_pos h2, List.mem_cons]
      · rw [if_neg h2]
        rcases Pl.tri k v with h | h | h
        · exact absurd h h1
        · subst h
          simp
        · exact absurd h h2
theorem ins_rise {v : Pl} : ∀ {ks : List Pl}, Rise ks → Rise (insPl v ks)
  | [], _ => List.pairwise_singleton _ _
  | k :: ks, h => by
    have hh := List.pairwise_cons.mp h
    unfold insPl
    by_cases h1 : k.lt v = true
    · rw [if_pos h1]
      refine List.pairwise_cons.mpr ⟨fun x hx => ?_, ins_rise hh.2⟩
      rcases (ins_mem v x ks).mp hx with rfl | hx
      · exact h1
      · exact hh.1 x hx
    · rw [if_neg h1]
      by_cases h2 : v.lt k = true
      · rw [if_pos h2]
        refine List.pairwise_cons.mpr ⟨fun x hx => ?_, h⟩
        rcases List.mem_cons.mp hx with rfl | hx
        · exact h2
        · exact Pl.tr h2 (hh.1 x hx)
      · rw [if_neg h2]; exact h
theorem cnt_le (ks : List Pl) (v : Pl) : cntLt ks v ≤ ks.length := List.length_filter_le _ _
theorem cnt_cons_lt {k v : Pl} {ks : List Pl} (h : k.lt v = true) : cntLt (k :: ks) v = cntLt ks v + 1 := by
  unfold cntLt
  have e : (k :: ks).filter (fun q => Pl.lt q v) = k :: ks.filter (fun q => Pl.lt q v) := by rw [List.filter_cons, if_pos h]
  rw [e, List.length_cons]
theorem cnt_cons_no {k v : Pl} {ks : List Pl} (hr : Rise (k :: ks)) (h : ¬ k.lt v = true) : cntLt (k :: ks) v = 0 := by
  refine cnt_of (Nat.zero_le _) (fun i _ h => by omega) fun i hi _ => ?_
  cases q : (k :: ks)[i].lt v with
  | false => rfl
  | true => exact absurd (hr.down (i := 0) (by simp) hi (Nat.zero_le _) q) h
/-- as the program does it: at its place in the row, where that is the end or another, greater one stands there -/
theorem ins_eq {v : Pl} : ∀ {ks : List Pl}, Rise ks →
    (cntLt ks v = ks.length → insPl v ks = ks.take (cntLt ks v) ++ [v] ++ ks.drop (cntLt ks v)) ∧
    (∀ h : cntLt ks v < ks.length, (ks[cntLt ks v].d = ks[cntLt ks v].d → v.lt ks[cntLt ks v] = true → insPl v ks = ks.take (cntLt ks v) ++ [v] ++ ks.drop (cntLt ks v)) ∧ (v.lt ks[cntLt ks v] = false → insPl v ks = ks))
  | [], _ => ⟨fun _ => rfl, fun h => by exact absurd h (Nat.not_lt_zero _)⟩
  | k :: ks, hr => by
    have hh := (List.pairwise_cons.mp hr).2
    have ih := ins_eq (v := v) hh
    by_cases h1 : k.lt v = true
    · have hc := cnt_cons_lt (ks := ks) h1
      have e0 : insPl v (k :: ks) = k :: insPl v ks := by rw [insPl, if_pos h1]
      refine ⟨fun h => ?_, fun h => ⟨fun _ h2 => ?_, fun h2 => ?_⟩⟩
      · rw [hc, List.length_cons] at h
        rw [e0, ih.1 (by omega), hc]
        rfl
      · simp only [hc, List.getElem_cons_succ] at h2
        rw [hc, List.length_cons] at h
        rw [e0, (ih.2 (by omega)).1 rfl h2, hc]
        rfl
      · simp only [hc, List.getElem_cons_succ] at h2
        rw [hc, List.length_cons] at h
        rw [e0, (ih.2 (by omega)).2 h2]
    · have hc := cnt_cons_no hr h1
      refine ⟨fun h => ?_, fun h => ⟨fun _ h2 => ?_, fun h2 => ?_⟩⟩
      · rw [hc, List.length_cons] at h; omega
      · simp only [hc, List.getElem_cons_zero] at h2
        rw [insPl, if_neg h1, if_pos h2, hc]
        rfl
      · simp only [hc, List.getElem_cons_zero] at h2
        rw [insPl, if_neg h1, if_neg (by rw [h2]; decide)]
def ordPl (vs : List Pl) : List Pl := vs.foldl (fun acc v => insPl v acc) []
theorem ord_fold : ∀ (vs acc : List Pl), Rise acc → Rise (vs.foldl (fun acc v => insPl v acc) acc) ∧ ∀ x, x ∈ vs.foldl (fun acc v => insPl v acc) acc ↔ x ∈ acc ∨ x ∈ vs
  | [], acc, h => ⟨h, fun x => by simp⟩
  | v :: vs, acc, h => by
    obtain ⟨h1, h2⟩ := ord_fold vs (insPl v acc) (ins_rise h)
    refine ⟨h1, fun x => ?_⟩
    rw [List.foldl_cons, h2 x, ins_mem, List.mem_cons]
    constructor
    · rintro ((h | h) | h)
      · exact .inr (.inl h)
      · exact .inl h
      · exact .inr (.inr h)
    · rintro (h | h | h)
      · exact .inl (.inr h)
      · exact .inl (.inl h)
      · exact .inr h
theorem ord_rise (vs : List Pl) : Rise (ordPl vs) := (ord_fold vs [] List.Pairwise.nil).1
theorem ord_mem (vs : List Pl) (x : Pl) : x ∈ ordPl vs ↔ x ∈ vs := by
  have := (ord_fold vs [] List.Pairwise.nil).2 x
  unfold ordPl
  simpa using this
theorem ord_snoc (vs : List Pl) (v : Pl) : ordPl (vs ++ [v]) = insPl v (ordPl vs) := by
  unfold ordPl
  rw [List.foldl_append]
  rfl
/-- rising rows with the same members are the same -/
theorem Rise.ext : ∀ {as bs : List Pl}, Rise as → Rise bs → (∀ x, x ∈ as ↔ x ∈ bs) → as = bs
  | [], [], _, _, _ => rfl
  | [], b :: bs, _, _, h => by have := (h b).mpr List.mem_cons_self; cases this
  | a :: as, [], _, _, h => by have := (h a).mp List.mem_cons_self; cases this
  | a :: as, b :: bs, ha, hb, h => by
    have a1 := List.pairwise_cons.mp ha
    have b1 := List.pairwise_cons.mp hb
    have e : a = b := by
      rcases List.mem_cons.mp ((h a).mp List.mem_cons_self) with h1 | h1
      · exact h1
      · rcases List.mem_cons.mp ((h b).mpr List.mem_cons_self) with h2 | h2
        · exact h2.symm
        · have q1 := b1.1 a h1
          have q2 := Pl.tr q1 (a1.1 b h2)
          rw [Pl.irr] at q2; cases q2
    subst e
    congr 1
    refine Rise.ext a1.2 b1.2 fun x => ⟨fun hx => ?_, fun hx => ?_⟩
    · rcases List.mem_cons.mp ((h x).mp (List.mem_cons_of_mem _ hx)) with rfl | h1
      · have := a1.1 x hx
        rw [Pl.irr] at this; cases this
      · exact h1
    · rcases List.mem_cons.mp ((h x).mpr (List.mem_cons_of_mem _ hx)) with rfl | h1
      · have := b1.1 x hx
        rw [Pl.irr] at this; cases this
      · exact h1
end Fx

/-! Fx: objects of own classes, their fields and methods; promises of other kinds -/
namespace Fx
open PySem PySem.Spec PyProof.Rows L2
variable {X : Cx} {W : WX}
/-! ### one of two readings -/
def altM {α : Type} (f g : M α) : M α := fun s => match f s with
  | .bad => g s
  | r => r
theorem alt_is {α : Type} (f g : M α) (s : S) : altM f g s = f s ∨ altM f g s = g s := by
  unfold altM
  cases f s with
  | bad => exact .inr rfl
  | ok a s' => exact .inl rfl
  | exc e s' => exact .inl rfl
theorem pe_either {e : Expr} {t u : TE} (h : PE X e t) (k : PE X e u) : PE X e (fun σ H Q => t σ H Q ∨ u σ H Q) :=
  ⟨fun pins s σ H Q I q => q.elim (h.run pins s σ H Q I) (k.run pins s σ H Q I)⟩
theorem de_or2 {e : Expr} {f g h : M D} (a : DE X W e f) (b : DE X W e g) (c : ∀ s, h s = f s ∨ h s = g s) : DE X W e h := by
  obtain ⟨t, p, r⟩ := a
  obtain ⟨u, q, k⟩ := b
  refine ⟨_, pe_either p q, fun w H σ s Q R z => ?_⟩
  rcases c s with e | e
  · rw [e] at z; exact .inl (r w H σ s Q R z)
  · rw [e] at z; exact .inr (k w H σ s Q R z)
theorem dn_or2 {e : Expr} {f g h : M Cell} (a : DN X W e f) (b : DN X W e g) (c : ∀ s, h s = f s ∨ h s = g s) : DN X W e h := by
  obtain ⟨t, p, r⟩ := a
  obtain ⟨u, q, k⟩ := b
  refine ⟨_, pe_either p q, fun w H σ s Q R z => ?_⟩
  rcases c s with e | e
  · rw [e] at z; exact .inl (r w H σ s Q R z)
  · rw [e] at z; exact .inr (k w H σ s Q R z)
theorem de_alt {e : Expr} {f g : M D} (a : DE X W e f) (b : DE X W e g) : DE X W e (altM f g) := de_or2 a b (alt_is f g)
theorem dn_alt {e : Expr} {f g : M Cell} (a : DN X W e f) (b : DN X W e g) : DN X W e (altM f g) := dn_or2 a b (alt_is f g)
theorem dt_or2 {e : Expr} {f g h : M Bool} (a : DT X W e f) (b : DT X W e g) (c : ∀ s, h s = f s ∨ h s = g s) : DT X W e h := by
  obtain ⟨t, p, r⟩ := a
  obtain ⟨u, q, k⟩ := b
  refine ⟨fun σ H Q => t σ H Q ∨ u σ H Q, ⟨fun pins s σ H Q I z => z.elim (p.run pins s σ H Q I) (q.run pins s σ H Q I)⟩, fun w H σ s Q R z => ?_⟩
  rcases c s with e | e
  · rw [e] at z; exact .inl (r w H σ s Q R z)
  · rw [e] at z; exact .inr (k w H σ s Q R z)
theorem ds_alt {st : Stmt} {f g : M Out} (a : DS X W st f) (b : DS X W st g) : DS X W st (altM f g) := by
  obtain ⟨t, p, r⟩ := a
  obtain ⟨u, q, k⟩ := b
  refine ⟨fun D σ H => t D σ H ∨ u D σ H, ⟨fun pins s σ H D I z => z.elim (p.run pins s σ H D I) (q.run pins s σ H D I)⟩, fun w H σ s D R z => ?_⟩
  rcases alt_is f g s with e | e
  · rw [e] at z; exact .inl (r w H σ s D R z)
  · rw [e] at z; exact .inr (k w H σ s D R z)
/-! ### fields -/
def clsIn (K : PySem.W.Frag) (x : Str) (C : Addr) : Prop := PySem.W.nsIn K mainGlobals x = some (some (.ref C))
theorem clsIn.eq {K : PySem.W.Frag} {x : Str} {C C' : Addr} (h : clsIn K x C) (h' : clsIn K x C') : C' = C := by
  unfold clsIn at h h'
  rw [h] at h'
  cases h'
  rfl
def ClsP (K : PySem.W.Frag) (x : Str) : Prop := ∀ C, clsIn K x C → Cls K C
def NoA (K : PySem.W.Frag) (x f : Str) : Prop := ∀ C, clsIn K x C → NoAttr K C f
def objOf (s : S) (x : Str) : D → Option (List (Str × D))
  | .cell n => match s.vh[n]? with
    | some (.obj y fs) => if y = x then some fs else none
    | _ => none
  | _ => none
section
variable {K : PySem.W.Frag} {w : Wd} {H : Hp} {σ : L2.St} {s : S} {v : V} {d : D}
theorem RS.obj (R : RS K w H σ s) (r : Rep K w v d) {x : Str} {fs : List (Str × D)} (h : objOf s x d = some fs) : ∃ n a C dx vs, d = .cell n ∧ v = .ref a ∧ s.vh[n]? = some (.obj x fs) ∧ w.ρ[n]? = some a ∧ clsIn K x C ∧ H a = some (.ins C dx vs) ∧ RepF K w vs fs := by
  cases r with
  | @cell a n h1 =>
    obtain ⟨c, e, hc⟩ := R.cellOf h1
    unfold objOf at h
    simp only [e] at h
    cases c with
    | lst xs => simp at h
    | dct _ => simp at h
    | dctL _ _ _ => simp at h
    | dctN _ _ => simp at h
    | obj y gs =>
      simp only at h
      split at h
      · next q => cases h; subst q; obtain ⟨C, dx, vs, h2, h3, h4⟩ := hc; exact ⟨n, a, C, dx, vs, rfl, rfl, e, h1, h2, h3, h4⟩
      · cases h
  | _ => simp [objOf] at h
theorem RepF.lookup : ∀ {vs : List (Str × V)} {fs : List (Str × D)} {f : Str} {d : D}, RepF K w vs fs → fs.lookup f = some d → ∃ v, vs.lookup f = some v ∧ Rep K w v d
  | _, _, f, d, .nil, e => by cases e
  | _, _, f, d, .cons (k := k) h t, e => by
    rw [List.lookup_cons] at e ⊢
    cases q : f == k with
    | true => rw [q] at e; cases e; exact ⟨_, rfl, h⟩
    | false => rw [q] at e; exact RepF.lookup t e
theorem RepF.lookN : ∀ {vs : List (Str × V)} {fs : List (Str × D)} {f : Str}, RepF K w vs fs → fs.lookup f = none → vs.lookup f = none
  | _, _, f, .nil, _ => rfl
  | _, _, f, .cons (k := k) h t, e => by
    rw [List.lookup_cons] at e ⊢
    cases q : f == k with
    | true => rw [q] at e; cases e
    | false => rw [q] at e; exact RepF.lookN t e
theorem RepF.length : ∀ {vs : List (Str × V)} {fs : List (Str × D)}, RepF K w vs fs → vs.length = fs.length
  | _, _, .nil => rfl
  | _, _, .cons _ t => by simp only [List.length_cons]; rw [RepF.length t]
def putD (f : Str) (v : D) : List (Str × D) → List (Str × D)
  | [] => [(f, v)]
  | (g, x) :: r => if g = f then (g, v) :: r else (g, x) :: putD f v r
theorem RepF.put (r : Rep K w v d) {f : Str} : ∀ {vs : List (Str × V)} {fs : List (Str × D)}, RepF K w vs fs → RepF K w (putF f v vs) (putD f d fs)
  | _, _, .nil => .cons r .nil
  | _, _, .cons (k := k) h t => by
    unfold putF putD
    split
    · exact .cons r t
    · exact .cons h (RepF.put r t)
end
def fldM (x f : Str) (d : D) : M D := fun s => match objOf s x d with
  | some fs => match fs.lookup f with
    | some v => .ok v s
    | none => .bad
  | none => .bad
theorem de_fld {x f : Str} {e : Expr} {fe : M D} {pos : Pos} (hc : ClsP X.K x) (hn : NoA X.K x f) (h : DE X W e fe) (hb : attributeBase e f X.env (eval e X.env) = eval e X.env := by rfl) : DE X W (.Attribute e f pos) (bnd fe (fldM x f)) := by
  obtain ⟨t, p, r⟩ := h
  refine ⟨_, pe_fld p hb, fun w H σ s Q R z => ?_⟩
  refine r.bnd R z fun d s1 w1 H1 v l1 R1 r1 p1 => ?_
  unfold fldM at p1
  split at p1
  · next fs hf =>
    obtain ⟨n, a, C, dx, vs, rfl, rfl, h1, h2, h3, h4, h5⟩ := R1.obj r1 hf
    split at p1
    · next u hu =>
      obtain ⟨y, h6, h7⟩ := RepF.lookup h5 hu
      exact ⟨a, C, dx, vs, y, rfl, h4, hc C h3, hn C h3, h6, Post.here p1 R1 h7⟩
    · exact p1.elim
  · exact p1.elim
def stoM (x f : Str) (v : D) (d : D) : M Out := fun s => match d, objOf s x d with
  | .cell n, some fs => if fs.length < 1000 then .ok .nx ⟨s.loc, s.vh.set n (.obj x (putD f v fs))⟩ else .bad
  | _, _ => .bad
def fldS (x f : Str) (fo fv : M D) : M Out := bnd fv fun v => bnd fo fun d => stoM x f v d
theorem ds_fld {x f : Str} {o value : Expr} {fo fv : M D} {pos' pos : Pos} (hc : ClsP X.K x) (hn : NoA X.K x f) (ho : DE X W o fo) (hv : DE X W value fv) (hs : swapsWith value (some (.Attribute o f pos')) pos.line X.env = pure false := by rfl) : DS X W (.Assign [.Attribute o f pos'] value pos) (fldS x f fo fv) := by
  obtain ⟨t, p, r⟩ := ho
  obtain ⟨u, q, k⟩ := hv
  refine ⟨_, ps_fld p q hs, fun w H σ s D R z => ?_⟩
  refine k.bndS R z fun v s1 w1 H1 y l1 R1 r1 p1 => ?_
  refine r.bndS R1 p1 fun d s2 w2 H2 b l2 R2 r2 p2 => ?_
  unfold stoM at p2
  split at p2
  · next n fs hf =>
    obtain ⟨n', a, C, dx, vs, e0, rfl, h1, h2, h3, h4, h5⟩ := R2.obj r2 hf
    cases e0
    split at p2
    · next hl =>
      refine ⟨a, C, dx, vs, rfl, h4, hc C h3, hn C h3, by rw [RepF.length h5]; exact hl, ?_⟩
      exact p2 w2 _ σ (Le.write (List.mem_of_getElem? h2)) (R2.setCell h2 ⟨C, dx, _, h3, upd_same, RepF.put (r1.up l2) h5⟩)
    · exact p2.elim
  · exact p2.elim
/-! ### a call answers a promise -/
def Ans {α : Type} (K : PySem.W.Frag) (P : Pr V α) (sp : Sp) (g : List D → M α) : Prop := ∀ (W : WX) w H σ s vs ds Q, RS K w H σ s → RepL K w vs ds → Post K W P w H σ (g ds s) Q → sp vs H Q E0
/-- a def or method that hands back a new list or dict of its own, and changes nothing -/
abbrev Nf := List D → List Cell → Option Cell
def ncC (b : Nat) : Cell → Bool
  | .lst ds => ncL b ds
  | .dct kvs => kvs.all fun kv => nc b kv.2
  | .dctL _ _ kvs => kvs.all fun kv => nc b kv.2
  | .dctN _ kvs => kvs.all fun kv => nc b kv.2
  | .obj _ fs => fs.all fun kv => nc b kv.2
open Classical in
noncomputable def finN (vh : List Cell) (s : S) : D → Option Cell
  | .cell n => if s.vh.take vh.length = vh then (if vh.length ≤ n then (match s.vh[n]? with
    | some c => if ncC vh.length c = true then some c else none
    | none => none) else none) else none
  | _ => none
noncomputable def runN (n : Nat) (g : M Out) : Nf := fun ds vh => match g (initS n ds vh) with
  | .ok (.rt d) s => finN vh s d
  | _ => none
def SpN (K : PySem.W.Frag) (n : Nat) (F : Nf) : Sp := fun vs H Q _ => vs.length = n ∧ ∃ w σ s ds c, RS K w H σ s ∧ RepL K w vs ds ∧ F ds s.vh = some c ∧ ∀ w' H' v, Le w H w' H' → RS K w' H' σ s → (pN K).p H w' H' v c → Q v H'
def callN (n : Nat) (F : Nf) (ds : List D) : M Cell := fun s => if ds.length = n then match F ds s.vh with
  | some c => .ok c s
  | none => .bad else .bad
theorem ans_P {K : PySem.W.Frag} {n : Nat} {F : Pf} : Ans K (pD K) (SpP K n F) (callP n F) := fun W w H σ s vs ds Q R r p => by
  unfold callP at p
  split at p
  · next hl =>
    cases hF : F ds s.vh with
    | none => rw [hF] at p; exact p.elim
    | some d => rw [hF] at p; exact ⟨by rw [RepL.length r]; exact hl, w, σ, s, ds, d, R, r, hF, fun w' H' v l R' r' => p w' H' v l R' r'⟩
  · exact p.elim
theorem ans_S {K : PySem.W.Frag} {n : Nat} {F : Sf} : Ans K (pD K) (SpS K n F) (callS n F) := fun W w H σ s vs ds Q R r p => by
  unfold callS at p
  split at p
  · next hl =>
    cases hF : F ds s.vh with
    | none => rw [hF] at p; exact p.elim
    | some dv => obtain ⟨d, vh⟩ := dv; rw [hF] at p; exact ⟨by rw [RepL.length r]; exact hl, w, σ, s, ds, d, vh, R, r, hF, fun w' H' v l R' r' => p w' H' v l R' r'⟩
  · exact p.elim
theorem ans_N {K : PySem.W.Frag} {n : Nat} {F : Nf} : Ans K (pN K) (SpN K n F) (callN n F) := fun W w H σ s vs ds Q R r p => by
  unfold callN at p
  split at p
  · next hl =>
    cases hF : F ds s.vh with
    | none => rw [hF] at p; exact p.elim
    | some c => rw [hF] at p; exact ⟨by rw [RepL.length r]; exact hl, w, σ, s, ds, c, R, r, hF, fun w' H' v l R' r' => p w' H' v l R' r'⟩
  · exact p.elim
/-! ### behind a def: its own cells are forgotten -/
section
variable {K : PySem.W.Frag} {w w0 : Wd} {H H0 : Hp} {σ σ0 : L2.St} {s s0 : S} {b : Nat}
def Wd.cut (w : Wd) (b : Nat) : Wd := ⟨w.ρ.take b, w.F⟩
mutual
theorem cut_rep : ∀ {v : V} {d : D}, Rep K w v d → nc b d = true → Rep K (w.cut b) v d
  | _, _, .non, _ => .non
  | _, _, .bl x, _ => .bl x
  | _, _, .int i, _ => .int i
  | _, _, .str x, _ => .str x
  | _, _, .ref a, _ => .ref a
  | _, _, .tup h t, c => .tup h (cut_repL t (by simpa [nc] using c))
  | _, _, .pr h r q, c => by
    unfold nc at c
    rw [Bool.and_eq_true] at c
    exact .pr h (cut_rep r c.1) (cut_rep q c.2)
  | _, _, .lst h t, c => .lst h (cut_repL t (by simpa [nc] using c))
  | _, _, .cell (n := n) h, c => .cell (by
      have hn : n < b := by simpa [nc] using c
      show (w.ρ.take b)[n]? = _
      rw [List.getElem?_take, if_pos hn]; exact h)
theorem cut_repL : ∀ {vs : List V} {ds : List D}, RepL K w vs ds → ncL b ds = true → RepL K (w.cut b) vs ds
  | _, _, .nil, _ => .nil
  | _, _, .cons h t, c => by
    have c : (nc b _ && ncL b _) = true := c
    rw [Bool.and_eq_true] at c
    exact .cons (cut_rep h c.1) (cut_repL t c.2)
end
theorem cut_repK : ∀ {vs : List (Key × V)} {ds : List (Key × D)}, RepK K w vs ds → (ds.all fun kv => nc b kv.2) = true → RepK K (w.cut b) vs ds
  | _, _, .nil, _ => .nil
  | _, _, .cons h t, c => by
    rw [List.all_cons, Bool.and_eq_true] at c
    exact .cons (cut_rep h c.1) (cut_repK t c.2)
theorem cut_repF : ∀ {vs : List (Str × V)} {ds : List (Str × D)}, RepF K w vs ds → (ds.all fun kv => nc b kv.2) = true → RepF K (w.cut b) vs ds
  | _, _, .nil, _ => .nil
  | _, _, .cons h t, c => by
    rw [List.all_cons, Bool.and_eq_true] at c
    exact .cons (cut_rep h c.1) (cut_repF t c.2)
theorem cut_repN : ∀ {xs : NX} {ds : List (NestedKey × D)}, RepN K w xs ds → (ds.all fun kv => nc b kv.2) = true → RepN K (w.cut b) xs ds
  | _, _, .nil, _ => .nil
  | _, _, .cons hk hq r ru h t, c => by
    rw [List.all_cons, Bool.and_eq_true] at c
    exact .cons hk hq (cut_rep r (nk_nc hk)) ru (cut_rep h c.1) (cut_repN t c.2)
theorem cut_cell {a : Addr} {c : Cell} (h : CellIs K w H a c) (hc : ncC b c = true) : CellIs K (w.cut b) H a c := by
  cases c with
  | lst ds => obtain ⟨vs, h1, h2⟩ := h; exact ⟨vs, h1, cut_repL h2 hc⟩
  | dct kvs => obtain ⟨vs, h1, h2⟩ := h; exact ⟨vs, h1, cut_repK h2 hc⟩
  | dctL o us kvs => obtain ⟨h1, h2⟩ := h; exact ⟨h1, cut_repK h2 hc⟩
  | dctN wd kvs => obtain ⟨xs, h1, h2⟩ := h; exact ⟨xs, h1, cut_repN h2 hc⟩
  | obj x fs => obtain ⟨C, dx, vs, h0, h1, h2⟩ := h; exact ⟨C, dx, vs, h0, h1, cut_repF h2 hc⟩
theorem nc_ofK : ∀ {vs : List (Key × V)} {ds : List (Key × D)}, RepK K w0 vs ds → w0.ρ.length ≤ b → (ds.all fun kv => nc b kv.2) = true
  | _, _, .nil, _ => rfl
  | _, _, .cons h t, c => by
    rw [List.all_cons, nc_of h c, nc_ofK t c]; rfl
theorem nc_ofF : ∀ {vs : List (Str × V)} {ds : List (Str × D)}, RepF K w0 vs ds → w0.ρ.length ≤ b → (ds.all fun kv => nc b kv.2) = true
  | _, _, .nil, _ => rfl
  | _, _, .cons h t, c => by
    rw [List.all_cons, nc_of h c, nc_ofF t c]; rfl
theorem nc_ofN : ∀ {xs : NX} {ds : List (NestedKey × D)}, RepN K w0 xs ds → w0.ρ.length ≤ b → (ds.all fun kv => nc b kv.2) = true
  | _, _, .nil, _ => rfl
  | _, _, .cons _ _ _ _ h t, c => by
    rw [List.all_cons, nc_of h c, nc_ofN t c]; rfl
theorem ncC_of {a : Addr} {c : Cell} (h : CellIs K w0 H0 a c) (hb : w0.ρ.length ≤ b) : ncC b c = true := by
  cases c with
  | lst ds => obtain ⟨vs, h1, h2⟩ := h; exact nc_ofL h2 hb
  | dct kvs => obtain ⟨vs, h1, h2⟩ := h; exact nc_ofK h2 hb
  | dctL o us kvs => obtain ⟨h1, h2⟩ := h; exact nc_ofK h2 hb
  | dctN wd kvs => obtain ⟨xs, h1, h2⟩ := h; exact nc_ofN h2 hb
  | obj x fs => obtain ⟨C, dx, vs, h0, h1, h2⟩ := h; exact nc_ofF h2 hb
theorem RS.ncs (R0 : RS K w0 H0 σ0 s0) : ∀ c ∈ s0.vh, ncC s0.vh.length c = true := fun c hc => by
  obtain ⟨n, hn, e⟩ := List.mem_iff_getElem.mp hc
  obtain ⟨a, _, h⟩ := R0.addrOf (n := n) (c := c) (by rw [List.getElem?_eq_getElem hn, e])
  exact ncC_of h (Nat.le_of_eq R0.cl)
theorem RS.cut (R0 : RS K w0 H0 σ0 s0) (l : Le w0 H0 w H) (R : RS K w H σ s) (hb : b = s0.vh.length) (hl : b ≤ s.vh.length) (hc : ∀ c ∈ s.vh.take b, ncC b c = true) : Le w0 H0 (w.cut b) H ∧ RS K (w.cut b) H σ0 ⟨s0.loc, s.vh.take b⟩ := by
  subst hb
  have hlen : s0.vh.length ≤ w.ρ.length := by rw [R.cl]; exact hl
  have le : w0.le (w.cut s0.vh.length) := ⟨fun n a e => by
    have hn : n < s0.vh.length := by rw [← R0.cl]; exact (List.getElem?_eq_some_iff.mp e).1
    show (w.ρ.take s0.vh.length)[n]? = some a
    rw [List.getElem?_take, if_pos hn]; exact l.le.1 n a e, l.le.2⟩
  refine ⟨⟨le, l.keep, fun a h => l.newρ a (List.mem_of_mem_take h), l.newF⟩, R.sub, R0.len, fun i d e => ?_, ?_, R.nd.sublist (List.take_sublist _ _), fun a ha => R.out a (List.mem_of_mem_take ha), fun n a c e1 e2 => ?_⟩
  · obtain ⟨v, h1, h2⟩ := R0.loc i d e
    exact ⟨v, h1, h2.upW le⟩
  · show (w.ρ.take s0.vh.length).length = (s.vh.take s0.vh.length).length
    rw [List.length_take, List.length_take]; omega
  · have e1 : (w.ρ.take s0.vh.length)[n]? = some a := e1
    have e2 : (s.vh.take s0.vh.length)[n]? = some c := e2
    have hm := List.mem_of_getElem? e2
    have hn : n < s0.vh.length := by
      have := (List.getElem?_eq_some_iff.mp e2).1
      rw [List.length_take] at this; omega
    rw [List.getElem?_take, if_pos hn] at e1 e2
    exact cut_cell (R.cells n a c e1 e2) (hc c hm)
end
open Classical in
/-- writes cells of its caller, what it made besides is forgotten -/
noncomputable def finW (b : Nat) (s : S) (d : D) : Option (D × List Cell) := if b ≤ s.vh.length then (if (s.vh.take b).all (ncC b) = true then (if nc b d = true then some (d, s.vh.take b) else none) else none) else none
noncomputable def runW (n : Nat) (g : M Out) : Sf := fun ds vh => match g (initS n ds vh) with
  | .ok (.rt d) s => finW vh.length s d
  | .ok .nx s => finW vh.length s .non
  | _ => none
section
variable {P : Program} {wd : World} {K : PySem.W.Frag} {mg : Str → Option Value} {base : Heap} {x qual : Str} {st : Stmt} {f : Addr} {fd : FuncData} {N ps : List Str} {k : Nat} {g : M Out}
theorem fn_new (F : Fun K x qual st f fd) (Sc : FnScope N ps (defScope st)) (hle : ps.length ≤ N.length)
    (body : ∀ (cdv : Value) (A : Around) (outer : List Env) (s : Shared) (H : Hp) (E : XK), Room k (A.deeper (envOfC qual (defScope st) s.heap.objs.size f cdv)) →
      DSs (cxOf CX0 P wd K mg base N qual (defScope st) f cdv A outer s H E).nox W0 (defBody st) g) : FnOk P wd K mg base CX0 (k + 1) f fd ps (SpN K ps.length (runN N.length g)) := by
  refine F.ok Sc (fun vs H Q E h => h.1) fun cdv A outer s H vs Q E hr h => ?_
  obtain ⟨t, p, r⟩ := body cdv A outer s H E hr
  obtain ⟨hl, w, σ, z, ds, c, R, rv, e, q⟩ := h
  refine ⟨t, p, r w H _ (initS N.length ds z.vh) _ (start_ok (ps := ps) R rv) ?_⟩
  show PostS K W0 w H (g (initS N.length ds z.vh)) _
  unfold runN at e
  cases hg : g (initS N.length ds z.vh) with
  | bad => rw [hg] at e; cases e
  | exc x s1 => rw [hg] at e; cases e
  | ok o s1 =>
    rw [hg] at e
    cases o with
    | brk => cases e
    | cnt => cases e
    | nx => cases e
    | rt d0 =>
      intro w' H' σ' v l R' rv
      cases d0 with
      | cell n =>
        unfold finN at e
        dsimp only at e
        by_cases h1 : s1.vh.take z.vh.length = z.vh
        · rw [if_pos h1] at e
          by_cases h2 : z.vh.length ≤ n
          · rw [if_pos h2] at e
            cases hc' : s1.vh[n]? with
            | none => rw [hc'] at e; cases e
            | some c' =>
              rw [hc'] at e
              dsimp only at e
              by_cases h3 : ncC z.vh.length c' = true
              · rw [if_pos h3] at e
                cases e
                cases rv with
                | @cell a0 _ hr =>
                  have hl2 : z.vh.length ≤ s1.vh.length := by
                    have := congrArg List.length h1
                    rw [List.length_take] at this; omega
                  obtain ⟨l2, R2⟩ := RS.cut R l R' rfl hl2 (by rw [h1]; exact R.ncs)
                  rw [h1] at R2
                  have hcell := R'.cells _ _ _ hr hc'
                  refine q _ _ _ l2 R2 ⟨_, rfl, R'.out _ (List.mem_of_getElem? hr), fun hm => ?_, cut_cell hcell h3, ?_⟩
                  · obtain ⟨m, hm1, hm2⟩ := List.mem_iff_getElem.mp hm
                    have e1 : (w'.ρ.take z.vh.length)[m]? = some a0 := by
                      rw [← hm2]
                      exact List.getElem?_eq_getElem hm1
                    have hmb : m < z.vh.length := by
                      have : m < (w'.ρ.take z.vh.length).length := hm1
                      rw [List.length_take] at this; omega
                    rw [List.getElem?_take, if_pos hmb] at e1
                    have i1 := List.getElem?_eq_some_iff.mp e1
                    have i2 := List.getElem?_eq_some_iff.mp hr
                    have := (List.getElem_inj R'.nd).mp (i1.2.trans i2.2.symm)
                    omega
                  · cases hH : H a0 with
                    | none => rfl
                    | some o =>
                      exfalso
                      rcases l.newρ a0 (List.mem_of_getElem? hr) with z1 | z1
                      · obtain ⟨m, hm1, hm2⟩ := List.mem_iff_getElem.mp z1
                        have e1 : w.ρ[m]? = some a0 := by rw [List.getElem?_eq_getElem hm1, hm2]
                        have e2 := l.le.1 m a0 e1
                        have i1 := List.getElem?_eq_some_iff.mp e2
                        have i2 := List.getElem?_eq_some_iff.mp hr
                        have := (List.getElem_inj R'.nd).mp (i1.2.trans i2.2.symm)
                        have hz : m < z.vh.length := by rw [← R.cl]; exact hm1
                        omega
                      · rw [hH] at z1; cases z1
              · rw [if_neg h3] at e; cases e
          · rw [if_neg h2] at e; cases e
        · rw [if_neg h1] at e; cases e
      | _ => simp [finN] at e
theorem fn_wr (F : Fun K x qual st f fd) (Sc : FnScope N ps (defScope st)) (hle : ps.length ≤ N.length)
    (body : ∀ (cdv : Value) (A : Around) (outer : List Env) (s : Shared) (H : Hp) (E : XK), Room k (A.deeper (envOfC qual (defScope st) s.heap.objs.size f cdv)) →
      DSs (cxOf CX0 P wd K mg base N qual (defScope st) f cdv A outer s H E).nox W0 (defBody st) g) : FnOk P wd K mg base CX0 (k + 1) f fd ps (SpS K ps.length (runW N.length g)) := by
  refine F.ok Sc (fun vs H Q E h => h.1) fun cdv A outer s H vs Q E hr h => ?_
  obtain ⟨t, p, r⟩ := body cdv A outer s H E hr
  obtain ⟨hl, w, σ, z, ds, d, vh, R, rv, e, q⟩ := h
  refine ⟨t, p, r w H _ (initS N.length ds z.vh) _ (start_ok (ps := ps) R rv) ?_⟩
  show PostS K W0 w H (g (initS N.length ds z.vh)) _
  unfold runW at e
  have fin_ok : ∀ {d0 : D} {s1 : S}, finW z.vh.length s1 d0 = some (d, vh) → ∀ w' H' σ' v, Le w H w' H' → RS K w' H' σ' s1 → Rep K w' v d0 → Q v H' := fun {d0 s1} e w' H' σ' v l R' rv => by
    unfold finW at e
    split at e
    · next h1 =>
      split at e
      · next h2 =>
        split at e
        · next h3 =>
          cases e
          rw [List.all_eq_true] at h2
          obtain ⟨l2, R2⟩ := RS.cut R l R' rfl h1 h2
          exact q _ _ _ l2 R2 (cut_rep rv h3)
        · cases e
      · cases e
    · cases e
  cases hg : g (initS N.length ds z.vh) with
  | bad => rw [hg] at e; cases e
  | exc x s1 => rw [hg] at e; cases e
  | ok o s1 =>
    rw [hg] at e
    cases o with
    | brk => cases e
    | cnt => cases e
    | rt d0 => exact fun w' H' σ' v l R' rv => fin_ok e w' H' σ' v l R' rv
    | nx => exact fun w' H' σ' l R' => fin_ok e w' H' σ' .non l R' .non
end
end Fx

/-! Fx: calls of defs and methods by their promises, new objects -/
namespace Fx
open PySem PySem.Spec PyProof.Rows L2
variable {X : Cx} {W : WX}
structure FnQ (P : Program) (wd : World) (K : PySem.W.Frag) (mg : Str → Option Value) (base : Heap) (x : Str) (k : Nat) (sp : Sp) : Prop where
  ex : ∃ (f : Addr) (fd : FuncData) (ps : List Str), mg x = some (.ref f) ∧ PySem.W.keepIn K (.ref f) = true ∧ Binds K fd ps [] ∧ FnOk P wd K mg base CX0 k f fd ps sp
structure Met (P : Program) (wd : World) (K : PySem.W.Frag) (mg : Str → Option Value) (base : Heap) (x m : Str) (k : Nat) (sp : Sp) : Prop where
  ex : ∃ (C f : Addr) (fd : FuncData) (ps : List Str), clsIn K x C ∧ Meth K C m f ∧ Binds K fd ps [] ∧ FnOk P wd K mg base CX0 k f fd ps sp
structure MkQ (P : Program) (wd : World) (K : PySem.W.Frag) (mg : Str → Option Value) (base : Heap) (x : Str) (k : Nat) (sp : Sp) : Prop where
  ex : ∃ (C f : Addr) (fd : FuncData) (ps : List Str), clsIn K x C ∧ mg x = some (.ref C) ∧ Mk K C f ∧ Binds K fd ps [] ∧ FnOk P wd K mg base CX0 k f fd ps sp
section
variable {P : Program} {wd : World} {K : PySem.W.Frag} {mg : Str → Option Value} {base : Heap} {x m : Str} {j k n : Nat} {sp : Sp}
theorem FnQ.mono (h : FnQ P wd K mg base x j sp) (l : j ≤ k) : FnQ P wd K mg base x k sp := let ⟨f, fd, ps, a, b, c, d⟩ := h.ex; ⟨f, fd, ps, a, b, c, d.mono l⟩
theorem Met.mono (h : Met P wd K mg base x m j sp) (l : j ≤ k) : Met P wd K mg base x m k sp := let ⟨C, f, fd, ps, a, b, c, d⟩ := h.ex; ⟨C, f, fd, ps, a, b, c, d.mono l⟩
theorem FnP.q {F : Pf} (h : FnP P wd K mg base x n k F) : FnQ P wd K mg base x k (SpP K n F) := let ⟨f, fd, ps, _, b, c, d, e⟩ := h.ex; ⟨f, fd, ps, b, c, d, e⟩
theorem FnS.q {F : Sf} (h : FnS P wd K mg base x n k F) : FnQ P wd K mg base x k (SpS K n F) := let ⟨f, fd, ps, _, b, c, d, e⟩ := h.ex; ⟨f, fd, ps, b, c, d, e⟩
end
section
variable {α : Type} {P : Pr V α} {sp : Sp} {g : List D → M α} {x m : Str} {k : Nat} {e o : Expr} {es : List Expr} {fo : M D} {fs : M (List D)} {p pos apos : Pos}
theorem fn_call (F : FnQ X.prog X.w X.K X.mg X.base x k sp) (A : Ans X.K P sp g) (hr : Room k X.A) (ha : DA X W (e :: es) fs) (hg : Gl X x := by rfl) (hdb : (x == ("__debug__" : Str)) = false := by decide)
    (he : starEach (e :: es) X.env = (false, eval e X.env) :: starEach es X.env := by rfl) (hpl : (backTo pos (starEach es X.env)).any (·.1) = false := by rfl) : ∃ t, PE X (.Call (.Name x p) (e :: es) [] pos) t ∧ Fol X.K W P t (bnd fs g) := by
  obtain ⟨f, fd, ps, hm, hk, hb, G⟩ := F.ex
  obtain ⟨t, q, r⟩ := ha
  refine ⟨_, pe_call G hr hg hm hk hb .nil pass0 q hdb he hpl, fun w H σ s Q R z => ?_⟩
  refine r.bnd R z fun ds s1 w1 H1 vs l1 R1 r1 p1 => ?_
  rw [List.append_nil]
  exact A W w1 H1 σ s1 vs ds Q R1 r1 p1
theorem fn_call0 (F : FnQ X.prog X.w X.K X.mg X.base x k sp) (A : Ans X.K P sp g) (hr : Room k X.A) (hg : Gl X x := by rfl) (hdb : (x == ("__debug__" : Str)) = false := by decide) : ∃ t, PE X (.Call (.Name x p) [] [] pos) t ∧ Fol X.K W P t (g []) := by
  obtain ⟨f, fd, ps, hm, hk, hb, G⟩ := F.ex
  exact ⟨_, pe_call0 G hr hg hm hk hb .nil pass0 hdb, fun w H σ s Q R z => A W w H σ s [] [] Q R .nil z⟩
/-! o.m(e, ..) -/
def metM (x m : Str) (fo : M D) (fs : M (List D)) (g : List D → M α) : M α := bnd fo fun d s => match objOf s x d with
  | some gs => if gs.lookup m = none then bnd fs (fun ds => g (d :: ds)) s else .bad
  | none => .bad
theorem met_call (hc : ClsP X.K x) (F : Met X.prog X.w X.K X.mg X.base x m k sp) (A : Ans X.K P sp g) (hr : Room k X.A) (ho : DE X W o fo) (ha : DA X W (e :: es) fs) {pl : Sem Bool}
    (hst : starEach (e :: es) X.env = (false, eval e X.env) :: starEach es X.env := by rfl) (hpl : (backTo pos (starEach es X.env)).any (·.1) = false := by rfl)
    (ht : eval (.Call (.Attribute o m apos) (e :: es) [] pos) X.env = (do
      let ov ← eval o X.env
      standAt apos.atName
      let (f, first) ← holding [ov] (getMethod ov m pl)
      callWith pos f first (backTo pos (starEach (e :: es) X.env)) (backToKw pos (keywordEach [] X.env))) := by rfl) :
    ∃ t, PE X (.Call (.Attribute o m apos) (e :: es) [] pos) t ∧ Fol X.K W P t (metM x m fo fs g) := by
  obtain ⟨C, f, fd, ps, hC, hm, hb, G⟩ := F.ex
  obtain ⟨to, po, ro⟩ := ho
  obtain ⟨t, q, r⟩ := ha
  refine ⟨_, pe_meth (pl := pl) po (hc C hC) hm G hr hb .nil pass0 q hst hpl ht, fun w H σ s Q R z => ?_⟩
  refine ro.bnd R z fun d s1 w1 H1 v l1 R1 r1 p1 => ?_
  split at p1
  · next gs hgs =>
    split at p1
    · next hl =>
      obtain ⟨n, a, C', dx, vs, e0, e1, h1, h2, h3, h4, h5⟩ := R1.obj r1 hgs
      cases hC.eq h3
      refine ⟨a, dx, vs, e1, h4, RepF.lookN h5 hl, ?_⟩
      refine r.bnd R1 p1 fun ds s2 w2 H2 us l2 R2 r2 p2 => ?_
      rw [List.append_nil]
      exact A W w2 H2 σ s2 (v :: us) (d :: ds) Q R2 (.cons (r1.up l2) r2) p2
    · exact p1.elim
  · exact p1.elim
def metM0 (x m : Str) (fo : M D) (g : List D → M α) : M α := bnd fo fun d s => match objOf s x d with
  | some gs => if gs.lookup m = none then g [d] s else .bad
  | none => .bad
theorem met_call0 (hc : ClsP X.K x) (F : Met X.prog X.w X.K X.mg X.base x m k sp) (A : Ans X.K P sp g) (hr : Room k X.A) (ho : DE X W o fo) {pl : Sem Bool}
    (ht : eval (.Call (.Attribute o m apos) [] [] pos) X.env = (do
      let ov ← eval o X.env
      standAt apos.atName
      let (f, first) ← holding [ov] (getMethod ov m pl)
      callWith pos f first (backTo pos (starEach [] X.env)) (backToKw pos (keywordEach [] X.env))) := by rfl) :
    ∃ t, PE X (.Call (.Attribute o m apos) [] [] pos) t ∧ Fol X.K W P t (metM0 x m fo g) := by
  obtain ⟨C, f, fd, ps, hC, hm, hb, G⟩ := F.ex
  obtain ⟨to, po, ro⟩ := ho
  refine ⟨_, pe_meth0 (pl := pl) po (hc C hC) hm G hr hb .nil pass0 ht, fun w H σ s Q R z => ?_⟩
  refine ro.bnd R z fun d s1 w1 H1 v l1 R1 r1 p1 => ?_
  split at p1
  · next gs hgs =>
    split at p1
    · next hl =>
      obtain ⟨n, a, C', dx, vs, e0, e1, h1, h2, h3, h4, h5⟩ := R1.obj r1 hgs
      cases hC.eq h3
      refine ⟨a, dx, vs, e1, h4, RepF.lookN h5 hl, ?_⟩
      exact A W w1 H1 σ s1 [v] [d] Q R1 (.cons r1 .nil) p1
    · exact p1.elim
  · exact p1.elim
end
/-! ### C(e, ..) -/
def makeM (x : Str) (n : Nat) (F : Sf) (ds : List D) : M D := fun s => if ds.length + 1 = n then match F (.cell s.vh.length :: ds) (s.vh ++ [.obj x []]) with
  | some (.non, vh) => .ok (.cell s.vh.length) ⟨s.loc, vh⟩
  | _ => .bad else .bad
section
variable {x : Str} {n k : Nat} {F : Sf} {e : Expr} {es : List Expr} {fs : M (List D)} {p pos : Pos}
theorem make_fol {w : Wd} {H : Hp} {σ : L2.St} {s : S} {ds : List D} {us : List V} {Q : V → Hp → Prop} {C : Addr} (hC : clsIn X.K x C) (R : RS X.K w H σ s) (r : RepL X.K w us ds) (z : Post X.K W (pD X.K) w H σ (makeM x n F ds s) Q) :
    ∀ y dx, H y = none → H dx = none → dx ≠ y → SpS X.K n F (.ref y :: (us ++ [])) (upd (upd H dx (.own y)) y (.ins C dx [])) (fun v H2 => v = .non ∧ Q (.ref y) H2) E0 := by
  intro y dx hy hdx hne
  unfold makeM at z
  split at z
  · next hl =>
    have hy' : upd H dx (.own y) y = none := by rw [upd_ne (Ne.symm hne)]; exact hy
    have R1 := R.laid (o := .own y) hdx
    have R2 := R1.laid (o := .ins C dx []) hy'
    have f1 := R1.fresh hy'
    have R3 := R2.addCell (p := y) (c := .obj x []) f1.1 f1.2 ⟨C, dx, [], hC, upd_same, .nil⟩
    have l3 : Le w H (w.own y) (upd (upd H dx (.own y)) y (.ins C dx [])) := ((Le.laid hdx).trans (Le.laid hy')).own hy
    rw [List.append_nil]
    split at z
    · next vh hF =>
      refine ⟨by rw [List.length_cons, RepL.length r]; exact hl, w.own y, σ, { s with vh := s.vh ++ [.obj x []] }, .cell s.vh.length :: ds, .non, vh, R3, .cons (.cell ?_) (r.up l3), hF, fun w' H' v l R' r' => ?_⟩
      · show (w.ρ ++ [y])[s.vh.length]? = some y
        rw [← R.cl, List.getElem?_append_right (Nat.le_refl _), Nat.sub_self]
        rfl
      · cases r'
        refine ⟨rfl, z w' H' (.ref y) (l3.trans l) R' (.cell (l.le.1 _ _ ?_))⟩
        show (w.ρ ++ [y])[s.vh.length]? = some y
        rw [← R.cl, List.getElem?_append_right (Nat.le_refl _), Nat.sub_self]
        rfl
    · exact z.elim
  · exact z.elim
theorem de_make (M : MkQ X.prog X.w X.K X.mg X.base x k (SpS X.K n F)) (hr : Room (k + 1) X.A) (ha : DA X W (e :: es) fs) (hg : Gl X x := by rfl) (hdb : (x == ("__debug__" : Str)) = false := by decide)
    (he : starEach (e :: es) X.env = (false, eval e X.env) :: starEach es X.env := by rfl) (hpl : (backTo pos (starEach es X.env)).any (·.1) = false := by rfl) : DE X W (.Call (.Name x p) (e :: es) [] pos) (bnd fs (makeM x n F)) := by
  obtain ⟨C, f, fd, ps, hC, hm, hM, hb, G⟩ := M.ex
  obtain ⟨t, q, r⟩ := ha
  refine ⟨_, pe_make hM G hr hg hm hb .nil pass0 q hdb he hpl, fun w H σ s Q R z => ?_⟩
  exact r.bnd R z fun ds s1 w1 H1 us l1 R1 r1 p1 => make_fol hC R1 r1 p1
theorem de_make0 (M : MkQ X.prog X.w X.K X.mg X.base x k (SpS X.K n F)) (hr : Room (k + 1) X.A) (hg : Gl X x := by rfl) (hdb : (x == ("__debug__" : Str)) = false := by decide) : DE X W (.Call (.Name x p) [] [] pos) (makeM x n F []) := by
  obtain ⟨C, f, fd, ps, hC, hm, hM, hb, G⟩ := M.ex
  exact ⟨_, pe_make0 hM G hr hg hm hb .nil pass0 hdb, fun w H σ s Q R z => make_fol hC R .nil z⟩
end
/-! ### as the top leaves them -/
structure TopM (K : PySem.W.Frag) (x m q : Str) (st : Stmt) (ps : List Str) : Prop where
  ex : ∃ (C f : Addr) (fd : FuncData), clsIn K x C ∧ Fun K m q st f fd ∧ Meth K C m f ∧ Binds K fd ps []
structure TopI (K : PySem.W.Frag) (mg : Str → Option Value) (x q : Str) (st : Stmt) (ps : List Str) : Prop where
  ex : ∃ (C f : Addr) (fd : FuncData), clsIn K x C ∧ mg x = some (.ref C) ∧ Fun K "__init__" q st f fd ∧ Mk K C f ∧ Binds K fd ps []
section
variable {P : Program} {wd : World} {K : PySem.W.Frag} {mg : Str → Option Value} {base : Heap} {x m q : Str} {st : Stmt} {N ps : List Str} {k : Nat} {g : M Out}
theorem clsP_mk {C : Addr} (a : PySem.W.nsIn K mainGlobals x = some (some (.ref C))) (pg : PySem.W.plainGet K C Str.empty = true) (hd : PySem.W.hasDictIn K C = true) (po : PySem.W.plainOver K C = true) (sa : PySem.W.findIn K (.ref C) "__setattr__" = some (some (.builtin "object.__setattr__"))) : ClsP K x := fun C' h => by
  cases clsIn.eq (show clsIn K x C from a) h
  exact ⟨pg, hd, po, sa⟩
theorem noA_mk {C : Addr} {f : Str} (a : PySem.W.nsIn K mainGlobals x = some (some (.ref C))) (n : PySem.W.findIn K (.ref C) f = some none) : NoA K x f := fun C' h => by
  cases clsIn.eq (show clsIn K x C from a) h
  exact n
theorem topM_mk {C f : Addr} {oc : Value} {od an : Option Addr} {osl : Array (Option Value)} {kV doc pm cdv ct : Value} (a : PySem.W.nsIn K mainGlobals x = some (some (.ref C))) (fi : PySem.W.findIn K (.ref C) m = some (some (.ref f))) (i : PySem.W.isFn K (.ref f) = true)
    (l : K.lookup f = some ⟨oc, od, .func (PySem.W.fnOf m q (defArgs st) (defBody st) (defScope st) .none kV doc pm an cdv ct), osl⟩) (c : PySem.W.codeIn K cdv q = true) (k : PySem.W.keepIn K (.ref f) = true)
    (b : ∀ (kV doc pm : Value) (an : Option Addr) (cdv ct : Value) (us : List Value), us.length = ps.length → bindArgs (PySem.W.fnOf m q (defArgs st) (defBody st) (defScope st) .none kV doc pm an cdv ct) ⟨us, []⟩ = pure (ps.zip us)) : TopM K x m q st ps :=
  have F := fun_mk (st := st) l c k
  ⟨C, f, _, a, F, ⟨fi, i, k⟩, F.binds b⟩
theorem topI_mk {h : Heap} (X : K.In h) (G : h.Ns mainGlobals mg) {C f : Addr} {oc : Value} {od an : Option Addr} {osl : Array (Option Value)} {kV doc pm cdv ct : Value} (a : PySem.W.nsIn K mainGlobals x = some (some (.ref C))) (fi : PySem.W.findIn K (.ref C) "__init__" = some (some (.ref f))) (i : PySem.W.isFn K (.ref f) = true)
    (l : K.lookup f = some ⟨oc, od, .func (PySem.W.fnOf "__init__" q (defArgs st) (defBody st) (defScope st) .none kV doc pm an cdv ct), osl⟩) (c : PySem.W.codeIn K cdv q = true) (k : PySem.W.keepIn K (.ref f) = true) (mk : PySem.W.makesIn K C = true) (kc : PySem.W.keepIn K (.ref C) = true)
    (b : ∀ (kV doc pm : Value) (an : Option Addr) (cdv ct : Value) (us : List Value), us.length = ps.length → bindArgs (PySem.W.fnOf "__init__" q (defArgs st) (defBody st) (defScope st) .none kV doc pm an cdv ct) ⟨us, []⟩ = pure (ps.zip us)) : TopI K mg x q st ps :=
  have F := fun_mk (st := st) l c k
  ⟨C, f, _, a, PySem.W.mg_of X G a, F, ⟨mk, fi, i, kc⟩, F.binds b⟩
theorem TopM.fnP (T : TopM K x m q st ps) (Sc : FnScope N ps (defScope st)) (hle : ps.length ≤ N.length)
    (body : ∀ (f : Addr) (cdv : Value) (A : Around) (outer : List Env) (s : Shared) (H : Hp) (E : XK), Room k (A.deeper (envOfC q (defScope st) s.heap.objs.size f cdv)) →
      DSs (cxOf CX0 P wd K mg base N q (defScope st) f cdv A outer s H E).nox W0 (defBody st) g) : Met P wd K mg base x m (k + 1) (SpP K ps.length (runP N.length g)) :=
  let ⟨C, f, fd, a, F, M, b⟩ := T.ex
  ⟨C, f, fd, ps, a, M, b, fn_pure F Sc hle fun cdv A outer s H E hr => body f cdv A outer s H E hr⟩
theorem TopM.fnN (T : TopM K x m q st ps) (Sc : FnScope N ps (defScope st)) (hle : ps.length ≤ N.length)
    (body : ∀ (f : Addr) (cdv : Value) (A : Around) (outer : List Env) (s : Shared) (H : Hp) (E : XK), Room k (A.deeper (envOfC q (defScope st) s.heap.objs.size f cdv)) →
      DSs (cxOf CX0 P wd K mg base N q (defScope st) f cdv A outer s H E).nox W0 (defBody st) g) : Met P wd K mg base x m (k + 1) (SpN K ps.length (runN N.length g)) :=
  let ⟨C, f, fd, a, F, M, b⟩ := T.ex
  ⟨C, f, fd, ps, a, M, b, fn_new F Sc hle fun cdv A outer s H E hr => body f cdv A outer s H E hr⟩
theorem TopM.fnS (T : TopM K x m q st ps) (Sc : FnScope N ps (defScope st)) (hle : ps.length ≤ N.length)
    (body : ∀ (f : Addr) (cdv : Value) (A : Around) (outer : List Env) (s : Shared) (H : Hp) (E : XK), Room k (A.deeper (envOfC q (defScope st) s.heap.objs.size f cdv)) →
      DSs (cxOf CX0 P wd K mg base N q (defScope st) f cdv A outer s H E).nox W0 (defBody st) g) : Met P wd K mg base x m (k + 1) (SpS K ps.length (runS N.length g)) :=
  let ⟨C, f, fd, a, F, M, b⟩ := T.ex
  ⟨C, f, fd, ps, a, M, b, fn_st F Sc hle fun cdv A outer s H E hr => body f cdv A outer s H E hr⟩
theorem TopM.fnW (T : TopM K x m q st ps) (Sc : FnScope N ps (defScope st)) (hle : ps.length ≤ N.length)
    (body : ∀ (f : Addr) (cdv : Value) (A : Around) (outer : List Env) (s : Shared) (H : Hp) (E : XK), Room k (A.deeper (envOfC q (defScope st) s.heap.objs.size f cdv)) →
      DSs (cxOf CX0 P wd K mg base N q (defScope st) f cdv A outer s H E).nox W0 (defBody st) g) : Met P wd K mg base x m (k + 1) (SpS K ps.length (runW N.length g)) :=
  let ⟨C, f, fd, a, F, M, b⟩ := T.ex
  ⟨C, f, fd, ps, a, M, b, fn_wr F Sc hle fun cdv A outer s H E hr => body f cdv A outer s H E hr⟩
theorem TopI.fnS (T : TopI K mg x q st ps) (Sc : FnScope N ps (defScope st)) (hle : ps.length ≤ N.length)
    (body : ∀ (f : Addr) (cdv : Value) (A : Around) (outer : List Env) (s : Shared) (H : Hp) (E : XK), Room k (A.deeper (envOfC q (defScope st) s.heap.objs.size f cdv)) →
      DSs (cxOf CX0 P wd K mg base N q (defScope st) f cdv A outer s H E).nox W0 (defBody st) g) : MkQ P wd K mg base x (k + 1) (SpS K ps.length (runS N.length g)) :=
  let ⟨C, f, fd, a, a2, F, M, b⟩ := T.ex
  ⟨C, f, fd, ps, a, a2, M, b, fn_st F Sc hle fun cdv A outer s H E hr => body f cdv A outer s H E hr⟩
theorem Top.fnN (T : Top K mg x st ps) (Sc : FnScope N ps (defScope st)) (hle : ps.length ≤ N.length)
    (body : ∀ (f : Addr) (cdv : Value) (A : Around) (outer : List Env) (s : Shared) (H : Hp) (E : XK), Room k (A.deeper (envOfC x (defScope st) s.heap.objs.size f cdv)) →
      DSs (cxOf CX0 P wd K mg base N x (defScope st) f cdv A outer s H E).nox W0 (defBody st) g) : FnQ P wd K mg base x (k + 1) (SpN K ps.length (runN N.length g)) :=
  let ⟨f, fd, F, m, b, _⟩ := T.ex
  ⟨f, fd, ps, m, F.kp, b, fn_new F Sc hle fun cdv A outer s H E hr => body f cdv A outer s H E hr⟩
theorem Top.fnW (T : Top K mg x st ps) (Sc : FnScope N ps (defScope st)) (hle : ps.length ≤ N.length)
    (body : ∀ (f : Addr) (cdv : Value) (A : Around) (outer : List Env) (s : Shared) (H : Hp) (E : XK), Room k (A.deeper (envOfC x (defScope st) s.heap.objs.size f cdv)) →
      DSs (cxOf CX0 P wd K mg base N x (defScope st) f cdv A outer s H E).nox W0 (defBody st) g) : FnS P wd K mg base x ps.length (k + 1) (runW N.length g) :=
  let ⟨f, fd, F, m, b, _⟩ := T.ex
  ⟨f, fd, ps, rfl, m, F.kp, b, fn_wr F Sc hle fun cdv A outer s H E hr => body f cdv A outer s H E hr⟩
end
end Fx

/-! Fx: dicts with numbers or texts as keys; sorted of ints, of dicts, of sets of ints -/
namespace Fx
open PySem PySem.Spec PyProof.Rows L2
variable {X : Cx} {W : WX}
def keyD : D → Option Key
  | .int i => some (.inl i)
  | .str x => some (.inr x)
  | _ => none
def dK : Key → D
  | .inl i => .int i
  | .inr x => .str x
section
variable {α : Type}
def valA (kvs : List (Key × α)) (k : Key) : Option α := (kvs.find? fun kv => decide (kv.1 = k)).map (·.2)
def putA (kvs : List (Key × α)) (k : Key) (v : α) : List (Key × α) := if (kvs.any fun kv => decide (kv.1 = k)) = true then kvs.map (fun kv => if kv.1 = k then (kv.1, v) else kv) else kvs ++ [(k, v)]
def dropA (kvs : List (Key × α)) (k : Key) : List (Key × α) := kvs.filter fun kv => decide (kv.1 ≠ k)
def mergeA (kvs more : List (Key × α)) : List (Key × α) := more.foldl (fun acc kv => putA acc kv.1 kv.2) kvs
end
def dctR (s : S) : D → Option (List (Key × D))
  | .cell n => match s.vh[n]? with
    | some (.dct ds) => some ds
    | some (.dctL _ _ ds) => some ds
    | _ => none
  | _ => none
section
variable {K : PySem.W.Frag} {w : Wd} {H : Hp} {σ : L2.St} {s : S} {v : V} {d : D}
theorem key_of {k : Key} (r : Rep K w v d) (h : keyD d = some k) : v = kV k := by
  cases r <;> simp [keyD] at h <;> subst h <;> rfl
theorem rep_key (k : Key) : Rep K w (kV k) (dK k) := by
  cases k
  · exact .int _
  · exact .str _
theorem RS.dictR (R : RS K w H σ s) (r : Rep K w v d) {ds : List (Key × D)} (h : dctR s d = some ds) : ∃ a vs, v = .ref a ∧ Rd H a (.dK vs) ∧ RepK K w vs ds := by
  cases r with
  | cell h1 =>
    obtain ⟨c, e, hc⟩ := R.cellOf h1
    unfold dctR at h
    simp only [e] at h
    cases c with
    | lst xs => simp at h
    | obj _ _ => simp at h
    | dct _ => simp at h; subst h; obtain ⟨vs, h2, h3⟩ := hc; exact ⟨_, _, rfl, .inl h2, h3⟩
    | dctL o us kvs => simp at h; subst h; obtain ⟨h2, h3⟩ := hc; exact ⟨_, _, rfl, .inr ⟨o, h2⟩, h3⟩
    | dctN _ _ => simp at h
  | _ => simp [dctR] at h
theorem RepK.val {k : Key} : ∀ {vs : List (Key × V)} {ds : List (Key × D)}, RepK K w vs ds → (valA ds k = none → valV vs k = none) ∧ ∀ d, valA ds k = some d → ∃ v, valV vs k = some v ∧ Rep K w v d
  | _, _, .nil => ⟨fun _ => rfl, fun d h => by cases h⟩
  | _, _, .cons (k := k') h t => by
    by_cases e : k' = k
    · refine ⟨fun z => ?_, fun d z => ?_⟩
      · simp [valA, List.find?_cons, e] at z
      · simp [valA, List.find?_cons, e] at z
        subst z
        exact ⟨_, by simp [valV, List.find?_cons, e], h⟩
    · obtain ⟨i1, i2⟩ := RepK.val (k := k) t
      refine ⟨fun z => ?_, fun d z => ?_⟩
      · have := i1 (by simpa [valA, List.find?_cons, e] using z)
        simpa [valV, List.find?_cons, e] using this
      · obtain ⟨u, h1, h2⟩ := i2 d (by simpa [valA, List.find?_cons, e] using z)
        exact ⟨u, by simpa [valV, List.find?_cons, e] using h1, h2⟩
theorem RepK.any {k : Key} : ∀ {vs : List (Key × V)} {ds : List (Key × D)}, RepK K w vs ds → (vs.any fun kv => decide (kv.1 = k)) = (ds.any fun kv => decide (kv.1 = k))
  | _, _, .nil => rfl
  | _, _, .cons h t => by rw [List.any_cons, List.any_cons, RepK.any t]
theorem RepK.append : ∀ {vs us : List (Key × V)} {ds es : List (Key × D)}, RepK K w vs ds → RepK K w us es → RepK K w (vs ++ us) (ds ++ es)
  | _, _, _, _, .nil, s => s
  | _, _, _, _, .cons r t, s => .cons r (RepK.append t s)
theorem RepK.map {k : Key} (r : Rep K w v d) : ∀ {vs : List (Key × V)} {ds : List (Key × D)}, RepK K w vs ds → RepK K w (vs.map fun kv => if kv.1 = k then (kv.1, v) else kv) (ds.map fun kv => if kv.1 = k then (kv.1, d) else kv)
  | _, _, .nil => .nil
  | _, _, .cons (k := k') h t => by
    rw [List.map_cons, List.map_cons]
    by_cases e : k' = k
    · rw [if_pos e, if_pos e]; exact .cons r (RepK.map r t)
    · rw [if_neg e, if_neg e]; exact .cons h (RepK.map r t)
theorem RepK.put {k : Key} {vs : List (Key × V)} {ds : List (Key × D)} (t : RepK K w vs ds) (r : Rep K w v d) : RepK K w (putK vs k v) (putA ds k d) := by
  unfold putK putA
  rw [RepK.any t]
  split
  · exact RepK.map r t
  · exact RepK.append t (.cons r .nil)
theorem RepK.drop {k : Key} : ∀ {vs : List (Key × V)} {ds : List (Key × D)}, RepK K w vs ds → RepK K w (dropK vs k) (dropA ds k)
  | _, _, .nil => .nil
  | _, _, .cons (k := k') h t => by
    have ih := RepK.drop (k := k) t
    unfold dropK dropA at ih ⊢
    by_cases e : k' = k
    · rw [List.filter_cons_of_neg (by simp [e]), List.filter_cons_of_neg (by simp [e])]; exact ih
    · rw [List.filter_cons_of_pos (by simp [e]), List.filter_cons_of_pos (by simp [e])]; exact .cons h ih
theorem RepK.merge {us : List (Key × V)} {es : List (Key × D)} (h : RepK K w us es) : ∀ {vs : List (Key × V)} {ds : List (Key × D)}, RepK K w vs ds → RepK K w (mergeK vs us) (mergeA ds es) := by
  induction h with
  | nil => exact fun t => t
  | cons h q ih => exact fun t => ih (RepK.put t h)
theorem RepK.keys : ∀ {vs : List (Key × V)} {ds : List (Key × D)}, RepK K w vs ds → vs.map (·.1) = ds.map (·.1)
  | _, _, .nil => rfl
  | _, _, .cons h t => by rw [List.map_cons, List.map_cons, RepK.keys t]
/-- a dict that stands by itself, to be written -/
theorem RS.dictW (R : RS K w H σ s) (r : Rep K w v d) {n : Nat} {kvs : List (Key × D)} (hd : d = .cell n) (h : s.vh[n]? = some (.dct kvs)) : ∃ a vs, v = .ref a ∧ w.ρ[n]? = some a ∧ H a = some (.dK vs) ∧ RepK K w vs kvs := by
  subst hd
  cases r with
  | @cell a _ h1 =>
    obtain ⟨c, e, hc⟩ := R.cellOf h1
    rw [h] at e
    cases e
    obtain ⟨vs, h2, h3⟩ := hc
    exact ⟨a, vs, rfl, h1, h2, h3⟩
end
/-! d[k], k in d -/
def dgetM (d e : D) : M D := fun s => match dctR s d, keyD e with
  | some kvs, some k => match valA kvs k with
    | some v => .ok v s
    | none => .bad
  | _, _ => .bad
def dinM (b : Bool) (e d : D) : M D := fun s => match dctR s d, keyD e with
  | some kvs, some k => .ok (.bl ((valA kvs k).isSome == b)) s
  | _, _ => .bad
section
variable {o i : Expr} {fo fi : M D} {pos pos' : Pos} {k : Nat}
theorem bin_or {op op1 op2 : D → D → M D} {a b : M D} (h : ∀ d e s, op d e s = op1 d e s ∨ op d e s = op2 d e s) (s : S) : bin op a b s = bin op1 a b s ∨ bin op a b s = bin op2 a b s := by
  unfold bin bnd
  cases a s with
  | bad => exact .inl rfl
  | exc x s' => exact .inl rfl
  | ok d s1 =>
    dsimp only
    cases b s1 with
    | bad => exact .inl rfl
    | exc x s' => exact .inl rfl
    | ok e s2 => exact h d e s2
theorem de_dget (hu : X.A.units + 1 < cLine) (ho : DE X W o fo) (hi : DE X W i fi) (hs : NoSl i) : DE X W (.Subscript o i pos) (bin dgetM fo fi) := by
  obtain ⟨t, p, r⟩ := ho
  obtain ⟨u, q, h⟩ := hi
  refine ⟨_, pe_dget hu p q hs, fun w H σ s Q R z => ?_⟩
  refine r.bnd R z fun d s1 w1 H1 v1 l1 R1 r1 p1 => ?_
  refine h.bnd R1 p1 fun e s2 w2 H2 v2 l2 R2 r2 p2 => ?_
  unfold dgetM at p2
  split at p2
  · next kvs k hd hk =>
    obtain ⟨a, vs, e1, h1, h2⟩ := R2.dictR (Rep.up l2 r1) hd
    have e2 := key_of r2 hk
    split at p2
    · next v hv =>
      obtain ⟨y, h3, h4⟩ := (RepK.val (k := k) h2).2 v hv
      exact ⟨a, y, e1, .inl ⟨vs, k, h1, e2, h3.symm⟩, Post.here p2 R2 h4⟩
    · exact p2.elim
  · exact p2.elim
theorem din_fol {t u : TE} {b : Bool} (r : Fol X.K W (pD X.K) t fi) (h : Fol X.K W (pD X.K) u fo) : Fol X.K W (pD X.K) (fun σ H Q => t σ H fun y H1 => u σ H1 fun x H2 => ∃ a o, x = .ref a ∧ DGet H2 a y o ∧ Q (.bl (o.isSome == b)) H2) (bin (dinM b) fi fo) := fun w H σ s Q R z => by
  refine r.bnd R z fun d s1 w1 H1 v1 l1 R1 r1 p1 => ?_
  refine h.bnd R1 p1 fun e s2 w2 H2 v2 l2 R2 r2 p2 => ?_
  unfold dinM at p2
  split at p2
  · next kvs k hd hk =>
    obtain ⟨a, vs, e1, h1, h2⟩ := R2.dictR r2 hd
    have e2 := key_of (Rep.up l2 r1) hk
    refine ⟨a, valV vs k, e1, .inl ⟨vs, k, h1, e2, rfl⟩, ?_⟩
    have e3 : (valV vs k).isSome = (valA kvs k).isSome := by
      cases hv : valA kvs k with
      | none => rw [(RepK.val (k := k) h2).1 hv]; rfl
      | some v => obtain ⟨y, h3, _⟩ := (RepK.val (k := k) h2).2 v hv; rw [h3]; rfl
    rw [e3]
    exact Post.here p2 R2 (Rep.bl _)
  · exact p2.elim
theorem pc_dinB (hu : X.A.units + 1 < cLine) {t u : TE} (p : PE X i t) (q : PE X o u) : PC X .In i o (fun σ H Q => t σ H fun y H1 => u σ H1 fun x H2 => ∃ a o, x = .ref a ∧ DGet H2 a y o ∧ Q (.bl (o.isSome == true)) H2) := by
  have h := pc_din hu p q
  have e : (fun σ H Q => t σ H fun y H1 => u σ H1 fun x H2 => ∃ a o, x = .ref a ∧ DGet H2 a y o ∧ Q (.bl (o.isSome == true)) H2 : TE) = tDIn t u := by
    unfold tDIn
    simp only [beq_true]
  rw [e]; exact h
theorem pc_dninB (hu : X.A.units + 1 < cLine) {t u : TE} (p : PE X i t) (q : PE X o u) : PC X .NotIn i o (fun σ H Q => t σ H fun y H1 => u σ H1 fun x H2 => ∃ a o, x = .ref a ∧ DGet H2 a y o ∧ Q (.bl (o.isSome == false)) H2) := by
  have h := pc_dnotin hu p q
  have e : (fun σ H Q => t σ H fun y H1 => u σ H1 fun x H2 => ∃ a o, x = .ref a ∧ DGet H2 a y o ∧ Q (.bl (o.isSome == false)) H2 : TE) = tDNotIn t u := by
    unfold tDNotIn
    simp only [beq_false]
  rw [e]; exact h
theorem de_din (hu : X.A.units + 1 < cLine) (hi : DE X W i fi) (ho : DE X W o fo) (hm : behindInMarks .In o = false := by rfl) : DE X W (.Compare i [.In] [o] pos) (bin (dinM true) fi fo) := by
  obtain ⟨t, p, r⟩ := hi
  obtain ⟨u, q, h⟩ := ho
  exact ⟨_, pe_cmp (pc_dinB hu p q) hm, din_fol r h⟩
theorem de_dnin (hu : X.A.units + 1 < cLine) (hi : DE X W i fi) (ho : DE X W o fo) (hm : behindInMarks .NotIn o = false := by rfl) : DE X W (.Compare i [.NotIn] [o] pos) (bin (dinM false) fi fo) := by
  obtain ⟨t, p, r⟩ := hi
  obtain ⟨u, q, h⟩ := ho
  exact ⟨_, pe_cmp (pc_dninB hu p q) hm, din_fol r h⟩
theorem tst_fol {t : TE} {f : M D} (r : Fol X.K W (pD X.K) t f) : Fol X.K W pB (tB t) (tst f) := fun w H σ s Q R p => r.bnd R p fun d s1 w1 H1 v1 l1 R1 r1 p1 => asB_fol R1 r1 p1
theorem dt_din (hu : X.A.units + 1 < cLine) (hi : DE X W i fi) (ho : DE X W o fo) (hm : behindInMarks .In o = false := by rfl) : DT X W (.Compare i [.In] [o] pos) (tst (bin (dinM true) fi fo)) := by
  obtain ⟨t, p, r⟩ := hi
  obtain ⟨u, q, h⟩ := ho
  exact ⟨_, pt_cmp (pc_dinB hu p q) hm, tst_fol (din_fol r h)⟩
theorem dt_dnin (hu : X.A.units + 1 < cLine) (hi : DE X W i fi) (ho : DE X W o fo) (hm : behindInMarks .NotIn o = false := by rfl) : DT X W (.Compare i [.NotIn] [o] pos) (tst (bin (dinM false) fi fo)) := by
  obtain ⟨t, p, r⟩ := hi
  obtain ⟨u, q, h⟩ := ho
  exact ⟨_, pt_cmp (pc_dninB hu p q) hm, tst_fol (din_fol r h)⟩
/-! x in xs, of flat things; c in text, c one sign -/
def flD : D → Option V
  | .non => some .non
  | .bl b => some (.bl b)
  | .int i => some (.int i)
  | .str x => some (.str x)
  | _ => none
def flL : List D → Option (List V)
  | [] => some []
  | d :: ds => match flD d, flL ds with
    | some v, some vs => some (v :: vs)
    | _, _ => none
theorem fl_of {K : PySem.W.Frag} {w : Wd} {v u : V} {d : D} (r : Rep K w v d) (h : flD d = some u) : v = u ∧ flatV u = true := by
  cases r <;> simp [flD] at h <;> subst h <;> exact ⟨rfl, rfl⟩
theorem flL_of {K : PySem.W.Frag} {w : Wd} : ∀ {vs us : List V} {ds : List D}, RepL K w vs ds → flL ds = some us → vs = us ∧ us.all flatV = true
  | _, _, _, .nil, h => by cases h; exact ⟨rfl, rfl⟩
  | _, _, _, .cons (d := d) (ds := ds) r t, h => by
    unfold flL at h
    cases h1 : flD d with
    | none => rw [h1] at h; cases h
    | some v =>
      cases h2 : flL ds with
      | none => rw [h1, h2] at h; cases h
      | some vs =>
        rw [h1, h2] at h; cases h
        obtain ⟨a1, a2⟩ := fl_of r h1
        obtain ⟨b1, b2⟩ := flL_of t h2
        exact ⟨by rw [a1, b1], by rw [List.all_cons, a2, b2]; rfl⟩
def sqOf (s : S) (d : D) : Option (List D) := match d with
  | .tup ds => some ds
  | d => lstOf s d
def inQ (b : Bool) (e d : D) : M D := fun s => match sqOf s d with
  | some ds => match flD e, flL ds with
    | some v, some vs => .ok (.bl (inV v vs == b)) s
    | _, _ => .bad
  | none => .bad
def inT (b : Bool) (e d : D) : M D := match e, d with
  | .str x, .str z => match x.cps.toList with
    | [c] => ret (.bl (decide (c ∈ z.cps.toList) == b))
    | _ => fail
  | _, _ => fail
theorem sqOf_rep {K : PySem.W.Frag} {w : Wd} {H : Hp} {σ : L2.St} {s : S} {v : V} {d : D} {ds : List D} (R : RS K w H σ s) (r : Rep K w v d) (h : sqOf s d = some ds) : ∃ a vs, v = .ref a ∧ (SqL K H a vs ∨ SqT K H a vs) ∧ RepL K w vs ds := by
  cases d with
  | tup es =>
    obtain ⟨a, vs, h1, h2, h3⟩ := R.tuple r (ds := es) rfl
    cases h
    exact ⟨a, vs, h1, .inr h2, h3⟩
  | _ =>
    obtain ⟨a, vs, h1, h2, h3⟩ := R.list r h
    exact ⟨a, vs, h1, .inl h2, h3⟩
theorem rop_inQ (b : Bool) : ROp X (rIn X.K (!b)) (inQ b) := by
  intro W w H σ s x y d e Q R rx ry p
  unfold inQ at p
  split at p
  · next ds hd =>
    split at p
    · next v vs hv hvs =>
      obtain ⟨a, us, e1, h1, h2⟩ := sqOf_rep R ry hd
      obtain ⟨e2, h3⟩ := fl_of rx hv
      obtain ⟨e3, h4⟩ := flL_of h2 hvs
      subst e1 e2 e3
      refine ⟨a, us, rfl, h1, h3, h4, ?_⟩
      have e4 : (if (!b) = true then !inV x us else inV x us) = (inV x us == b) := by cases b <;> cases inV x us <;> rfl
      rw [e4]
      exact Post.here p R (Rep.bl _)
    · exact p.elim
  · exact p.elim
theorem one_sign {x : Str} {c : Nat} (h : x.cps.toList = [c]) : x = ⟨#[c]⟩ := by
  cases x with
  | mk a =>
    have : a = #[c] := by
      rw [← Array.toArray_toList (xs := a)]
      show a.toList.toArray = _
      rw [show a.toList = [c] from h]
    rw [this]
theorem rop_inT : ROp X (fun x y H Q => ∃ (c : Nat) (z : Str), x = .str ⟨#[c]⟩ ∧ y = .str z ∧ Q (.bl (decide (c ∈ z.cps.toList))) H) (inT true) := by
  intro W w H σ s x y d e Q R rx ry p
  unfold inT at p
  split at p
  · next x1 z =>
    cases rx
    cases ry
    cases hc : x1.cps.toList with
    | nil => rw [hc] at p; exact p.elim
    | cons c r =>
      rw [hc] at p
      cases r with
      | cons _ _ => exact p.elim
      | nil =>
        refine ⟨c, z, by rw [one_sign hc], rfl, ?_⟩
        have := Post.here p R (Rep.bl _)
        simpa using this
  · exact p.elim
theorem rop_ninT : ROp X (fun x y H Q => ∃ (c : Nat) (z : Str), x = .str ⟨#[c]⟩ ∧ y = .str z ∧ Q (.bl (!decide (c ∈ z.cps.toList))) H) (inT false) := by
  intro W w H σ s x y d e Q R rx ry p
  unfold inT at p
  split at p
  · next x1 z =>
    cases rx
    cases ry
    cases hc : x1.cps.toList with
    | nil => rw [hc] at p; exact p.elim
    | cons c r =>
      rw [hc] at p
      cases r with
      | cons _ _ => exact p.elim
      | nil =>
        refine ⟨c, z, by rw [one_sign hc], rfl, ?_⟩
        have := Post.here p R (Rep.bl _)
        simpa using this
  · exact p.elim
def inM (e d : D) : M D := altM (inT true e d) (inQ true e d)
def ninM (e d : D) : M D := altM (inT false e d) (inQ false e d)
theorem rop_alt {r1 r2 : R2} {g1 g2 : D → D → M D} (h1 : ROp X r1 g1) (h2 : ROp X r2 g2) : ROp X (fun x y H Q => r1 x y H Q ∨ r2 x y H Q) (fun d e => altM (g1 d e) (g2 d e)) := fun W w H σ s x y d e Q R rx ry p => by
  have p : Post X.K W (pD X.K) w H σ (altM (g1 d e) (g2 d e) s) Q := p
  rcases alt_is (g1 d e) (g2 d e) s with q | q
  · rw [q] at p; exact .inl (h1 W w H σ s x y d e Q R rx ry p)
  · rw [q] at p; exact .inr (h2 W w H σ s x y d e Q R rx ry p)
theorem rop_inA : ROp X (fun x y H Q => (∃ (c : Nat) (z : Str), x = .str ⟨#[c]⟩ ∧ y = .str z ∧ Q (.bl (decide (c ∈ z.cps.toList))) H) ∨ rIn X.K false x y H Q) inM := rop_alt rop_inT (rop_inQ true)
theorem rop_ninA : ROp X (fun x y H Q => (∃ (c : Nat) (z : Str), x = .str ⟨#[c]⟩ ∧ y = .str z ∧ Q (.bl (!decide (c ∈ z.cps.toList))) H) ∨ rIn X.K true x y H Q) ninM := rop_alt rop_ninT (rop_inQ false)
theorem op_inA : OpR X (compareOp .In) (fun x y H Q => (∃ (c : Nat) (z : Str), x = .str ⟨#[c]⟩ ∧ y = .str z ∧ Q (.bl (decide (c ∈ z.cps.toList))) H) ∨ rIn X.K false x y H Q) := opr_or op_in_sign op_in_seq
theorem op_ninA : OpR X (compareOp .NotIn) (fun x y H Q => (∃ (c : Nat) (z : Str), x = .str ⟨#[c]⟩ ∧ y = .str z ∧ Q (.bl (!decide (c ∈ z.cps.toList))) H) ∨ rIn X.K true x y H Q) := opr_or op_notIn_sign op_notIn_seq
/-! both kinds in one -/
def ixAM (d e : D) : M D := altM (dgetM d e) (ixM d e)
def inAM (e d : D) : M D := altM (dinM true e d) (inM e d)
def ninAM (e d : D) : M D := altM (dinM false e d) (ninM e d)
theorem de_ixA (hu : X.A.units + 1 < cLine) (ho : DE X W o fo) (hi : DE X W i fi) (hs : PlainIx i := by exact fun _ _ => rfl) : DE X W (.Subscript o i pos) (bin ixAM fo fi) :=
  de_or2 (de_dget hu ho hi hs) (de_ix ho hi hs) (bin_or fun d e s => alt_is _ _ s)
theorem tst_or {f g h : M D} (c : ∀ s, h s = f s ∨ h s = g s) (s : S) : tst h s = tst f s ∨ tst h s = tst g s := by
  unfold tst bnd
  rcases c s with e | e
  · rw [e]; exact .inl rfl
  · rw [e]; exact .inr rfl
theorem de_inA (hu : X.A.units + 64 < cLine) (hi : DE X W i fi) (ho : DE X W o fo) (hm : behindInMarks .In o = false := by rfl) : DE X W (.Compare i [.In] [o] pos) (bin inAM fi fo) :=
  de_or2 (de_din (by omega) hi ho hm) (de_cmp op_inA rop_inA hi ho hm) (bin_or fun d e s => alt_is _ _ s)
theorem de_ninA (hu : X.A.units + 64 < cLine) (hi : DE X W i fi) (ho : DE X W o fo) (hm : behindInMarks .NotIn o = false := by rfl) : DE X W (.Compare i [.NotIn] [o] pos) (bin ninAM fi fo) :=
  de_or2 (de_dnin (by omega) hi ho hm) (de_cmp op_ninA rop_ninA hi ho hm) (bin_or fun d e s => alt_is _ _ s)
theorem dt_inA (hu : X.A.units + 64 < cLine) (hi : DE X W i fi) (ho : DE X W o fo) (hm : behindInMarks .In o = false := by rfl) : DT X W (.Compare i [.In] [o] pos) (tst (bin inAM fi fo)) :=
  dt_or2 (dt_din (by omega) hi ho hm) (dt_cmp op_inA rop_inA hi ho hm) (tst_or (bin_or fun d e s => alt_is _ _ s))
theorem dt_ninA (hu : X.A.units + 64 < cLine) (hi : DE X W i fi) (ho : DE X W o fo) (hm : behindInMarks .NotIn o = false := by rfl) : DT X W (.Compare i [.NotIn] [o] pos) (tst (bin ninAM fi fo)) :=
  dt_or2 (dt_dnin (by omega) hi ho hm) (dt_cmp op_ninA rop_ninA hi ho hm) (tst_or (bin_or fun d e s => alt_is _ _ s))
/-! d[k] = v -/
def dputM (v d e : D) : M Out := fun s => match d, keyD e with
  | .cell n, some k => match s.vh[n]? with
    | some (.dct kvs) => if kvs.length < sizeLine then .ok .nx ⟨s.loc, s.vh.set n (.dct (putA kvs k v))⟩ else .bad
    | _ => .bad
  | _, _ => .bad
def dputS (fo fi fv : M D) : M Out := bnd fv fun v => bnd fo fun d => bnd fi fun e => dputM v d e
theorem ds_dput {value : Expr} {fv : M D} (hu : X.A.units + 1 < cLine) (ho : DE X W o fo) (hi : DE X W i fi) (hv : DE X W value fv) (hs : swapsWith value (some (.Subscript o i pos')) pos.line X.env = pure false := by rfl) : DS X W (.Assign [.Subscript o i pos'] value pos) (dputS fo fi fv) := by
  obtain ⟨t, p, r⟩ := ho
  obtain ⟨u, q, h⟩ := hi
  obtain ⟨y, p', k⟩ := hv
  refine ⟨_, ps_dput hu p q p' hs, fun w H σ s D R z => ?_⟩
  refine k.bndS R z fun v s1 w1 H1 v1 l1 R1 r1 p1 => ?_
  refine r.bndS R1 p1 fun d s2 w2 H2 v2 l2 R2 r2 p2 => ?_
  refine h.bndS R2 p2 fun e s3 w3 H3 v3 l3 R3 r3 p3 => ?_
  unfold dputM at p3
  split at p3
  · next n k hk =>
    split at p3
    · next kvs hkv =>
      split at p3
      · next hl =>
        obtain ⟨a, vs, e1, h1, h2, h3⟩ := R3.dictW (Rep.up l3 r2) rfl hkv
        have e2 := key_of r3 hk
        refine ⟨a, upd H3 a (.dK (putK vs k v1)), e1, .inl ⟨vs, k, h2, e2, by rw [RepK.length h3]; exact hl, rfl⟩, ?_⟩
        exact p3 w3 _ σ (Le.write (List.mem_of_getElem? h1)) (R3.setCell h1 ⟨_, upd_same, RepK.put h3 ((r1.up l2).up l3)⟩)
      · exact p3.elim
    · exact p3.elim
  · exact p3.elim
end
/-! {k: v, ..} -/
@[reducible] def pP (K : PySem.W.Frag) : Pr (List (V × V)) (List (Key × D)) := ⟨fun _ w _ v d => ∃ kvs : List (Key × V), v = kvs.map (fun kv => (kV kv.1, kv.2)) ∧ RepK K w kvs d, fun _ _ _ _ _ _ _ _ _ _ h => h⟩
def DP (X : Cx) (W : WX) (pos : Pos) (ks : List (Option Expr)) (vs : List Expr) (f : M (List (Key × D))) : Prop := ∃ trs, PPs X pos ks vs trs ∧ Fol X.K W (pP X.K) (fun σ H Q => tPairs trs σ H Q) f
def pairM (p q : M D) (r : M (List (Key × D))) : M (List (Key × D)) := bnd p fun d => bnd q fun e => bnd r fun ds => match keyD d with
  | some k => ret ((k, e) :: ds)
  | none => fail
def dspM (r : M (List (Key × D))) : M Cell := bnd r fun ds => if ds.length ≤ 15 then ret (.dct (mergeA [] ds)) else fail
section
variable {k v : Expr} {ks : List (Option Expr)} {vs : List Expr} {fk fv : M D} {fr : M (List (Key × D))} {pos : Pos}
theorem dp_nil : DP X W pos [] [] (ret []) := ⟨[], pps_nil, fun w H σ s Q R p => Post.here p R ⟨[], rfl, .nil⟩⟩
theorem dp_cons (hk : DE X W k fk) (hv : DE X W v fv) (hr : DP X W pos ks vs fr) : DP X W pos (some k :: ks) (v :: vs) (pairM fk fv fr) := by
  obtain ⟨t, p, r⟩ := hk
  obtain ⟨u, q, h⟩ := hv
  obtain ⟨trs, p', h'⟩ := hr
  refine ⟨(t, u) :: trs, pps_cons p q p', fun w H σ s Q R z => ?_⟩
  refine r.bnd R z fun d s1 w1 H1 v1 l1 R1 r1 p1 => ?_
  refine h.bnd R1 p1 fun e s2 w2 H2 v2 l2 R2 r2 p2 => ?_
  refine h'.bnd R2 p2 fun ds s3 w3 H3 v3 l3 R3 r3 p3 => ?_
  obtain ⟨kvs, e3, r3⟩ := r3
  cases hk : keyD d with
  | none => rw [hk] at p3; exact p3.elim
  | some k =>
    rw [hk] at p3
    have e1 := key_of r1 hk
    refine Post.here p3 R3 ⟨(k, v2) :: kvs, ?_, .cons (r2.up l3) r3⟩
    rw [List.map_cons, e1, e3]
theorem dn_disp (h : DP X W pos ks vs fr) (hall : ks.all (·.isSome) = true := by rfl) (hl : ks.length = vs.length := by rfl) (h0 : ks ≠ [] := by (intro z; cases z)) (h15 : ks.length ≤ 15 := by decide) : DN X W (.Dict ks vs pos) (dspM fr) := by
  obtain ⟨trs, p, r⟩ := h
  refine ⟨_, pe_disp p hall hl h0 h15, fun w H σ s Q R z => ?_⟩
  intro q hq
  have f := R.fresh hq
  have R0 := R.laid (o := .dK []) hq
  refine r w _ σ s _ R0 ?_
  unfold dspM bnd at z
  cases hf : fr s with
  | bad => rw [hf] at z; exact z.elim
  | exc e s1 => rw [hf] at z; exact fun w' H' l R' => z w' H' ((Le.laid hq).trans l) R'
  | ok ds s1 =>
    rw [hf] at z
    rintro w1 H1 _ l1 R1 ⟨kvs, rfl, rk⟩
    have hq1 : H1 q = some (.dK []) := l1.keep q _ upd_same f.2
    have nF : w1.F q = none := by
      cases e : w1.F q with
      | none => rfl
      | some o =>
        rcases l1.newF q o e with h | h | h
        · rw [f.1] at h; cases h
        · rw [upd_same] at h; cases h
        · exact (f.2 h).elim
    have nR : q ∉ w1.ρ := fun h => by
      rcases l1.newρ q h with h | h
      · exact f.2 h
      · rw [upd_same] at h; cases h
    dsimp only at z
    by_cases hl : ds.length ≤ 15
    · rw [if_pos hl] at z
      refine ⟨hq1, kvs, rfl, by rw [RepK.length rk]; exact hl, ?_⟩
      exact z w1 _ _ (((Le.laid hq).trans l1).mut hq) (R1.mut nF nR) ⟨q, rfl, nF, nR, ⟨_, upd_same, RepK.merge rk .nil⟩, hq⟩
    · rw [if_neg hl] at z; exact z.elim
theorem dn_dict0 {pos : Pos} : DN X W (.Dict [] [] pos) (ret (.dct [])) := by
  refine ⟨_, pe_dnewK, fun w H σ s Q R z => fun q hq => ?_⟩
  have f := R.fresh hq
  exact z w _ _ (Le.laid hq) (R.laid hq) ⟨q, rfl, f.1, f.2, ⟨_, upd_same, .nil⟩, hq⟩
end
end Fx

/-! Fx: sets of ints made of lists -/
namespace L2
open PySem PySem.Spec PyProof.Rows
abbrev bareSet (w : World) : Obj := { cls := .type "set", dict := none, data := .set #[] 0 (.fresh 0 0 (!w.params.followText "set-order")) }
section
variable {P : Program} {w : World} {A : Around} {E : Value → Shared → Prop} {s : Shared}
set_option maxHeartbeats 3200000 in
/-- set(xs) of a list of ints, the set's inside told -/
theorem set_of_list {l : Addr} {items : Array Value} (ns : List Int) {Q : Value → Shared → Prop} (hh : A.handled = none) (hl : s.heap.IsList l items) (hit : IntsAre items.toList ns) (hb : ns.length + 1 < scanBound)
    (k : ∀ (h' : Heap) (tk c : Nat), SetR w h' s.heap.objs.size (fun j => decide (j ∈ ns)) c → c ≤ ns.length → (∀ b o, s.heap.get? b = some o → h'.get? b = some o) → Q (.ref s.heap.objs.size) { s with heap := h', toks := tk }) :
    wpAny (model P w) A (call (.type "set") [.ref l]) Q E s := by
  have many : items.size = ns.length := by rw [← Array.length_toList]; exact IntsAre.length hit
  obtain ⟨c, tl, hmro⟩ := F.called_set.mro
  have a1 := F.called_set.made
  have a2 := F.called_set.sub
  refine wpAny_call (codeAny_of_tree (wpAny_pure ⟨Code.quiet_builtin _ (by decide +kernel), codeAny_builtin F.entry_type_call ?_⟩ : wpAny _ _ (callAny (.type "set") _) _ _ _))
  rw [Around.under_plain (weight_type_call_type "set" [.ref l] []) rfl]
  have a3 := F.called_set.notType
  have a4 := F.called_set.canCreate
  have a5 := F.typeCall_set_1 (.ref l)
  repeat (any_goals (first | assumption | wp_step))
  refine codeAny_mono (code_set_led1 (.ref l) (E := E) (Q₁ := fun obj s₁ => obj = .ref s.heap.objs.size ∧ s₁ = { s with heap := s.heap.push (bareSet w) }) ⟨rfl, rfl⟩) fun r s₁ hr => ?_
  match r, hr with
  | .error e, hr => exact hr
  | .ok (.ret obj), hr =>
    obtain ⟨rfl, rfl⟩ := hr
    have here : (s.heap.push (bareSet w)).get? s.heap.objs.size = some (bareSet w) := Heap.get?_push_size _ rfl
    have isSet : Shared.TypeIs { s with heap := s.heap.push (bareSet w) } (.ref s.heap.objs.size) "set" := ⟨_, here, rfl⟩
    have b1 := F.called_set.init.lookup
    have b2 := F.called_set.init.bind (.ref s.heap.objs.size)
    repeat (any_goals (first | assumption | wp_step))
    refine codeAny_mono (codeAny_call_builtin (R := wants (fun r s₂ => r = .none ∧ ∃ h' tk c, s₂ = { s with heap := h', toks := tk } ∧ SetR w h' s.heap.objs.size (fun j => decide (j ∈ ns)) c ∧ c ≤ ns.length ∧ (∀ b o, s.heap.get? b = some o → h'.get? b = some o)) E)
      F.called_set.init.plain F.entry_set_init (check_set_init_1 isSet ?_)) fun r₂ s₂ hr₂ => ?_
    · obtain ⟨⟨cl0, di0, da0, sl0⟩, at0, rfl, n0, rfl⟩ := hl
      have at1 : (s.heap.push (bareSet w)).get? l = some { cls := .type "list", dict := di0, data := .seq items n0, slots := sl0 } := Heap.get?_push_of_some _ at0
      have c1 := F.sub_list_set
      have c2 := F.sub_list_frozenset
      have c3 : (Value.type "list" == Value.type "dict") = false := by decide
      have list1 : (s.heap.push (bareSet w)).IsList l items := ⟨_, at1, rfl, n0, rfl⟩
      unfold Builtin.«set.__init__» noKeywords Builtin.Frozenset.updateFrom
      generalize hPI : pyIter = PI
      wp_walk
      subst hPI
      refine wpAny_pyIter_list list1 (wpAny_bind (wpAny_runValue ?_))
      have lt0 : l < s.heap.objs.size := Heap.lt_size at0
      have quiet : A.in1.in1.in1.handled = none := by simp [hh]
      have sz : (s.heap.push (bareSet w)).objs.size = s.heap.objs.size + 1 := Heap.size_push ..
      have ne1 : l ≠ (s.heap.push (bareSet w)).objs.size := by rw [sz]; exact Nat.ne_of_lt (Nat.lt_succ_of_lt lt0)
      have out1 : s.heap.objs.size ∉ [(s.heap.push (bareSet w)).objs.size, l] := by simp only [List.mem_cons, List.not_mem_nil, or_false, not_or]; rw [sz]; exact ⟨Nat.ne_of_lt (Nat.lt_succ_self _), Nat.ne_of_gt lt0⟩
      have each : ∀ (i : Nat) (v : Value), items[i]? = some v → ∃ k t, ns[i]? = some k ∧ v = .int k t := fun i v hv => by
        have hi : i < ns.length := by rw [← many]; exact (Array.getElem?_eq_some_iff.mp hv).1
        obtain ⟨t, e⟩ := PyProof.Rows.IntsAre.int_at hit i v (by rw [Array.getElem?_toList]; exact hv)
        exact ⟨ns[i], t, List.getElem?_eq_getElem hi, by rw [e, List.getD_eq_getElem?_getD, List.getElem?_eq_getElem hi]; rfl⟩
      refine set_update_ints ((Walks.list quiet _ l ne1 items).toS) s.heap.objs.size out1 ns many hb each (items.size - 0) 0 _ (by omega) (Nat.zero_le _) ⟨⟨_, Heap.get?_push_size _ rfl, rfl, rfl⟩, (list1.push _)⟩ ⟨0, Nat.le_refl 0, setR_new_at (Heap.get?_push_of_some _ here)⟩ ?_
      rintro ⟨h', g2, d', tk', os'⟩ c' mv hc' hS'
      obtain rfl : g2 = s.gens := mv.gens
      obtain rfl : d' = s.drawn := mv.drawn
      obtain rfl : os' = s.os := mv.os
      show wpAny _ _ _ _ _ _
      refine wpAny_pure ?_
      show wpAny _ _ (ret Value.none) _ _ _
      refine wpAny_pure ⟨rfl, h', tk', c', rfl, hS', by rw [← many]; exact hc', fun b o e => ?_⟩
      have lt1 : b < s.heap.objs.size := Heap.lt_size e
      exact mv.heap b o (by simp only [List.mem_cons, List.not_mem_nil, or_false, not_or]; rw [sz]; exact ⟨Nat.ne_of_lt lt1, Nat.ne_of_lt (Nat.lt_succ_of_lt lt1)⟩) (Heap.get?_push_of_some _ (Heap.get?_push_of_some _ e))
    · match r₂, hr₂ with
      | .error e, hr₂ => exact hr₂
      | .ok (.ret r), hr₂ =>
        obtain ⟨rfl, h', tk, c, rfl, hS', hc', hk'⟩ := hr₂
        repeat (any_goals (first | assumption | wp_step))
        exact k _ _ _ hS' hc' hk'
variable {X : Cx}
/-- set(xs), ints -/
def rSetOf (K : PySem.W.Frag) (w : World) : List V → Hp → VK → Prop := fun vs H Q => ∃ (a : Addr) (ns : List Int), vs = [V.ref a] ∧ SqL K H a (ns.map V.int) ∧ ns.length + 1 < scanBound ∧ ∀ (p : Addr) (n : Nat), H p = none → n ≤ ns.length → Q (.ref p) (upd H p (SetO w p (fun j => decide (j ∈ ns)) n))
theorem cr_setOf (hc : X.calm = true) : CallR X (.type "set") (rSetOf X.K X.w) := by
  intro pins s σ H xs us Q I r h
  obtain ⟨a, ns, rfl, hs, hb, q⟩ := h
  obtain ⟨its, rv, hl, hz⟩ := I.list hs
  rw [Vals.ref1 r]
  refine set_of_list ns (I.ok.hd hc) hl.isList (by simpa using ints_of_vals rv) hb fun h' tk c R hc' keep => ?_
  exact ⟨.ref _, upd H s.heap.objs.size (SetO X.w s.heap.objs.size (fun j => decide (j ∈ ns)) c), I.laid (t' := tk) keep (Nat.le_refl _) (setO_new R), rfl, q _ _ (I.hok.fresh (Nat.le_refl _)) hc'⟩
end
end L2

/-! Fx: sorted, of lists, dicts, sets -/
namespace Fx
open PySem PySem.Spec PyProof.Rows L2
variable {X : Cx} {W : WX}
/-! ### the results, plainly -/
def sortZ (ns : List Int) : List Int := ns.mergeSort fun a b => decide (a ≤ b)
theorem sortZ_perm (ns : List Int) : (sortZ ns).Perm ns := List.mergeSort_perm ns _
theorem sortZ_le (ns : List Int) : (sortZ ns).Pairwise (· ≤ ·) := by
  have := List.pairwise_mergeSort (le := fun a b : Int => decide (a ≤ b)) (fun a b c h1 h2 => by simp at *; omega) (fun a b => by simp; omega) ns
  exact this.imp fun h => by simpa using h
theorem eq_sortZ {ns ms : List Int} (hp : ms.Perm ns) (hs : ms.Pairwise (· ≤ ·)) : ms = sortZ ns :=
  List.Perm.eq_of_pairwise (fun _ _ _ _ a b => Int.le_antisymm a b) hs (sortZ_le ns) (hp.trans (sortZ_perm ns).symm)
def insZ (x : Int) : List Int → List Int
  | [] => [x]
  | y :: r => if x < y then x :: y :: r else if x = y then y :: r else y :: insZ x r
def setZ (ns : List Int) : List Int := ns.foldr insZ []
theorem mem_insZ {x z : Int} : ∀ {ns : List Int}, z ∈ insZ x ns ↔ z = x ∨ z ∈ ns
  | [] => by simp [insZ]
  | y :: r => by
    unfold insZ
    split
    · simp
    · split
      · next h => subst h; simp
      · rw [List.mem_cons, mem_insZ (ns := r), List.mem_cons]
        constructor
        · rintro (h | h | h)
          · exact .inr (.inl h)
          · exact .inl h
          · exact .inr (.inr h)
        · rintro (h | h | h)
          · exact .inr (.inl h)
          · exact .inl h
          · exact .inr (.inr h)
theorem insZ_lt {x : Int} : ∀ {ns : List Int}, ns.Pairwise (· < ·) → (insZ x ns).Pairwise (· < ·)
  | [], _ => by simp [insZ]
  | y :: r, h => by
    have ⟨h1, h2⟩ := List.pairwise_cons.mp h
    unfold insZ
    split
    · next c => exact List.pairwise_cons.mpr ⟨fun z hz => by
        rcases List.mem_cons.mp hz with e | e
        · rw [e]; exact c
        · exact Int.lt_trans c (h1 z e), h⟩
    · split
      · exact h
      · next c c2 => exact List.pairwise_cons.mpr ⟨fun z hz => by
          rcases mem_insZ.mp hz with e | e
          · rw [e]; omega
          · exact h1 z e, insZ_lt h2⟩
theorem mem_setZ {z : Int} (ns : List Int) : z ∈ setZ ns ↔ z ∈ ns := by
  unfold setZ
  induction ns with
  | nil => simp
  | cons x r ih => rw [List.foldr_cons, mem_insZ, ih, List.mem_cons]
theorem setZ_lt (ns : List Int) : (setZ ns).Pairwise (· < ·) := by
  unfold setZ
  induction ns with
  | nil => exact List.Pairwise.nil
  | cons x r ih => rw [List.foldr_cons]; exact insZ_lt ih
theorem insZ_len (x : Int) : ∀ ns : List Int, (insZ x ns).length ≤ ns.length + 1
  | [] => by simp [insZ]
  | y :: r => by
    have := insZ_len x r
    unfold insZ
    split
    · simp
    · split
      · simp
      · simp only [List.length_cons]; omega
theorem setZ_len (ns : List Int) : (setZ ns).length ≤ ns.length := by
  unfold setZ
  induction ns with
  | nil => simp
  | cons x r ih =>
    rw [List.foldr_cons, List.length_cons]
    exact Nat.le_trans (insZ_len _ _) (by omega)
theorem ltZ_ext : ∀ {as bs : List Int}, as.Pairwise (· < ·) → bs.Pairwise (· < ·) → (∀ z, z ∈ as ↔ z ∈ bs) → as = bs
  | [], [], _, _, _ => rfl
  | [], b :: bs, _, _, h => absurd ((h b).mpr List.mem_cons_self) (by simp)
  | a :: as, [], _, _, h => absurd ((h a).mp List.mem_cons_self) (by simp)
  | a :: as, b :: bs, ha, hb, h => by
    have ⟨a1, a2⟩ := List.pairwise_cons.mp ha
    have ⟨b1, b2⟩ := List.pairwise_cons.mp hb
    have e : a = b := by
      rcases List.mem_cons.mp ((h a).mp List.mem_cons_self) with e | e
      · exact e
      · rcases List.mem_cons.mp ((h b).mpr List.mem_cons_self) with e2 | e2
        · exact e2.symm
        · have := a1 b e2; have := b1 a e; omega
    subst e
    rw [ltZ_ext a2 b2 fun z => ?_]
    constructor
    · intro hz
      rcases List.mem_cons.mp ((h z).mp (List.mem_cons_of_mem _ hz)) with e | e
      · have := a1 z hz; omega
      · exact e
    · intro hz
      rcases List.mem_cons.mp ((h z).mpr (List.mem_cons_of_mem _ hz)) with e | e
      · have := b1 z hz; omega
      · exact e
theorem eq_setZ {ns ms : List Int} (hs : ms.Pairwise (· < ·)) (h : ∀ z, z ∈ ms ↔ z ∈ ns) : ms = setZ ns := ltZ_ext hs (setZ_lt ns) fun z => by rw [h, mem_setZ]
theorem sortZ_lt {ns : List Int} (h : ns.Nodup) : (sortZ ns).Pairwise (· < ·) := by
  have h1 := sortZ_le ns
  have h2 : (sortZ ns).Pairwise (· ≠ ·) := (sortZ_perm ns).nodup_iff.mpr h
  exact (h1.and h2).imp fun ⟨a, b⟩ => by omega
theorem sortZ_set {ns : List Int} (h : ns.Nodup) : sortZ ns = setZ ns := eq_setZ (sortZ_lt h) fun z => (sortZ_perm ns).mem_iff
/-! texts -/
def leT (a b : Str) : Bool := !decide (b.cps.toList < a.cps.toList)
def sortT (xs : List Str) : List Str := xs.mergeSort leT
theorem leT_tr (a b c : Str) (h1 : leT a b = true) (h2 : leT b c = true) : leT a c = true := by
  unfold leT at *
  simp only [Bool.not_eq_true', decide_eq_false_iff_not] at *
  exact fun h => h2 (by
    rcases Classical.em (b.cps.toList < a.cps.toList) with z | z
    · exact absurd z h1
    · exact Std.lt_of_lt_of_le h (List.not_lt.mp z))
theorem leT_tot (a b : Str) : (leT a b || leT b a) = true := by
  unfold leT
  by_cases h : b.cps.toList < a.cps.toList
  · have : ¬ a.cps.toList < b.cps.toList := fun z => absurd (List.lt_trans h z) (List.lt_irrefl _)
    simp [h, this]
  · simp [h]
theorem leT_anti {a b : Str} (h1 : leT a b = true) (h2 : leT b a = true) : a = b := by
  unfold leT at *
  simp only [Bool.not_eq_true', decide_eq_false_iff_not] at *
  have := List.le_antisymm (List.not_lt.mp h1) (List.not_lt.mp h2)
  cases a; cases b
  congr 1
  exact Array.toList_inj.mp this
theorem sortT_perm (xs : List Str) : (sortT xs).Perm xs := List.mergeSort_perm xs _
theorem sortT_le (xs : List Str) : (sortT xs).Pairwise fun a b => leT a b = true := List.pairwise_mergeSort leT_tr leT_tot xs
theorem rising_pw : ∀ (x : Str) (xs : List Str), risingS x xs = true → (x :: xs).Pairwise fun a b => leT a b = true
  | x, [], _ => List.pairwise_singleton _ _
  | x, y :: r, h => by
    have h : (!ltCps y.cps.toList x.cps.toList && risingS y r) = true := h
    rw [Bool.and_eq_true] at h
    have ih := rising_pw y r h.2
    have e : leT x y = true := by unfold leT; rw [← ltCps_eq]; exact h.1
    refine List.pairwise_cons.mpr ⟨fun z hz => ?_, ih⟩
    rcases List.mem_cons.mp hz with q | q
    · rw [q]; exact e
    · exact leT_tr x y z e ((List.pairwise_cons.mp ih).1 z q)
theorem eq_sortT {xs ys : List Str} (hp : ys.Perm xs) (hs : sortedS ys = true) : ys = sortT xs := by
  refine List.Perm.eq_of_pairwise (fun _ _ _ _ a b => leT_anti a b) ?_ (sortT_le xs) (hp.trans (sortT_perm xs).symm)
  cases ys with
  | nil => exact List.Pairwise.nil
  | cons y r => exact rising_pw y r hs
/-! ### sorted(d) -/
def intsOf : List D → Option (List Int)
  | [] => some []
  | .int i :: r => (intsOf r).map (i :: ·)
  | _ => none
def intKs : List (Key × D) → Option (List Int)
  | [] => some []
  | (.inl i, _) :: r => (intKs r).map (i :: ·)
  | _ => none
def strKs : List (Key × D) → Option (List Str)
  | [] => some []
  | (.inr x, _) :: r => (strKs r).map (x :: ·)
  | _ => none
theorem ints_rep' {K : PySem.W.Frag} {w : Wd} : ∀ {vs : List V} {ds : List D} {ns : List Int}, RepL K w vs ds → intsOf ds = some ns → vs = ns.map V.int
  | _, _, ns, .nil, h => by cases h; rfl
  | _, _, ns, .cons (d := d) (ds := ds) r t, h => by
    cases r with
    | int i =>
      unfold intsOf at h
      cases e : intsOf ds with
      | none => rw [e] at h; cases h
      | some zs => rw [e] at h; cases h; rw [ints_rep' t e]; rfl
    | _ => cases h
theorem intKs_of : ∀ {kvs : List (Key × D)} {ns : List Int}, intKs kvs = some ns → kvs.map (·.1) = ns.map Sum.inl
  | [], ns, h => by cases h; rfl
  | (.inl i, d) :: r, ns, h => by
    unfold intKs at h
    cases e : intKs r with
    | none => rw [e] at h; cases h
    | some zs => rw [e] at h; cases h; rw [List.map_cons, intKs_of e]; rfl
  | (.inr x, d) :: r, ns, h => by cases h
theorem strKs_of : ∀ {kvs : List (Key × D)} {ns : List Str}, strKs kvs = some ns → kvs.map (·.1) = ns.map Sum.inr
  | [], ns, h => by cases h; rfl
  | (.inr i, d) :: r, ns, h => by
    unfold strKs at h
    cases e : strKs r with
    | none => rw [e] at h; cases h
    | some zs => rw [e] at h; cases h; rw [List.map_cons, strKs_of e]; rfl
  | (.inl x, d) :: r, ns, h => by cases h
/-- sorted of a list of ints (any many), of texts, of a dict with ints or texts as keys (fewer than 64) -/
def sortI1 : List D → M Cell
  | [d] => fun s => match lstOf s d with
    | some ds => match intsOf ds with
      | some ns => .ok (.lst ((sortZ ns).map D.int)) s
      | none => .bad
    | none => .bad
  | _ => fail
def sortI2 : List D → M Cell
  | [d] => fun s => match lstOf s d with
    | some ds => match strsOf ds with
      | some xs => .ok (.lst ((sortT xs).map D.str)) s
      | none => .bad
    | none => .bad
  | _ => fail
def sortI3 : List D → M Cell
  | [d] => fun s => match dctR s d with
    | some kvs => match intKs kvs with
      | some ns => if ns.length < 64 then .ok (.lst ((sortZ ns).map D.int)) s else .bad
      | none => .bad
    | none => .bad
  | _ => fail
def sortI4 : List D → M Cell
  | [d] => fun s => match dctR s d with
    | some kvs => match strKs kvs with
      | some ns => if ns.length < 64 then .ok (.lst ((sortT ns).map D.str)) s else .bad
      | none => .bad
    | none => .bad
  | _ => fail
def sortedM (ds : List D) : M Cell := altM (altM (sortI1 ds) (sortI2 ds)) (altM (sortI3 ds) (sortI4 ds))
theorem RS.giveL {K : PySem.W.Frag} {w : Wd} {H : Hp} {σ : L2.St} {s : S} {vs : List V} {ds : List D} {Q : V → Hp → Prop} (R : RS K w H σ s) (r : RepL K w vs ds) (p : Post K W (pN K) w H σ (.ok (.lst ds) s) Q) {q : Addr} (hq : H q = none) : Q (.ref q) (upd H q (.lst vs)) :=
  p w _ _ (Le.laid hq) (R.laid hq) ⟨q, rfl, (R.fresh hq).1, (R.fresh hq).2, ⟨_, upd_same, r⟩, hq⟩
theorem repInts {K : PySem.W.Frag} {w : Wd} : ∀ ns : List Int, RepL K w (ns.map V.int) (ns.map D.int)
  | [] => .nil
  | n :: r => .cons (.int n) (repInts r)
theorem repStrs {K : PySem.W.Frag} {w : Wd} : ∀ ns : List Str, RepL K w (ns.map V.str) (ns.map D.str)
  | [] => .nil
  | n :: r => .cons (.str n) (repStrs r)
theorem rc_sort1 : RCalN X (rSortedI X.K) sortI1 := by
  intro W w H σ s vs ds Q R r p
  unfold sortI1 at p
  split at p
  · next d =>
    obtain ⟨v, rfl, rv⟩ := one_of r
    split at p
    · next es he =>
      split at p
      · next ns hn =>
        obtain ⟨a, us, rfl, h1, h2⟩ := R.list rv he
        rw [ints_rep' h2 hn] at h1
        refine ⟨a, ns, rfl, h1, fun ms q hp hs hq => ?_⟩
        rw [eq_sortZ hp hs]
        exact R.giveL (repInts _) p hq
      · exact p.elim
    · exact p.elim
  · exact p.elim
/-- sorted(xs), texts, any number of them -/
def rSortedSA (K : PySem.W.Frag) : List V → Hp → VK → Prop := fun vs H Q => ∃ (a : Addr) (xs : List Str), vs = [V.ref a] ∧ SqL K H a (xs.map V.str) ∧ ∀ p, H p = none → Q (.ref p) (upd H p (.lst ((sortT xs).map V.str)))
theorem each_strs : ∀ {xs : List Str} {us : List Value}, StrsAre us xs → PySem.W.EachIs (fun v x => ∃ t, v = Value.str x t) us xs
  | _, _, .nil => .nil
  | _, _, .cons _ t r => .cons ⟨t, rfl⟩ (each_strs r)
theorem strs_each : ∀ {us : List Value} {xs : List Str}, PySem.W.EachIs (fun v x => ∃ t, v = Value.str x t) us xs → StrsAre us xs
  | _, _, .nil => .nil
  | _, _, .cons ⟨t, h⟩ r => by subst h; exact .cons _ t (strs_each r)
theorem cr_sortedSA {X : Cx} (hu : X.A.units + 64 < cLine) : CallR X (.builtin "sorted") (rSortedSA X.K) := by
  intro pins s σ H vs us Q I r h
  obtain ⟨a, xs, rfl, hs, q⟩ := h
  obtain ⟨its, rv, hl, hz⟩ := I.list hs
  rw [Vals.ref1 r]
  have e := each_strs rv.strs
  rw [List.length_map] at hz
  refine PySem.W.sorted_data (enc := fun x : Str => PyData.str x) hl.isList e (e.mono fun v x ⟨t, h⟩ => ⟨[], by rw [h]; exact .str x t⟩) (PySem.W.AllAlike.of fun _ _ => rfl) (PySem.W.Sortable.others fun b => ⟨(by intro z; cases z), (by intro xs z; cases z)⟩) hz (fun b _ => by show X.A.units + 2 + 0 < cLine; omega) fun out h1 h2 => ?_
  have e2 : (PySem.W.dataLe false fun x : Str => PyData.str x) = leT := by
    rw [PySem.W.dataLe_str (fun x : Str => x)]
    funext a b
    unfold leT
    rw [PySem.W.not_lt_str]
  rw [e2] at h2
  have h2 : PySem.W.EachIs (fun v x => ∃ t, v = Value.str x t) out (sortT xs) := h2
  obtain ⟨ep, he'⟩ := PyProof.Rows.sortedAll_at s.heap its out.toArray
  have hlen : ((sortT xs).map V.str).length ≤ sizeLine := by rw [List.length_map, (sortT_perm xs).length_eq]; exact hz
  exact ⟨.ref _, upd H (s.heap.objs.size + 1) (.lst ((sortT xs).map V.str)), I.laid (t' := s.toks) (fun _ _ => PyProof.Rows.sortedAll_old) (Nat.le_succ _) ⟨hlen, out, ep, vals_of_strs (strs_each h2), he'⟩, rfl, q _ (I.hok.fresh (Nat.le_succ _))⟩
theorem rc_sort2 : RCalN X (rSortedSA X.K) sortI2 := by
  intro W w H σ s vs ds Q R r p
  unfold sortI2 at p
  split at p
  · next d =>
    obtain ⟨v, rfl, rv⟩ := one_of r
    split at p
    · next es he =>
      split at p
      · next ns hn =>
        obtain ⟨a, us, rfl, h1, h2⟩ := R.list rv he
        rw [strs_rep h2 hn] at h1
        exact ⟨a, ns, rfl, h1, fun q hq => R.giveL (repStrs _) p hq⟩
      · exact p.elim
    · exact p.elim
  · exact p.elim
section
variable {e : Expr} {fs : M (List D)} {p pos : Pos}
theorem dn_sorted (hu : X.A.units + 64 < cLine) (hm : X.mg "sorted" = none) (ha : DA X W [e] fs) (hc : X.calm = true := by rfl) (hg : Gl X "sorted" := by rfl) (he : starEach [e] X.env = (false, eval e X.env) :: starEach [] X.env := by rfl) (hpl : (backTo pos (starEach [] X.env)).any (·.1) = false := by rfl) :
    DN X W (.Call (.Name "sorted" p) [e] [] pos) (bnd fs sortedM) := by
  have hv : bootBuiltins "sorted" = some (.builtin "sorted") := by decide +kernel
  have c1 : DN X W (.Call (.Name "sorted" p) [e] [] pos) (bnd fs sortI1) := dn_callB cr_sortedI rc_sort1 hm ha hv hg (by decide) (by decide) he hpl
  have c2 : DN X W (.Call (.Name "sorted" p) [e] [] pos) (bnd fs sortI2) := dn_callB (cr_sortedSA hu) rc_sort2 hm ha hv hg (by decide) (by decide) he hpl
  have c3 : DN X W (.Call (.Name "sorted" p) [e] [] pos) (bnd fs sortI3) := dn_callB (call_sortedDI hc) (fun W w H σ s vs ds Q R r p => by
    unfold sortI3 at p
    split at p
    · next d =>
      obtain ⟨v, rfl, rv⟩ := one_of r
      split at p
      · next kvs he =>
        split at p
        · next ns hn =>
          split at p
          · next hl =>
            obtain ⟨a, us, rfl, h1, h2⟩ := R.dictR rv he
            refine ⟨a, us, ns, rfl, h1, by rw [RepK.keys h2]; exact intKs_of hn, hl, fun ms q hp hs hq => ?_⟩
            rw [eq_sortZ hp hs]
            exact R.giveL (repInts _) p hq
          · exact p.elim
        · exact p.elim
      · exact p.elim
    · exact p.elim) hm ha hv hg (by decide) (by decide) he hpl
  have c4 : DN X W (.Call (.Name "sorted" p) [e] [] pos) (bnd fs sortI4) := dn_callB (call_sortedD hc) (fun W w H σ s vs ds Q R r p => by
    unfold sortI4 at p
    split at p
    · next d =>
      obtain ⟨v, rfl, rv⟩ := one_of r
      split at p
      · next kvs he =>
        split at p
        · next ns hn =>
          split at p
          · next hl =>
            obtain ⟨a, us, rfl, h1, h2⟩ := R.dictR rv he
            refine ⟨a, us, ns, rfl, h1, by rw [RepK.keys h2]; exact strKs_of hn, hl, fun ms q hp hs hq => ?_⟩
            rw [eq_sortT hp hs]
            exact R.giveL (repStrs _) p hq
          · exact p.elim
        · exact p.elim
      · exact p.elim
    · exact p.elim) hm ha hv hg (by decide) (by decide) he hpl
  have bo : ∀ (f g : List D → M Cell) (s : S), bnd fs (fun ds => altM (f ds) (g ds)) s = bnd fs f s ∨ bnd fs (fun ds => altM (f ds) (g ds)) s = bnd fs g s := fun f g s => by
    unfold bnd
    cases fs s with
    | bad => exact .inl rfl
    | exc e s' => exact .inl rfl
    | ok ds s' => exact alt_is _ _ s'
  exact dn_or2 (dn_or2 c1 c2 (bo _ _)) (dn_or2 c3 c4 (bo _ _)) (bo _ _)
/-- sorted(set(xs)), fewer than 64 ints -/
def sortSetM (d : D) : M Cell := fun s => match lstOf s d with
  | some ds => match intsOf ds with
    | some ns => if ns.length < 64 then .ok (.lst ((setZ ns).map D.int)) s else .bad
    | none => .bad
  | none => .bad
theorem dn_sortSet {q q2 : Pos} {fe : M D} (hm : X.mg "sorted" = none) (hm2 : X.mg "set" = none) (ha : DE X W e fe) (hc : X.calm = true := by rfl) (hg : Gl X "sorted" := by rfl) (hg2 : Gl X "set" := by rfl) (he : starEach [e] X.env = (false, eval e X.env) :: starEach [] X.env := by rfl) (hpl : (backTo q2 (starEach [] X.env)).any (·.1) = false := by rfl)
    (he2 : starEach [Expr.Call (.Name "set" q) [e] [] q2] X.env = (false, eval (Expr.Call (.Name "set" q) [e] [] q2) X.env) :: starEach [] X.env := by rfl) (hpl2 : (backTo pos (starEach [] X.env)).any (·.1) = false := by rfl) :
    DN X W (.Call (.Name "sorted" p) [.Call (.Name "set" q) [e] [] q2] [] pos) (bnd fe sortSetM) := by
  obtain ⟨t, pe, r⟩ := ha
  refine ⟨_, pe_callB (cr_sortedSet hc) hg hm (by decide +kernel) (pa_cons (pe_callTy (cr_setOf hc) hg2 hm2 (by decide +kernel) (pa_cons pe pa_nil he) (by decide) (by decide) he hpl) pa_nil he2) (by decide) (by decide) he2 hpl2, fun w H σ s Q R z => ?_⟩
  refine r.bnd R z fun d s1 w1 H1 v l1 R1 r1 p1 => ?_
  unfold sortSetM at p1
  split at p1
  · next es hes =>
    split at p1
    · next ns hn =>
      split at p1
      · next hl =>
        obtain ⟨a, us, rfl, h1, h2⟩ := R1.list r1 hes
        rw [ints_rep' h2 hn] at h1
        refine ⟨a, ns, rfl, h1, Nat.lt_of_lt_of_le (show ns.length + 1 < 65 by omega) (by decide), fun q n hq hn2 => ?_⟩
        refine ⟨q, _, n, rfl, upd_same, by omega, fun ms q3 hlt hmem hlen hq3 => ?_⟩
        have e : ms = setZ ns := eq_setZ hlt fun z => by rw [hmem]; exact decide_eq_true_iff
        rw [e]
        have R2 := R1.laid (o := SetO X.w q (fun j => decide (j ∈ ns)) n) hq
        have p2 := p1.up (Le.laid (w := w1) (o := SetO X.w q (fun j => decide (j ∈ ns)) n) hq)
        exact R2.giveL (repInts _) p2 hq3
      · exact p1.elim
    · exact p1.elim
  · exact p1.elim
end
end Fx

/-! Fx: odds and ends for the printed texts -/
namespace Fx
open PySem PySem.Spec PyProof.Rows L2
variable {X : Cx} {W : WX}
theorem ds_never {st : Stmt} : DS X W st fail := ⟨_, ps_never, fun w H σ s D R z => z.elim⟩
/-! int(flag), int(n) -/
def intM : List D → M D
  | [.int i] => ret (.int i)
  | [.bl b] => ret (.int (b2i b))
  | _ => fail
theorem rc_int : RCal X (fun xs H Q => (∃ i, xs = [.int i] ∧ Q (.int i) H) ∨ ∃ k, xs = [.bl k] ∧ Q (.int (b2i k)) H) intM := by
  intro W w H σ s vs ds Q R r p
  unfold intM at p
  split at p
  · obtain ⟨v, rfl, rv⟩ := one_of r
    cases rv
    exact .inl ⟨_, rfl, Post.here p R (Rep.int _)⟩
  · obtain ⟨v, rfl, rv⟩ := one_of r
    cases rv
    exact .inr ⟨_, rfl, Post.here p R (Rep.int _)⟩
  · exact p.elim
/-! list(reversed(xs)) -/
end Fx

/-! Fx: equations for objects, dicts, and the like -/
namespace Fx
open PySem PySem.Spec PyProof.Rows L2
/-! one of two -/
def Res.alt {α : Type} (r q : Res α) : Res α := match r with
  | .bad => q
  | r => r
theorem x_alt {α : Type} {f g : M α} {s : S} : altM f g s = (f s).alt (g s) := by unfold altM Res.alt; rfl
theorem x_altO {α : Type} {a : α} {s : S} {q : Res α} : (Res.ok a s).alt q = .ok a s := nr rfl
theorem x_altB {α : Type} {q : Res α} : (Res.bad : Res α).alt q = q := nr rfl
theorem x_altI {α : Type} {c : Prop} [Decidable c] {a b q : Res α} : (if c then a else b).alt q = if c then a.alt q else b.alt q := by split <;> rfl
/-! cells -/
theorem look_app {vh : List Cell} {i : Nat} {c : Cell} (h : vh[i]? = some c) (more : List Cell) : (vh ++ more)[i]? = some c := by
  rw [List.getElem?_append_left (List.getElem?_eq_some_iff.mp h).1]; exact h
theorem x_at0 {α : Type} {vh r : List α} {c : α} : (vh ++ c :: r)[vh.length]? = some c := by simp
theorem x_at1 {α : Type} {vh r : List α} {a c : α} : (vh ++ a :: c :: r)[vh.length + 1]? = some c := by
  rw [List.getElem?_append_right (by omega)]; simp
theorem x_at2 {α : Type} {vh r : List α} {a b c : α} : (vh ++ a :: b :: c :: r)[vh.length + 2]? = some c := by
  rw [List.getElem?_append_right (by omega)]; simp
theorem x_at3 {α : Type} {vh r : List α} {a b d c : α} : (vh ++ a :: b :: d :: c :: r)[vh.length + 3]? = some c := by
  rw [List.getElem?_append_right (by omega)]; simp
theorem x_st0 {α : Type} {vh r : List α} {a c : α} : (vh ++ a :: r).set vh.length c = vh ++ c :: r := by
  rw [List.set_append_right _ _ (by omega)]; simp
theorem x_st1 {α : Type} {vh r : List α} {a b c : α} : (vh ++ a :: b :: r).set (vh.length + 1) c = vh ++ a :: c :: r := by
  rw [List.set_append_right _ _ (by omega)]; simp
theorem x_st2 {α : Type} {vh r : List α} {a b d c : α} : (vh ++ a :: b :: d :: r).set (vh.length + 2) c = vh ++ a :: b :: c :: r := by
  rw [List.set_append_right _ _ (by omega)]; simp
/-! objects -/
def fldR (x f : Str) (o : Option Cell) (s : S) : Res D := match o with
  | some (.obj y fs) => if y = x then Res.opt (fs.lookup f) s else .bad
  | _ => .bad
theorem x_fld {x f : Str} {n : Nat} {s : S} : fldM x f (.cell n) s = fldR x f s.vh[n]? s := by
  unfold fldM fldR objOf
  dsimp only
  cases s.vh[n]? with
  | none => rfl
  | some c =>
    cases c with
    | obj y fs =>
      dsimp only
      by_cases h : y = x
      · rw [if_pos h, if_pos h]; dsimp only; cases fs.lookup f <;> rfl
      · rw [if_neg h, if_neg h]
    | _ => rfl
def stoR (x f : Str) (v : D) (n : Nat) (o : Option Cell) (s : S) : Res Out := match o with
  | some (.obj y fs) => if y = x then (if fs.length < 1000 then .ok .nx ⟨s.loc, s.vh.set n (.obj y (putD f v fs))⟩ else .bad) else .bad
  | _ => .bad
theorem x_fldS {x f : Str} {fo fv : M D} {s : S} : fldS x f fo fv s = (fv s).then' fun v => bnd fo fun d => stoM x f v d := nr rfl
theorem x_sto {x f : Str} {v : D} {n : Nat} {s : S} : stoM x f v (.cell n) s = stoR x f v n s.vh[n]? s := by
  have e : objOf s x (.cell n) = match s.vh[n]? with | some (.obj y fs) => (if y = x then some fs else none) | _ => none := rfl
  unfold stoM stoR
  rw [e]
  cases s.vh[n]? with
  | none => rfl
  | some c =>
    cases c with
    | obj y fs =>
      dsimp only
      by_cases h : y = x
      · subst h; rw [if_pos rfl, if_pos rfl]
      · rw [if_neg h, if_neg h]
    | _ => rfl
def metK {α : Type} (x m : Str) (fs : M (List D)) (g : List D → M α) (d : D) : M α := fun s => match objOf s x d with
  | some gs => if gs.lookup m = none then bnd fs (fun ds => g (d :: ds)) s else .bad
  | none => .bad
def metR {α : Type} (x m : Str) (o : Option Cell) (r : Res α) : Res α := match o with
  | some (.obj y fs) => if y = x then (if fs.lookup m = none then r else .bad) else .bad
  | _ => .bad
theorem x_met {α : Type} {x m : Str} {fo : M D} {fs : M (List D)} {g : List D → M α} {s : S} : metM x m fo fs g s = (fo s).then' (metK x m fs g) := nr rfl
theorem x_metK {α : Type} {x m : Str} {fs : M (List D)} {g : List D → M α} {n : Nat} {s : S} : metK x m fs g (.cell n) s = metR x m s.vh[n]? ((fs s).then' fun ds => g (.cell n :: ds)) := by
  unfold metK metR objOf
  dsimp only
  cases s.vh[n]? with
  | none => rfl
  | some c =>
    cases c with
    | obj y fs =>
      dsimp only
      by_cases h : y = x
      · rw [if_pos h, if_pos h]; rfl
      · rw [if_neg h, if_neg h]
    | _ => rfl
def metK0 {α : Type} (x m : Str) (g : List D → M α) (d : D) : M α := fun s => match objOf s x d with
  | some gs => if gs.lookup m = none then g [d] s else .bad
  | none => .bad
theorem x_met0 {α : Type} {x m : Str} {fo : M D} {g : List D → M α} {s : S} : metM0 x m fo g s = (fo s).then' (metK0 x m g) := nr rfl
theorem x_metK0 {α : Type} {x m : Str} {g : List D → M α} {n : Nat} {s : S} : metK0 x m g (.cell n) s = metR x m s.vh[n]? (g [.cell n] s) := by
  unfold metK0 metR objOf
  dsimp only
  cases s.vh[n]? with
  | none => rfl
  | some c =>
    cases c with
    | obj y fs =>
      dsimp only
      by_cases h : y = x
      · rw [if_pos h, if_pos h]
      · rw [if_neg h, if_neg h]
    | _ => rfl
/-! calls -/
def callNR (o : Option Cell) (s : S) : Res Cell := match o with
  | some c => .ok c s
  | none => .bad
theorem x_callN {n : Nat} {F : Nf} {ds : List D} {s : S} : callN n F ds s = if ds.length = n then callNR (F ds s.vh) s else .bad := nr rfl
theorem x_callNR {c : Cell} {s : S} : callNR (some c) s = .ok c s := nr rfl
def callSR (o : Option (D × List Cell)) (s : S) : Res D := match o with
  | some (d, vh) => .ok d ⟨s.loc, vh⟩
  | none => .bad
theorem x_callS {n : Nat} {F : Sf} {ds : List D} {s : S} : callS n F ds s = if ds.length = n then callSR (F ds s.vh) s else .bad := nr rfl
theorem x_callSR {d : D} {vh : List Cell} {s : S} : callSR (some (d, vh)) s = .ok d ⟨s.loc, vh⟩ := nr rfl
def mkR (o : Option (D × List Cell)) (n : Nat) (s : S) : Res D := match o with
  | some (.non, vh) => .ok (.cell n) ⟨s.loc, vh⟩
  | _ => .bad
theorem x_make {x : Str} {n : Nat} {F : Sf} {ds : List D} {s : S} : makeM x n F ds s = if ds.length + 1 = n then mkR (F (.cell s.vh.length :: ds) (s.vh ++ [.obj x []])) s.vh.length s else .bad := by
  unfold makeM mkR
  split
  · generalize F (.cell s.vh.length :: ds) (s.vh ++ [.obj x []]) = r
    cases r with
    | none => rfl
    | some p => obtain ⟨d, vh⟩ := p; cases d <;> rfl
  · rfl
theorem x_mkR {n : Nat} {vh : List Cell} {s : S} : mkR (some (.non, vh)) n s = .ok (.cell n) ⟨s.loc, vh⟩ := nr rfl
/-! dicts -/
def ixCR (o : Option Cell) (i : Int) (s : S) : Res D := match o with
  | some (.dct kvs) => Res.opt (valA kvs (.inl i)) s
  | some (.dctL _ _ kvs) => Res.opt (valA kvs (.inl i)) s
  | some (.lst ds) => Res.opt (atI ds i) s
  | _ => .bad
theorem x_ixC {n : Nat} {i : Int} {s : S} : ixAM (.cell n) (.int i) s = ixCR s.vh[n]? i s := by
  unfold ixAM altM ixCR dgetM dctR ixM lstOf keyD
  dsimp only
  cases s.vh[n]? with
  | none => rfl
  | some c =>
    cases c with
    | dct kvs => dsimp only; cases valA kvs (.inl i) <;> rfl
    | dctL _ _ kvs => dsimp only; cases valA kvs (.inl i) <;> rfl
    | lst ds => dsimp only; cases atI ds i <;> rfl
    | obj _ _ => rfl
    | dctN _ _ => rfl
theorem x_ixCd {kvs : List (Key × D)} {i : Int} {s : S} : ixCR (some (.dct kvs)) i s = Res.opt (valA kvs (.inl i)) s := nr rfl
theorem x_ixCl {ds : List D} {i : Int} {s : S} : ixCR (some (.lst ds)) i s = Res.opt (atI ds i) s := nr rfl
theorem x_ixAL {ds : List D} {i : Int} {s : S} : ixAM (.lst ds) (.int i) s = Res.opt (atI ds i) s := by
  show (altM (dgetM (.lst ds) (.int i)) (ixM (.lst ds) (.int i))) s = _
  rw [show altM (dgetM (.lst ds) (.int i)) (ixM (.lst ds) (.int i)) s = ixM (.lst ds) (.int i) s from rfl, x_ixL]
theorem x_ixAT {ds : List D} {i : Int} {s : S} : ixAM (.tup ds) (.int i) s = Res.opt (atI ds i) s := by
  rw [show ixAM (.tup ds) (.int i) s = ixM (.tup ds) (.int i) s from rfl, x_ixT]
theorem x_ixAS {x : Str} {i : Int} {s : S} : ixAM (.str x) (.int i) s = ixM (.str x) (.int i) s := nr rfl
def dstR (o : Option Cell) (x : Str) (s : S) : Res D := match o with
  | some (.dct kvs) => Res.opt (valA kvs (.inr x)) s
  | some (.dctL _ _ kvs) => Res.opt (valA kvs (.inr x)) s
  | _ => .bad
theorem x_ixD {n : Nat} {x : Str} {s : S} : ixAM (.cell n) (.str x) s = dstR s.vh[n]? x s := by
  unfold ixAM altM dstR dgetM dctR ixM keyD
  dsimp only
  cases s.vh[n]? with
  | none => rfl
  | some c =>
    cases c with
    | dct kvs => dsimp only; cases valA kvs (.inr x) <;> rfl
    | dctL _ _ kvs => dsimp only; cases valA kvs (.inr x) <;> rfl
    | lst ds => rfl
    | obj _ _ => rfl
    | dctN _ _ => rfl
theorem x_dstR {kvs : List (Key × D)} {x : Str} {s : S} : dstR (some (.dct kvs)) x s = Res.opt (valA kvs (.inr x)) s := nr rfl
def keyO (o : Option Key) : Key := o.getD (.inl 0)
def inCR (b : Bool) (o : Option Cell) (k : Key) (q : Res D) (s : S) : Res D := match o with
  | some (.dct kvs) => .ok (.bl ((valA kvs k).isSome == b)) s
  | some (.dctL _ _ kvs) => .ok (.bl ((valA kvs k).isSome == b)) s
  | _ => q
theorem x_inC {n : Nat} {i : Int} {s : S} : inAM (.int i) (.cell n) s = inCR true s.vh[n]? (.inl i) (inQ true (.int i) (.cell n) s) s := by
  unfold inAM altM inCR dinM dctR keyD
  dsimp only
  cases s.vh[n]? with
  | none => rfl
  | some c => cases c <;> rfl
theorem x_ninC {n : Nat} {i : Int} {s : S} : ninAM (.int i) (.cell n) s = inCR false s.vh[n]? (.inl i) (inQ false (.int i) (.cell n) s) s := by
  unfold ninAM altM inCR dinM dctR keyD
  dsimp only
  cases s.vh[n]? with
  | none => rfl
  | some c => cases c <;> rfl
theorem x_inS {n : Nat} {i : Str} {s : S} : inAM (.str i) (.cell n) s = inCR true s.vh[n]? (.inr i) (inQ true (.str i) (.cell n) s) s := by
  unfold inAM altM inCR dinM dctR keyD
  dsimp only
  cases s.vh[n]? with
  | none => rfl
  | some c => cases c <;> rfl
theorem x_ninS {n : Nat} {i : Str} {s : S} : ninAM (.str i) (.cell n) s = inCR false s.vh[n]? (.inr i) (inQ false (.str i) (.cell n) s) s := by
  unfold ninAM altM inCR dinM dctR keyD
  dsimp only
  cases s.vh[n]? with
  | none => rfl
  | some c => cases c <;> rfl
theorem x_inCd {b : Bool} {kvs : List (Key × D)} {k : Key} {q : Res D} {s : S} : inCR b (some (.dct kvs)) k q s = .ok (.bl ((valA kvs k).isSome == b)) s := nr rfl
theorem x_inCl {b : Bool} {ds : List D} {k : Key} {q : Res D} {s : S} : inCR b (some (.lst ds)) k q s = q := nr rfl
theorem flL_ints : ∀ ns : List Int, flL (ns.map D.int) = some (ns.map V.int)
  | [] => rfl
  | n :: r => by rw [List.map_cons, flL, flL_ints r]; rfl
theorem inV_ints (i : Int) (ns : List Int) : inV (.int i) (ns.map V.int) = decide (i ∈ ns) := by
  unfold inV
  induction ns with
  | nil => rfl
  | cons n r ih =>
    rw [List.map_cons, List.any_cons, ih]
    show ((n == i) || decide (i ∈ r)) = _
    by_cases h : n = i
    · subst h; simp
    · rw [beq_eq_false_iff_ne.mpr h, Bool.false_or]
      have : ¬ i = n := fun z => h z.symm
      simp [this]
theorem x_inL {i : Int} {ns : List Int} {s : S} : inAM (.int i) (.lst (ns.map D.int)) s = .ok (.bl (decide (i ∈ ns))) s := by
  show inQ true (.int i) (.lst (ns.map D.int)) s = _
  unfold inQ sqOf lstOf
  dsimp only
  rw [flL_ints]
  show Res.ok (D.bl (inV (.int i) (ns.map V.int) == true)) s = _
  rw [inV_ints, beq_true]
theorem x_ninL {i : Int} {ns : List Int} {s : S} : ninAM (.int i) (.lst (ns.map D.int)) s = .ok (.bl (!decide (i ∈ ns))) s := by
  show inQ false (.int i) (.lst (ns.map D.int)) s = _
  unfold inQ sqOf lstOf
  dsimp only
  rw [flL_ints]
  show Res.ok (D.bl (inV (.int i) (ns.map V.int) == false)) s = _
  rw [inV_ints, beq_false]
theorem x_dputS {fo fi fv : M D} {s : S} : dputS fo fi fv s = (fv s).then' fun v => bnd fo fun d => bnd fi fun e => dputM v d e := nr rfl
def dputR (v : D) (n : Nat) (k : Key) (o : Option Cell) (s : S) : Res Out := match o with
  | some (.dct kvs) => if kvs.length < sizeLine then .ok .nx ⟨s.loc, s.vh.set n (.dct (putA kvs k v))⟩ else .bad
  | _ => .bad
theorem x_dput {v : D} {n : Nat} {i : Int} {s : S} : dputM v (.cell n) (.int i) s = dputR v n (.inl i) s.vh[n]? s := by
  unfold dputM dputR keyD
  dsimp only
  all_goals (cases s.vh[n]? with
    | none => rfl
    | some c => cases c <;> rfl)
theorem x_dputT {v : D} {n : Nat} {i : Str} {s : S} : dputM v (.cell n) (.str i) s = dputR v n (.inr i) s.vh[n]? s := by
  unfold dputM dputR keyD
  dsimp only
  all_goals (cases s.vh[n]? with
    | none => rfl
    | some c => cases c <;> rfl)
theorem x_dputR {v : D} {n : Nat} {k : Key} {kvs : List (Key × D)} {s : S} (h : kvs.length < 16777216) : dputR v n k (some (.dct kvs)) s = .ok .nx ⟨s.loc, s.vh.set n (.dct (putA kvs k v))⟩ := by
  unfold dputR
  dsimp only
  rw [if_pos (by rw [sizeLine_eq]; exact h)]
theorem x_pair {p q : M D} {r : M (List (Key × D))} {s : S} : pairM p q r s = (p s).then' fun d => bnd q fun e => bnd r fun ds => match keyD d with | some k => ret ((k, e) :: ds) | none => fail := nr rfl
theorem x_keyI {i : Int} : keyD (.int i) = some (.inl i) := nr rfl
theorem x_keyS {i : Str} : keyD (.str i) = some (.inr i) := nr rfl
theorem x_dsp {r : M (List (Key × D))} {s : S} : dspM r s = (r s).then' fun ds => if ds.length ≤ 15 then ret (.dct (mergeA [] ds)) else fail := nr rfl
theorem x_merge1 {k : Key} {v : D} : mergeA [] [(k, v)] = [(k, v)] := nr rfl
/-! lists that are cells -/
def isTyR (o : Option Cell) : Bool := match o with
  | some (.lst _) => true
  | _ => false
theorem x_isTyC {n : Nat} {s : S} : isTy "list" s (.cell n) = isTyR s.vh[n]? := by
  unfold isTy isTyR lstOf dctOf
  dsimp only
  cases s.vh[n]? with
  | none => rfl
  | some c => cases c <;> rfl
theorem x_isTyR {ds : List D} : isTyR (some (.lst ds)) = true := nr rfl
def appR (n : Nat) (e : D) (o : Option Cell) (s : S) : Res D := match o with
  | some (.lst ds) => if ds.length < sizeLine then .ok .non ⟨s.loc, s.vh.set n (.lst (ds ++ [e]))⟩ else .bad
  | _ => .bad
theorem x_app {n : Nat} {e : D} {s : S} : appM (.cell n) [e] s = appR n e s.vh[n]? s := by
  unfold appM wrM appR
  dsimp only
  cases s.vh[n]? with
  | none => rfl
  | some c =>
    cases c with
    | lst ds =>
      dsimp only
      by_cases h : ds.length < sizeLine
      · rw [if_pos h, if_pos h]
      · rw [if_neg h, if_neg h]
    | _ => rfl
theorem x_appR {n : Nat} {e : D} {ds : List D} {s : S} (h : ds.length < 16777216) : appR n e (some (.lst ds)) s = .ok .non ⟨s.loc, s.vh.set n (.lst (ds ++ [e]))⟩ := by
  unfold appR
  dsimp only
  rw [if_pos (by rw [sizeLine_eq]; exact h)]
theorem x_meth0 {T : String} {f : M D} {g : D → M D} {s : S} : meth0M T f g s = (f s).then' fun d s => if isTy T s d = true then g d s else .bad := nr rfl
def popR (n : Nat) (o : Option Cell) (s : S) : Res D := match o with
  | some (.lst ds) => match ds[ds.length - 1]? with
    | some d => .ok d ⟨s.loc, s.vh.set n (.lst ds.dropLast)⟩
    | none => .bad
  | _ => .bad
theorem x_clr {n : Nat} {ds : List D} {s : S} (h : s.vh[n]? = some (.lst ds)) : clrM (.cell n) s = .ok .non ⟨s.loc, s.vh.set n (.lst [])⟩ := by
  unfold clrM wrM
  dsimp only
  rw [h]
def clrR (n : Nat) (o : Option Cell) (s : S) : Res D := match o with
  | some (.lst _) => .ok .non ⟨s.loc, s.vh.set n (.lst [])⟩
  | _ => .bad
theorem x_clrC {n : Nat} {s : S} : clrM (.cell n) s = clrR n s.vh[n]? s := by
  unfold clrM wrM clrR
  dsimp only
  all_goals (cases s.vh[n]? with
    | none => rfl
    | some c => cases c <;> rfl)
theorem x_clrR {n : Nat} {ds : List D} {s : S} : clrR n (some (.lst ds)) s = .ok .non ⟨s.loc, s.vh.set n (.lst [])⟩ := nr rfl
def seqR (n : Nat) (o : Option Cell) (s : S) : Res Wk := match o with
  | some (.lst ds) => .ok ⟨ds, fun s' => itemsOf s' (.cell n) = some ds⟩ s
  | _ => .bad
theorem x_seqC {n : Nat} {s : S} : seqI (.cell n) s = seqR n s.vh[n]? s := by
  unfold seqI seqR itemsOf lstOf
  dsimp only
  cases h : s.vh[n]? with
  | none => rfl
  | some c => cases c <;> rfl
theorem x_seqCR {n : Nat} {ds : List D} {s : S} : seqR n (some (.lst ds)) s = .ok ⟨ds, fun s' => itemsOf s' (.cell n) = some ds⟩ s := nr rfl
theorem items_cell {n : Nat} {ds : List D} {s : S} (h : s.vh[n]? = some (.lst ds)) : itemsOf s (.cell n) = some ds := by
  unfold itemsOf lstOf
  dsimp only
  rw [h]
def lenR (o : Option Cell) (s : S) : Res D := match o with
  | some (.lst ds) => .ok (.int ds.length) s
  | some (.dct kvs) => .ok (.int kvs.length) s
  | _ => .bad
theorem x_lenC {n : Nat} {s : S} : lenM [.cell n] s = lenR s.vh[n]? s := by
  unfold lenM lenR lstOf dctOf
  dsimp only
  cases h : s.vh[n]? with
  | none => rfl
  | some c => cases c <;> rfl
theorem x_lenR {ds : List D} {s : S} : lenR (some (.lst ds)) s = .ok (.int ds.length) s := nr rfl
theorem x_lenRd {ds : List (Key × D)} {s : S} : lenR (some (.dct ds)) s = .ok (.int ds.length) s := nr rfl
def isaR (T : String) (o : Option Cell) (s : S) : Res D := match o with
  | some (.lst _) => .ok (.bl (isaT T "list")) s
  | some (.dct _) => .ok (.bl (isaT T "dict")) s
  | _ => .bad
theorem x_isaC {T : String} {n : Nat} {s : S} : isaM T (.cell n) s = isaR T s.vh[n]? s := by
  unfold isaM isaR tyName
  dsimp only
  cases h : s.vh[n]? with
  | none => rfl
  | some c => cases c <;> rfl
theorem x_isaR {T : String} {ds : List D} {s : S} : isaR T (some (.lst ds)) s = .ok (.bl (isaT T "list")) s := nr rfl
theorem x_isaRd {T : String} {ds : List (Key × D)} {s : S} : isaR T (some (.dct ds)) s = .ok (.bl (isaT T "dict")) s := nr rfl
theorem litD (s : String) : D.str (Str.ofString s) = D.str (tx (cd s)) := by rw [lit]
theorem x_lstO {ds : List D} {s : S} : lstOf s (.lst ds) = some ds := nr rfl
/-! sorted, ints -/
theorem intsOf_map : ∀ ns : List Int, intsOf (ns.map D.int) = some ns
  | [] => rfl
  | n :: r => by rw [List.map_cons, intsOf, intsOf_map r]; rfl
theorem x_sortSet {ns : List Int} {s : S} (h : ns.length < 64) : sortSetM (.lst (ns.map D.int)) s = .ok (.lst ((setZ ns).map D.int)) s := by
  unfold sortSetM lstOf
  dsimp only
  rw [intsOf_map]
  dsimp only
  rw [if_pos h]
theorem intKs_map (v : Int → D) : ∀ ns : List Int, intKs (ns.map fun n => (Sum.inl n, v n)) = some ns
  | [] => rfl
  | n :: r => by rw [List.map_cons, intKs, intKs_map v r]; rfl
theorem x_sortD {n : Nat} {ns : List Int} {v : Int → D} {s : S} (h : s.vh[n]? = some (.dct (ns.map fun n => (Sum.inl n, v n)))) (hl : ns.length < 64) : sortedM [.cell n] s = .ok (.lst ((sortZ ns).map D.int)) s := by
  have e1 : sortI1 [.cell n] s = .bad := by unfold sortI1 lstOf; dsimp only; rw [h]
  have e2 : sortI2 [.cell n] s = .bad := by unfold sortI2 lstOf; dsimp only; rw [h]
  have e3 : sortI3 [.cell n] s = .ok (.lst ((sortZ ns).map D.int)) s := by
    unfold sortI3 dctR
    dsimp only
    rw [h]
    dsimp only
    rw [intKs_map]
    dsimp only
    rw [if_pos hl]
  unfold sortedM
  rw [x_alt, x_alt, e1, x_altB, e2, x_altB, x_alt, e3, x_altO]
theorem x_sortL {ns : List Int} {s : S} : sortedM [.lst (ns.map D.int)] s = .ok (.lst ((sortZ ns).map D.int)) s := by
  have e1 : sortI1 [.lst (ns.map D.int)] s = .ok (.lst ((sortZ ns).map D.int)) s := by unfold sortI1 lstOf; dsimp only; rw [intsOf_map]
  unfold sortedM
  rw [x_alt, x_alt, e1, x_altO, x_altO]
theorem valA_map {α : Type} {v : Int → α} {i : Int} : ∀ {ns : List Int}, valA (ns.map fun n => ((Sum.inl n : Key), v n)) (.inl i) = if i ∈ ns then some (v i) else none
  | [] => by simp [valA]
  | n :: r => by
    have ih := valA_map (v := v) (i := i) (ns := r)
    unfold valA at ih ⊢
    rw [List.map_cons, List.find?_cons]
    by_cases h : n = i
    · subst h; simp
    · rw [decide_eq_false (show ¬ (Sum.inl n : Key) = Sum.inl i from fun z => h (by cases z; rfl))]
      dsimp only
      rw [ih]
      have : ¬ i = n := fun z => h z.symm
      simp [this]
theorem putA_new {α : Type} {v : Int → α} {i : Int} {ns : List Int} (h : i ∉ ns) {x : α} : putA (ns.map fun n => ((Sum.inl n : Key), v n)) (.inl i) x = (ns.map fun n => ((Sum.inl n : Key), v n)) ++ [(.inl i, x)] := by
  unfold putA
  rw [if_neg]
  intro z
  rw [List.any_eq_true] at z
  obtain ⟨kv, h1, h2⟩ := z
  obtain ⟨n, h3, h4⟩ := List.mem_map.mp h1
  subst h4
  have := of_decide_eq_true h2
  cases this
  exact h h3
theorem putA_old {α : Type} {v : Int → α} {i : Int} {ns : List Int} (h : i ∈ ns) : putA (ns.map fun n => ((Sum.inl n : Key), v n)) (.inl i) (v i) = (ns.map fun n => ((Sum.inl n : Key), v n)) := by
  unfold putA
  rw [if_pos]
  · rw [List.map_map]
    refine List.map_congr_left fun n _ => ?_
    show (if (Sum.inl n : Key) = Sum.inl i then ((Sum.inl n : Key), v i) else (Sum.inl n, v n)) = _
    split
    · next e => cases e; rfl
    · rfl
  · rw [List.any_eq_true]
    exact ⟨(.inl i, v i), List.mem_map.mpr ⟨i, h, rfl⟩, decide_eq_true rfl⟩
/-! == of lists of ints -/
theorem pyT_int (i : Int) : pyT (.int i) = some (.int i) := nr rfl
theorem pyL_ints : ∀ ns : List Int, pyL (ns.map D.int) = some (ns.map PyData.int)
  | [] => rfl
  | n :: r => by rw [List.map_cons, pyL, pyL_ints r]; rfl
theorem ints_pl (ns : List Int) : (ns.map D.int) = (ns.map Pl.int).map Pl.d := by rw [List.map_map]; rfl
theorem ints_ok {ns : List Int} : ∀ p ∈ ns.map Pl.int, p.ok := fun p h => by
  obtain ⟨n, _, rfl⟩ := List.mem_map.mp h
  trivial
theorem plI_inj {as bs : List Int} : (as.map Pl.int = bs.map Pl.int) = (as = bs) := by
  refine propext ⟨fun h => ?_, fun h => by rw [h]⟩
  have := congrArg (List.map fun p => match p with | Pl.int i => i | _ => 0) h
  rw [List.map_map, List.map_map] at this
  simpa [Function.comp_def] using this
theorem x_eqIs {as bs : List Int} {s : S} : eqM (.lst (as.map D.int)) (.lst (bs.map D.int)) s = .ok (.bl (decide (as = bs))) s := by
  rw [ints_pl, ints_pl, x_eqPls ints_ok ints_ok]
  simp only [plI_inj]
theorem x_neIs {as bs : List Int} {s : S} : neM (.lst (as.map D.int)) (.lst (bs.map D.int)) s = .ok (.bl (!decide (as = bs))) s := by
  rw [ints_pl, ints_pl, x_nePls ints_ok ints_ok]
  simp only [plI_inj]
theorem pyD_cellI {n : Nat} {ns : List Int} {s : S} (h : s.vh[n]? = some (.lst (ns.map D.int))) : pyD s (.cell n) = pyD s (.lst (ns.map D.int)) := by
  unfold pyD
  dsimp only
  rw [h]
  dsimp only
  rw [pyL_ints, pyT, pyL_ints]
theorem x_eqCI {n : Nat} {as bs : List Int} {s : S} (h : s.vh[n]? = some (.lst (as.map D.int))) : eqM (.cell n) (.lst (bs.map D.int)) s = .ok (.bl (decide (as = bs))) s := by
  rw [← x_eqIs (s := s)]
  show eqD _ _ s = eqD _ _ s
  unfold eqD
  rw [pyD_cellI h]
theorem x_neCI {n : Nat} {as bs : List Int} {s : S} (h : s.vh[n]? = some (.lst (as.map D.int))) : neM (.cell n) (.lst (bs.map D.int)) s = .ok (.bl (!decide (as = bs))) s := by
  rw [← x_neIs (s := s)]
  show neD _ _ s = neD _ _ s
  unfold neD
  rw [pyD_cellI h]
/-! a def that hands back a new cell -/
theorem runN_of {n : Nat} {g : M Out} {ds : List D} {vh more : List Cell} {k : Nat} {c : Cell} (h : ∃ l, g (initS n ds vh) = .ok (.rt (.cell (vh.length + k))) ⟨l, vh ++ more⟩) (hk : more[k]? = some c) (hc : ncC vh.length c = true) : runN n g ds vh = some c := by
  obtain ⟨l, h⟩ := h
  unfold runN
  rw [h]
  show finN vh ⟨l, vh ++ more⟩ (.cell (vh.length + k)) = some c
  unfold finN
  dsimp only
  rw [if_pos (by exact List.take_left), if_pos (by omega), List.getElem?_append_right (by omega), Nat.add_sub_cancel_left, hk]
  dsimp only
  rw [if_pos hc]
theorem runW_of {n : Nat} {g : M Out} {ds : List D} {vh vh2 more : List Cell} {d : D} (h : ∃ l, g (initS n ds vh) = .ok (.rt d) ⟨l, vh2 ++ more⟩) (hl : vh2.length = vh.length) (hd : nc vh.length d = true) (hc : ∀ c ∈ vh2, ncC vh.length c = true) : runW n g ds vh = some (d, vh2) := by
  obtain ⟨l, h⟩ := h
  unfold runW
  rw [h]
  show finW vh.length ⟨l, vh2 ++ more⟩ d = _
  unfold finW
  have e : (vh2 ++ more).take vh.length = vh2 := by rw [← hl]; exact List.take_left
  dsimp only
  rw [if_pos (by rw [List.length_append]; omega), e, if_pos (List.all_eq_true.mpr hc), if_pos hd]
theorem runW_nx {n : Nat} {g : M Out} {ds : List D} {vh vh2 more : List Cell} (h : ∃ l, g (initS n ds vh) = .ok .nx ⟨l, vh2 ++ more⟩) (hl : vh2.length = vh.length) (hc : ∀ c ∈ vh2, ncC vh.length c = true) : runW n g ds vh = some (.non, vh2) := by
  obtain ⟨l, h⟩ := h
  unfold runW
  rw [h]
  show finW vh.length ⟨l, vh2 ++ more⟩ .non = _
  unfold finW
  have e : (vh2 ++ more).take vh.length = vh2 := by rw [← hl]; exact List.take_left
  dsimp only
  rw [if_pos (by rw [List.length_append]; omega), e, if_pos (List.all_eq_true.mpr hc), if_pos (by rfl)]
theorem runS_of {n : Nat} {g : M Out} {ds : List D} {vh vh2 : List Cell} {d : D} (h : ∃ l, g (initS n ds vh) = .ok (.rt d) ⟨l, vh2⟩) : runS n g ds vh = some (d, vh2) := by
  obtain ⟨l, h⟩ := h
  unfold runS
  rw [h]
theorem runS_nx {n : Nat} {g : M Out} {ds : List D} {vh vh2 : List Cell} (h : ∃ l, g (initS n ds vh) = .ok .nx ⟨l, vh2⟩) : runS n g ds vh = some (.non, vh2) := by
  obtain ⟨l, h⟩ := h
  unfold runS
  rw [h]
theorem ncL_ints (b : Nat) (ns : List Int) : ncL b (ns.map D.int) = true := by
  induction ns with
  | nil => rfl
  | cons n r ih =>
    show (nc b (.int n) && ncL b (r.map D.int)) = true
    rw [ih]; rfl
/-! comprehensions, over anything -/
theorem lc_gen0 {α : Type} {ok : S → Prop} {i : Nat} {c : M Bool} {e : M D} {l0 l : List (Option D)} {vh : List Cell} {g v : α → D} {p : α → Bool} (hok : ∀ l, ok ⟨l, vh⟩) : ∀ (as : List α) (acc : List D), (acc.length + as.length ≤ 16777216) →
    (∀ a ∈ as, ∃ l1, c ⟨l0.set i (some (g a)), vh⟩ = .ok (p a) ⟨l1, vh⟩ ∧ (p a = true → ∃ l2, e ⟨l1, vh⟩ = .ok (v a) ⟨l2, vh⟩)) →
    lcLoop ok i c e l0 l (as.map g) acc ⟨l0, vh⟩ = .ok (.lst (acc ++ (as.filter p).map v)) ⟨l, vh⟩
  | [], acc, _, _ => by
    rw [List.map_nil]
    unfold lcLoop
    rw [if_pos (hok l0)]
    simp
  | a :: as, acc, hl, h => by
    obtain ⟨l1, h1, h2⟩ := h a List.mem_cons_self
    have hlen : acc.length < sizeLine := Nat.lt_of_lt_of_le (show acc.length < 16777216 by simp at hl; omega) (by decide)
    rw [List.map_cons]
    unfold lcLoop
    rw [if_pos ⟨hok l0, hlen⟩]
    cases hq : p a with
    | false =>
      rw [hq] at h1
      have e1 : c { (⟨l0, vh⟩ : S) with loc := l0.set i (some (g a)) } = .ok false ⟨l1, vh⟩ := h1
      rw [e1]
      have := lc_gen0 (l := l) (v := v) hok as acc (by simp at hl; omega) (fun b hb => h b (List.mem_cons_of_mem _ hb))
      rw [List.filter_cons, if_neg (by rw [hq]; decide)]
      exact this
    | true =>
      rw [hq] at h1
      obtain ⟨l2, h3⟩ := h2 hq
      have e1 : c { (⟨l0, vh⟩ : S) with loc := l0.set i (some (g a)) } = .ok true ⟨l1, vh⟩ := h1
      rw [e1]
      dsimp only
      rw [h3]
      have := lc_gen0 (l := l) (v := v) hok as (acc ++ [v a]) (by simp at hl ⊢; omega) (fun b hb => h b (List.mem_cons_of_mem _ hb))
      rw [List.filter_cons, if_pos hq, List.map_cons]
      simpa using this
theorem lc_gen {α : Type} {f : M Wk} {i : Nat} {c : M Bool} {e : M D} {l : List (Option D)} {vh : List Cell} {ok : S → Prop} (as : List α) (g v : α → D) (p : α → Bool) (hf : f ⟨l, vh⟩ = .ok ⟨as.map g, ok⟩ ⟨l, vh⟩) (hok : ∀ l, ok ⟨l, vh⟩) (hl : as.length ≤ 16777216)
    (h : ∀ a ∈ as, ∃ l1, c ⟨(l.set i none).set i (some (g a)), vh⟩ = .ok (p a) ⟨l1, vh⟩ ∧ (p a = true → ∃ l2, e ⟨l1, vh⟩ = .ok (v a) ⟨l2, vh⟩)) : lcM f i c e ⟨l, vh⟩ = .ok (.lst ((as.filter p).map v)) ⟨l, vh⟩ := by
  unfold lcM
  rw [bnd_ok hf]
  have := lc_gen0 (l := l) (v := v) hok as [] (by simpa using hl) h
  simpa using this
theorem lc_pure {α : Type} {f : M Wk} {i : Nat} {c : M Bool} {e : M D} {l : List (Option D)} {vh : List Cell} {ok : S → Prop} (as : List α) (g v : α → D) (p : α → Bool) (hf : f ⟨l, vh⟩ = .ok ⟨as.map g, ok⟩ ⟨l, vh⟩) (hok : ∀ l, ok ⟨l, vh⟩) (hl : as.length ≤ 16777216)
    (h1 : ∀ a ∈ as, c ⟨(l.set i none).set i (some (g a)), vh⟩ = .ok (p a) ⟨(l.set i none).set i (some (g a)), vh⟩) (h2 : ∀ a ∈ as, p a = true → e ⟨(l.set i none).set i (some (g a)), vh⟩ = .ok (v a) ⟨(l.set i none).set i (some (g a)), vh⟩) : lcM f i c e ⟨l, vh⟩ = .ok (.lst ((as.filter p).map v)) ⟨l, vh⟩ :=
  lc_gen as g v p hf hok hl fun a ha => ⟨_, h1 a ha, fun q => ⟨_, h2 a ha q⟩⟩
end Fx

/-! Fx: max of a list, list(range), three names in a target -/
namespace Fx
open PySem PySem.Spec PyProof.Rows L2
variable {X : Cx} {W : WX}
def maxZ : List Int → Int
  | [] => 0
  | [a] => a
  | a :: b :: r => max a (maxZ (b :: r))
theorem maxZ_in : ∀ {ns : List Int}, ns ≠ [] → maxZ ns ∈ ns ∧ ∀ y ∈ ns, y ≤ maxZ ns
  | [a], _ => by simp [maxZ]
  | a :: b :: r, _ => by
    obtain ⟨h1, h2⟩ := maxZ_in (ns := b :: r) (by simp)
    have e : maxZ (a :: b :: r) = max a (maxZ (b :: r)) := rfl
    rw [e]
    refine ⟨?_, fun y hy => ?_⟩
    · rcases Int.le_total a (maxZ (b :: r)) with h | h
      · rw [Int.max_eq_right h]; exact List.mem_cons_of_mem _ h1
      · rw [Int.max_eq_left h]; exact List.mem_cons_self
    · rcases List.mem_cons.mp hy with q | q
      · rw [q]; exact Int.le_max_left _ _
      · exact Int.le_trans (h2 y q) (Int.le_max_right _ _)
theorem maxZ_eq {ns : List Int} {m : Int} (h : m ∈ ns) (k : ∀ y ∈ ns, y ≤ m) : m = maxZ ns := by
  have hn : ns ≠ [] := fun z => by rw [z] at h; cases h
  obtain ⟨h1, h2⟩ := maxZ_in hn
  have := k _ h1
  have := h2 _ h
  omega
def maxlM : List D → M D
  | [d] => fun s => match lstOf s d with
    | some ds => match intsOf ds with
      | some ns => if ns = [] then .bad else .ok (.int (maxZ ns)) s
      | none => .bad
    | none => .bad
  | _ => fail
theorem rc_maxl : RCal X (rMax X.K) maxlM := by
  intro W w H σ s vs ds Q R r p
  unfold maxlM at p
  split at p
  · next d =>
    obtain ⟨v, rfl, rv⟩ := one_of r
    split at p
    · next es he =>
      split at p
      · next ns hn =>
        split at p
        · exact p.elim
        · next hne =>
          obtain ⟨a, us, rfl, h1, h2⟩ := R.list rv he
          rw [ints_rep' h2 hn] at h1
          refine ⟨a, ns, rfl, h1, List.length_pos_iff.mpr hne, fun m hm hk => ?_⟩
          rw [maxZ_eq hm hk]
          exact Post.here p R (Rep.int _)
      · exact p.elim
    · exact p.elim
  · exact p.elim
theorem de_maxl {e : Expr} {fs : M (List D)} {p pos : Pos} (hm : X.mg "max" = none) (ha : DA X W [e] fs) (hc : X.calm = true := by rfl) (hg : Gl X "max" := by rfl) (he : starEach [e] X.env = (false, eval e X.env) :: starEach [] X.env := by rfl) (hpl : (backTo pos (starEach [] X.env)).any (·.1) = false := by rfl) :
    DE X W (.Call (.Name "max" p) [e] [] pos) (bnd fs maxlM) := de_callB (cr_max hc) rc_maxl hm ha (by decide +kernel) hg (by decide) (by decide) he hpl
theorem x_maxl {ns : List Int} {s : S} (h : ns ≠ []) : maxlM [.lst (ns.map D.int)] s = .ok (.int (maxZ ns)) s := by
  unfold maxlM lstOf
  dsimp only
  rw [intsOf_map]
  dsimp only
  rw [if_neg h]
/-! for a, b, c in .. -/
def unp3 (i j k : Nat) (d : D) : M Out := fun s => match d with
  | .tup [x, y, z] => .ok .nx { s with loc := ((s.loc.set i (some x)).set j (some y)).set k (some z) }
  | _ => .bad
theorem dg_three {i j k : Nat} {x y z : Str} {kk : Nat} {p1 p2 p3 pos : Pos} (hc : X.calm = true) (hN : X.N.Nodup) (hi : X.N[i]? = some x := by rfl) (hj : X.N[j]? = some y := by rfl) (hk : X.N[k]? = some z := by rfl) (hx : Loc X.env.scope x := by first | exact Or.inl rfl | exact Or.inr rfl) (hy : Loc X.env.scope y := by first | exact Or.inl rfl | exact Or.inr rfl) (hz : Loc X.env.scope z := by first | exact Or.inl rfl | exact Or.inr rfl)
    (hf : X.fn x = true ∨ X.env.scope.names.lookup x = some .local := by first | exact .inl rfl | exact .inr rfl) (hf2 : X.fn y = true ∨ X.env.scope.names.lookup y = some .local := by first | exact .inl rfl | exact .inr rfl) (hf3 : X.fn z = true ∨ X.env.scope.names.lookup z = some .local := by first | exact .inl rfl | exact .inr rfl)
    (hn : (assignEach [.Name x p1, .Name y p2, .Name z p3] X.env).length = 3 := by rfl) (hst : (assignEach [.Name x p1, .Name y p2, .Name z p3] X.env).findIdx? (·.1) = none := by rfl)
    (hs1 : (assignEach [.Name x p1, .Name y p2, .Name z p3] X.env).map (·.2) = assign (.Name x p1) X.env :: (assignEach [.Name y p2, .Name z p3] X.env).map (·.2) := by rfl) (hs2 : (assignEach [.Name y p2, .Name z p3] X.env).map (·.2) = assign (.Name y p2) X.env :: (assignEach [.Name z p3] X.env).map (·.2) := by rfl)
    (hs3 : (assignEach [.Name z p3] X.env).map (·.2) = assign (.Name z p3) X.env :: (assignEach [] X.env).map (·.2) := by rfl) :
    DG X (.Tuple [.Name x p1, .Name y p2, .Name z p3] kk pos) (unp3 i j k) := by
  refine ⟨_, pg_tup hc (pgs_cons (pg_name hN hi hx hf) (pgs_cons (pg_name hN hj hy hf2) (pgs_cons (pg_name hN hk hz hf3) pgs_nil hs3) hs2) hs1) hn hst, fun w H σ s v d Q R r p => ?_⟩
  unfold unp3 at p
  split at p
  · next d1 d2 d3 =>
    obtain ⟨a, vs, rfl, h1, h2⟩ := R.tuple r (ds := [d1, d2, d3]) rfl
    cases h2 with
    | cons r1 t1 =>
      cases t1 with
      | cons r2 t2 =>
        cases t2 with
        | cons r3 t3 =>
          cases t3
          exact ⟨a, _, rfl, h1, rfl, _, _, rfl, _, _, rfl, _, _, rfl, rfl, p w H _ (Le.refl _ _) (((R.set r1).set r2).set r3)⟩
  · exact p.elim
theorem unp3_ok {i j k : Nat} (d : D) (s : S) : (∃ s', unp3 i j k d s = .ok .nx s') ∨ unp3 i j k d s = .bad := by
  unfold unp3
  split
  · exact .inl ⟨_, rfl⟩
  · exact .inr rfl
/-! list(range(n)) -/
def listRan : List D → M Cell
  | [.int n] => fun s => if 0 ≤ n ∧ n ≤ 16777216 then .ok (.lst (ranD 0 n.toNat)) s else .bad
  | _ => fail
theorem dn_listRan {e : Expr} {fs : M D} {p q pos pos2 : Pos} (hm : X.mg "list" = none) (hm2 : X.mg "range" = none) (ha : DE X W e fs) (hc : X.calm = true := by rfl) (hg : Gl X "list" := by rfl) (hg2 : Gl X "range" := by rfl) (he : starEach [e] X.env = (false, eval e X.env) :: starEach [] X.env := by rfl)
    (he2 : starEach [Expr.Call (.Name "range" q) [e] [] pos2] X.env = (false, eval (Expr.Call (.Name "range" q) [e] [] pos2) X.env) :: starEach [] X.env := by rfl) :
    DN X W (.Call (.Name "list" p) [.Call (.Name "range" q) [e] [] pos2] [] pos) (bnd fs fun d => listRan [d]) := by
  obtain ⟨t, pe, r⟩ := ha
  refine ⟨_, pe_listRg hc hg hm (prg_1 hg2 hm2 pe he) he2, fun w H σ s Q R z => ?_⟩
  refine r.bnd R z fun d s1 w1 H1 v l1 R1 r1 p1 => ?_
  cases r1 with
  | int n =>
    have p1 : Post X.K W (pN X.K) w1 H1 σ (if 0 ≤ n ∧ n ≤ 16777216 then Res.ok (Cell.lst (ranD 0 n.toNat)) s1 else .bad) Q := p1
    split at p1
    · next hn =>
      refine ⟨n, rfl, RgOk.of_le (by omega) hn.2 (by omega) hn.1, fun q hq => ?_⟩
      have e1 : rgV 0 n = (List.range n.toNat).map fun i : Nat => V.int (0 + (i : Int)) := by unfold rgV; rw [Int.sub_zero]
      rw [e1]
      refine R1.giveL ?_ p1 hq
      unfold ranD
      have : ∀ ks : List Nat, RepL X.K w1 (ks.map fun i : Nat => V.int (0 + (i : Int))) (ks.map fun i : Nat => D.int (0 + (i : Int))) := fun ks => by
        induction ks with
        | nil => exact .nil
        | cons k r ih => exact .cons (.int _) ih
      exact this _
    · exact p1.elim
  | _ => exact p1.elim
theorem x_intB {b : Bool} {s : S} : intM [.bl b] s = .ok (.int (if b = true then 1 else 0)) s := by cases b <;> rfl
theorem x_intI {i : Int} {s : S} : intM [.int i] s = .ok (.int i) s := nr rfl
theorem at_last {α : Type} {xs : List α} {z : α} : atI (xs ++ [z]) (-1) = some z := by
  unfold atI
  rw [show ixN (xs ++ [z]).length (-1) = some xs.length by rw [List.length_append, List.length_singleton]; simp [ixN] <;> omega]
  simp
end Fx

/-! Fx: list(reversed(a list)) -/
namespace RT
open PySem PySem.Spec PyProof.Rows L2
section
variable {prog : Program} {w : World} {A : Around} {E : Value → Shared → Prop} {s : Shared}
theorem ext_rev {R : Result → Shared → Prop} {it l : Addr} {items : Array Value} (hh : A.handled = none) (hit : s.heap.IsRevIter it l ((items.size : Int) - 1)) (hl : s.heap.IsList l items) (hne : l ≠ it) (hn : items.size ≤ sizeLine)
    (S : Addr) (res : Value) (c₀ : Nat) (hS : s.heap.get? S = some { cls := .type "list", data := .seq #[] c₀ }) (hSi : S ≠ it) (hSl : S ≠ l)
    (hR : ∀ h' tk acc' c', (∀ b o, b ≠ S → b ≠ it → s.heap.get? b = some o → h'.get? b = some o) → h'.get? S = some { cls := .type "list", dict := none, data := .seq acc' c', slots := #[] } →
      ItemsOf (fun i v => items[items.size - 1 - i]? = some v) acc' items.size → R (.ok (.ret res)) { s with heap := h', toks := tk }) :
    wpAny (model prog w) A.in1 (Builtin.List.listExtendWith (.ref S) (.ref it) res)
      (fun fin s' => match fin with | .done f => R (.ok f) s' | .again c' => c'.quiet = true ∧ codeAny (model prog w) A c' R s') (fun e s' => R (.error e) s') s := by
  have W := (Walks.listRev (prog := prog) (w := w) (A := A.in1) hh it l hne items).toS
  have hSf : S ∉ [it, l] := by simp only [List.mem_cons, List.not_mem_nil, or_false, not_or]; exact ⟨hSi, hSl⟩
  have hT : s.TypeIs (.ref it) "list_reverseiterator" := hit.typeIs
  have h1 : Builtin.List.listSameRef (.ref S) (.ref it) = false := by simp [Builtin.List.listSameRef, hSi]
  unfold Builtin.List.listExtendWith
  refine wpAny_bind (wpAny_typeOf hT ?_)
  rw [if_neg (by rw [h1]; decide)]
  refine wpAny_bind (wpAny_pyIter_revIter hit ?_)
  refine wpAny_bind (wpAny_holding ?_)
  unfold Builtin.List.listLengthHint
  refine wpAny_bind (wpAny_specialOf hT nolen_lri ?_)
  show wpAny _ A.in1 (specialOf (Value.ref it) (Str.ofString "__length_hint__") >>= _) _ _ _
  refine wpAny_bind (wpAny_specialOf hT hint_lri ?_)
  generalize hid : ("list_reverseiterator.__length_hint__" : String) = id0
  wp_delta
  rw [show splitId id0 = some ("list_reverseiterator", "__length_hint__") from by subst hid; decide +kernel]
  subst hid
  refine wpAny_bind (wpAny_isInstance (b := true) hT (by rw [isSubtype_type]; kernel_rfl) ?_)
  refine wpAny_pure ?_
  rw [if_neg (by decide)]
  have e0 : ((items.size : Nat) : Int) - 1 - ((0 : Nat) : Int) = (items.size : Int) - 1 := by omega
  refine wpAny_pure ⟨plainId_quiet F.plain_extend_loop _, codeAny_extend_loopS W hn S hSf res items.size 0 _ #[] c₀ rfl (Nat.zero_le _) ⟨Nat.zero_le _, by rw [e0]; exact hit, hl⟩ hS (ItemsOf.nil _) fun s' acc' c' hm hS' hacc => ?_⟩
  rw [Moved.eq_with hm]
  refine hR s'.heap s'.toks acc' c' (fun b o hb hi e => hm.heap b o (fun hmem => ?_) e) hS' hacc
  rcases List.mem_cons.mp hmem with e' | hmem
  · exact hb e'
  · exact hi (List.mem_singleton.mp hmem)
theorem init_rev {R : Result → Shared → Prop} {it l : Addr} {items : Array Value} (hh : A.handled = none) (hit : s.heap.IsRevIter it l ((items.size : Int) - 1)) (hl : s.heap.IsList l items) (hne : l ≠ it) (hn : items.size ≤ sizeLine)
    (S : Addr) (hS : s.heap.get? S = some { cls := .type "list", data := .seq #[] }) (hSi : S ≠ it) (hSl : S ≠ l)
    (hR : ∀ h' tk acc' c', (∀ b o, b ≠ S → b ≠ it → s.heap.get? b = some o → h'.get? b = some o) → h'.get? S = some { cls := .type "list", dict := none, data := .seq acc' c', slots := #[] } →
      ItemsOf (fun i v => items[items.size - 1 - i]? = some v) acc' items.size → R (.ok (.ret .none)) { s with heap := h', toks := tk }) :
    wpAny (model prog w) A.in1 (Builtin.«list.__init__» ⟨[.ref S, .ref it], []⟩)
      (fun fin s' => match fin with | .done f => R (.ok f) s' | .again c' => c'.quiet = true ∧ codeAny (model prog w) A c' R s') (fun e s' => R (.error e) s') s := by
  show wpAny _ _ (do let old ← Builtin.List.listItems (.ref S); Builtin.List.listUpdate (.ref S) (fun _ => #[]); letGo old.toList.reverse; Builtin.List.listExtendWith (.ref S) (.ref it) .none) _ _ s
  refine wpAny_bind ?_
  unfold Builtin.List.listItems
  refine wpAny_bind (wpAny_seqItems hS rfl (wpAny_pure ?_))
  show wpAny _ _ (updateSeq S (fun _ => #[]) >>= fun _ => letGo (#[] : Array Value).toList.reverse >>= fun _ => Builtin.List.listExtendWith (.ref S) (.ref it) .none) _ _ s
  refine wpAny_bind (wpAny_updateSeq hS rfl ?_)
  have hS₂ := Heap.get?_update_self (Obj.mapSeq (fun _ => (#[] : Array Value))) hS rfl
  have oth : ∀ b o, b ≠ S → s.heap.get? b = some o → (s.heap.update S (Obj.mapSeq (fun _ => (#[] : Array Value)))).get? b = some o :=
    fun b o hb e => (Heap.get?_update_other _ _ (Ne.symm hb)).trans e
  refine wpAny_bind (wpAny_letGo ?_)
  refine ext_rev hh (hit.at fun o e => oth it o (Ne.symm hSi) e) ?_ hne hn S .none _ hS₂ hSi hSl fun h' tk acc' c' hk hS' hacc => ?_
  · obtain ⟨o, e, k⟩ := hl
    exact ⟨o, oth l o (Ne.symm hSl) e, k⟩
  · exact hR h' tk acc' c' (fun b o hb hi e => hk b o hb hi (oth b o hb e)) hS' hacc
theorem call_list_rev {Q : Value → Shared → Prop} {it l : Addr} {items : Array Value} (hh : A.handled = none) (hit : s.heap.IsRevIter it l ((items.size : Int) - 1)) (hl : s.heap.IsList l items) (hne : l ≠ it) (hn : items.size ≤ sizeLine)
    (hQ : ∀ h' tk acc' c', (∀ b o, b ≠ it → s.heap.get? b = some o → h'.get? b = some o) →
      h'.get? s.heap.objs.size = some { cls := .type "list", dict := none, data := .seq acc' c', slots := #[] } → ItemsOf (fun i v => items[items.size - 1 - i]? = some v) acc' items.size → Q (.ref s.heap.objs.size) { s with heap := h', toks := tk }) :
    wpAny (model prog w) A (call (.type "list") [.ref it]) Q E s := by
  refine callType_codes (Q₁ := fun obj s₁ => obj = .ref s.heap.objs.size ∧ s₁ = { s with heap := s.heap.push { cls := .type "list", data := .seq #[] } }) F.called_list (F.typeCall_list_1 _) F.entry_list_init
    (code_list_new _ ⟨rfl, rfl⟩) fun obj s₁ h₁ => ?_
  obtain ⟨rfl, rfl⟩ := h₁
  obtain ⟨oi, hoi, _⟩ := id hit
  obtain ⟨ol, hol, _⟩ := id hl
  have hS : (s.heap.push { cls := .type "list", data := .seq #[] }).get? s.heap.objs.size = some { cls := .type "list", data := .seq #[] } := Heap.get?_push_size _ rfl
  refine ⟨⟨_, hS, rfl⟩, F.args_list_init_2 _ _, init_rev (A := A.in1) hh (hit.at fun o e => Heap.get?_push_of_some _ e) (hl.push _) hne hn _ hS (Nat.ne_of_gt (Heap.lt_size hoi)) (Nat.ne_of_gt (Heap.lt_size hol)) fun h' tk acc' c' hk hS' hacc => ?_⟩
  exact ⟨rfl, hQ h' tk acc' c' (fun b o hb e => hk b o (Nat.ne_of_lt (Heap.lt_size e)) hb (Heap.get?_push_of_some _ e)) hS' hacc⟩
end
/-- list(reversed(x)), x a list: a new list -/
def tLstRev (K : PySem.W.Frag) (te : TE) : TE := fun σ H Q => te σ H fun v H1 => ∃ (a : Addr) (xs : List V), v = .ref a ∧ SqL K H1 a xs ∧ ∀ q, H1 q = none → Q (.ref q) (upd H1 q (.lst xs.reverse))
section
variable {X : Cx}
theorem pe_lstRev {e : Expr} {te : TE} {p p2 pos pos2 : Pos} (hc : X.calm = true) (hg : Gl X "list") (hm : X.mg "list" = none) (hg2 : Gl X "reversed") (hm2 : X.mg "reversed" = none) (he : PE X e te)
    (hs : starEach [e] X.env = (false, eval e X.env) :: starEach [] X.env := by rfl)
    (hs2 : starEach [.Call (.Name "reversed" p2) [e] [] pos2] X.env = (false, eval (.Call (.Name "reversed" p2) [e] [] pos2) X.env) :: starEach [] X.env := by rfl) :
    PE X (.Call (.Name "list" p) [.Call (.Name "reversed" p2) [e] [] pos2] [] pos) (tLstRev X.K te) := by
  refine ⟨fun pins s σ H Q I h => ?_⟩
  refine Call_ (ld_blt I hg hm boot_list (PyProof.Rows.callWith_type1 (args_cons (Call_ (ld_blt I hg2 hm2 PyProof.Rows.boot_reversed (PyProof.Rows.callWith_type1 (args_cons (thn (he.run pins s σ H _ I h) fun u s1 ⟨v, H1, I1, r1, q1⟩ => args_nil ?_) hs) hs rfl))) hs2) hs2 rfl))
  obtain ⟨a, xs, ev, hq, q⟩ := q1
  subst ev
  obtain rfl : u = Value.ref a := r1
  obtain ⟨its, rv, p', hz⟩ := I1.list hq
  refine call_reversed_list p'.isList (args_nil ?_)
  have k0 : ∀ b o, s1.heap.get? b = some o → (s1.heap.push (revObj a ((its.toArray.size : Int) - 1))).get? b = some o := fun b o e => Heap.get?_push_of_some _ e
  have I2 : Inv X pins σ H1 { s1 with heap := s1.heap.push (revObj a ((its.toArray.size : Int) - 1)) } := I1.kept (t' := s1.toks) k0
  obtain ⟨f0, f1, f2, f3, f4, f5⟩ := I1.fpOk (H' := H1) (b := s1.heap.objs.size) (Nat.le_refl _) (I1.hok.fresh (Nat.le_refl _))
  have hl := p'.isList
  obtain ⟨ol, hol, _⟩ := id hl
  have hne : a ≠ s1.heap.objs.size := Nat.ne_of_lt (Heap.lt_size hol)
  have hn : its.toArray.size ≤ sizeLine := by rw [List.size_toArray, ← rv.length]; exact hz
  refine call_list_rev (s := { s1 with heap := s1.heap.push (revObj a ((its.toArray.size : Int) - 1)) }) (I1.ok.hd hc) ⟨_, Heap.get?_push_size _ rfl, rfl, rfl⟩ (hl.push _) hne hn fun h' tk acc c' hk e' hi => ?_
  refine ⟨.ref (s1.heap.push (revObj a ((its.toArray.size : Int) - 1))).objs.size, upd H1 (s1.heap.push (revObj a ((its.toArray.size : Int) - 1))).objs.size (.lst xs.reverse), I2.turnedNew (t' := tk) (ch := [s1.heap.objs.size]) (fun b o hb e => hk b o (fun z => hb (by simp [z])) e) (fun b hb => ?_) (Nat.le_refl _)
    (show ObjOk X.prog X.w _ _ _ (.lst xs.reverse) from ⟨by rw [List.length_reverse]; exact hz, acc.toList, c', vals_rev rv hi, ?_⟩), rfl, q _ (I2.hok.fresh (Nat.le_refl _))⟩
  · obtain rfl : b = s1.heap.objs.size := by simpa using hb
    exact ⟨f0, f1, f2, f3, f4, f5⟩
  · rw [Array.toArray_toList]; exact e'
end
end RT
namespace Fx
open PySem PySem.Spec PyProof.Rows L2
variable {X : Cx} {W : WX}
def listRev : D → M Cell := fun d s => match lstOf s d with
  | some ds => .ok (.lst ds.reverse) s
  | none => .bad
theorem repL_rev {K : PySem.W.Frag} {w : Wd} : ∀ {vs : List V} {ds : List D}, RepL K w vs ds → RepL K w vs.reverse ds.reverse
  | [], [], _ => .nil
  | v :: vs, d :: ds, h => by
    cases h with
    | cons r t => rw [List.reverse_cons, List.reverse_cons]; exact (repL_rev t).append (.cons r .nil)
theorem dn_listRev {e : Expr} {f : M D} {p p2 pos pos2 : Pos} (hm : X.mg "list" = none) (hm2 : X.mg "reversed" = none) (he : DE X W e f) (hc : X.calm = true := by rfl) (hg : Gl X "list" := by rfl) (hg2 : Gl X "reversed" := by rfl)
    (hs : starEach [e] X.env = (false, eval e X.env) :: starEach [] X.env := by rfl)
    (hs2 : starEach [Expr.Call (.Name "reversed" p2) [e] [] pos2] X.env = (false, eval (.Call (.Name "reversed" p2) [e] [] pos2) X.env) :: starEach [] X.env := by rfl) :
    DN X W (.Call (.Name "list" p) [.Call (.Name "reversed" p2) [e] [] pos2] [] pos) (bnd f listRev) := by
  obtain ⟨t, pe, r⟩ := he
  refine ⟨_, RT.pe_lstRev hc hg hm hg2 hm2 pe hs hs2, fun w H σ s Q R z => ?_⟩
  refine r.bnd R z fun d s1 w1 H1 v l1 R1 r1 p1 => ?_
  unfold listRev at p1
  split at p1
  · next ds hd =>
    obtain ⟨a, us, rfl, h1, h2⟩ := R1.list r1 hd
    exact ⟨a, us, rfl, h1, fun q hq => R1.giveL (repL_rev h2) p1 hq⟩
  · exact p1.elim
theorem x_listRevC {n : Nat} {ds : List D} {s : S} (h : s.vh[n]? = some (.lst ds)) : listRev (.cell n) s = .ok (.lst ds.reverse) s := by
  unfold listRev lstOf
  dsimp only
  rw [h]
theorem x_slVC {n : Nat} {ds : List D} {l u : Option Int} {s : S} (h : s.vh[n]? = some (.lst ds)) : slV (.cell n) l u s = .ok (.lst (cutD ds l u)) s := by
  unfold slV lstOf
  dsimp only
  rw [h]
theorem x_zipL {xs ys : List D} {s : S} : zipA [.lst xs, .lst ys] s = .ok ⟨List.zipWith D.pr xs ys, fun _ => True⟩ s := by
  have h : (fun s' : S => lstOf s' (.lst xs) = some xs ∧ lstOf s' (.lst ys) = some ys) = fun _ => True := funext fun s' => propext ⟨fun _ => trivial, fun _ => ⟨rfl, rfl⟩⟩
  show Res.ok (Wk.mk _ (fun s' : S => lstOf s' (.lst xs) = some xs ∧ lstOf s' (.lst ys) = some ys)) s = _
  rw [h]
theorem x_is6 {i : Nat} {s : S} : isM (.cell i) .non s = .ok (.bl false) s := nr rfl
theorem x_isn6 {i : Nat} {s : S} : isnotM (.cell i) .non s = .ok (.bl true) s := nr rfl
theorem cut_last (xs : List D) : cutD xs none (some (-1)) = xs.dropLast := by
  have h : HT.sIx xs.length xs.length (some (-1)) = xs.length - 1 := by
    have h1 : HT.sIx xs.length xs.length (some (-1)) = if (-1 : Int) < 0 then ((-1 : Int) + (xs.length : Int)).toNat else min (-1 : Int).toNat xs.length := rfl
    rw [h1, if_pos (by decide)]
    omega
  unfold cutD
  rw [HT.sIx_none, h, List.drop_zero, Nat.sub_zero, List.dropLast_eq_take]
theorem cut_tail (xs : List D) : cutD xs (some 1) none = xs.drop 1 := cut_drop (n := 1) rfl
theorem x_listC {n : Nat} {ds : List D} {s : S} (h : s.vh[n]? = some (.lst ds)) : listN [.cell n] s = .ok (.lst ds) s := by
  unfold listN lstOf
  dsimp only
  rw [h]
theorem zip_at {xs ys : List D} {i : Nat} {d : D} (h : (List.zipWith D.pr xs ys)[i]? = some d) : ∃ a b, xs[i]? = some a ∧ ys[i]? = some b ∧ d = .pr a b := by
  rw [List.getElem?_zipWith] at h
  split at h
  · next a b h1 h2 => cases h; exact ⟨a, b, h1, h2, rfl⟩
  · cases h
theorem x_listRev {ds : List D} {s : S} : listRev (.lst ds) s = .ok (.lst ds.reverse) s := nr rfl
end Fx

/-! Fx: C.m(self, ..) of a def read off its class; isinstance of own classes; equal data -/
namespace Fx
open PySem PySem.Spec PyProof.Rows L2
variable {X : Cx} {W : WX}
/-- a def m of the class x, read off the class -/
structure CfQ (P : Program) (wd : World) (K : PySem.W.Frag) (mg : Str → Option Value) (base : Heap) (x m : Str) (k : Nat) (sp : Sp) : Prop where
  ex : ∃ (C f : Addr) (fd : FuncData) (ps : List Str), mg x = some (.ref C) ∧ ClX.CRead K C (.type "type") ∧ PySem.W.findCls K (.ref C) (.type "type") m = some (.val (.ref f)) ∧ PySem.W.keepIn K (.ref f) = true ∧ Binds K fd ps [] ∧ FnOk P wd K mg base CX0 k f fd ps sp
section
variable {C f : Addr} {fd : FuncData} {ps : List Str} {mc : Value} {k : Nat} {sp : Sp} {CX : CXT} {x m : Str} {e : Expr} {es : List Expr} {E : XK} {ds : List Value} {dvs : List V} {t : TA} {p pos apos : Pos}
theorem pe_cfn {pl : Sem Bool} (hm : X.mg x = some (.ref C)) (r : ClX.CRead X.K C mc) (hf : PySem.W.findCls X.K (.ref C) mc m = some (.val (.ref f))) (kp : PySem.W.keepIn X.K (.ref f) = true) (F : FnOk X.prog X.w X.K X.mg X.base CX k f fd ps sp)
    (hr : Room k X.A) (hb : Binds X.K fd ps ds) (hd : Vals dvs ds) (hx : Passes CX X E) (ha : PA X (e :: es) t) (hg : Gl X x := by rfl) (hdb : (x == ("__debug__" : Str)) = false := by decide)
    (hst : starEach (e :: es) X.env = (false, eval e X.env) :: starEach es X.env := by rfl) (hpl : (backTo pos (starEach es X.env)).any (·.1) = false := by rfl)
    (ht : eval (.Call (.Attribute (.Name x p) m apos) (e :: es) [] pos) X.env = (do
      let ov ← eval (.Name x p) X.env
      standAt apos.atName
      let (f, first) ← holding [ov] (getMethod ov m pl)
      callWith pos f first (backTo pos (starEach (e :: es) X.env)) (backToKw pos (keywordEach [] X.env))) := by rfl) :
    PE X (.Call (.Attribute (.Name x p) m apos) (e :: es) [] pos) (tCall sp dvs E t) := by
  refine ⟨fun pins s σ H Q I h => ?_⟩
  refine PySem.W.methodCall_KW (pl := pl) (thn ((pe_glob (v := .ref C) hg hm rfl hdb).run pins s σ H (fun y H1 => y = .ref C ∧ tCall sp dvs E t σ H1 Q) I ⟨rfl, h⟩) fun u s1 ⟨y, H1, I1, ry, ey, q⟩ => ?_) ht
  subst ey
  obtain rfl : u = Value.ref C := ry
  refine PySem.W.method_cls I1.kIn r.ga (ClX.getcval_ok (v := .ref f) I1 r ⟨hf, rfl⟩ fun s2 I2 => ?_)
  refine PySem.W.callWith_K (h₀ := X.base) I2.ok.mod.kin kp (thn (ha.run pos pins s2 σ H1 _ I2 q) fun us s3 ⟨vs, H2, I3, r3, q2⟩ => ⟨I3.kIn, ?_⟩) hst hpl
  exact run_fn F hr hb hd hx I3 r3 q2
end
section
variable {α : Type} {P : Pr V α} {sp : Sp} {g : List D → M α} {x m : Str} {k : Nat} {e : Expr} {es : List Expr} {fs : M (List D)} {p pos apos : Pos}
theorem cf_call (F : CfQ X.prog X.w X.K X.mg X.base x m k sp) (A : Ans X.K P sp g) (hr : Room k X.A) (ha : DA X W (e :: es) fs) {pl : Sem Bool} (hg : Gl X x := by rfl) (hdb : (x == ("__debug__" : Str)) = false := by decide)
    (hst : starEach (e :: es) X.env = (false, eval e X.env) :: starEach es X.env := by rfl) (hpl : (backTo pos (starEach es X.env)).any (·.1) = false := by rfl)
    (ht : eval (.Call (.Attribute (.Name x p) m apos) (e :: es) [] pos) X.env = (do
      let ov ← eval (.Name x p) X.env
      standAt apos.atName
      let (f, first) ← holding [ov] (getMethod ov m pl)
      callWith pos f first (backTo pos (starEach (e :: es) X.env)) (backToKw pos (keywordEach [] X.env))) := by rfl) :
    ∃ t, PE X (.Call (.Attribute (.Name x p) m apos) (e :: es) [] pos) t ∧ Fol X.K W P t (bnd fs g) := by
  obtain ⟨C, f, fd, ps, hm, hc, hf, hk, hb, G⟩ := F.ex
  obtain ⟨t, q, r⟩ := ha
  refine ⟨_, pe_cfn (pl := pl) hm hc hf hk G hr hb .nil pass0 q hg hdb hst hpl ht, fun w H σ s Q R z => ?_⟩
  refine r.bnd R z fun ds s1 w1 H1 vs l1 R1 r1 p1 => ?_
  rw [List.append_nil]
  exact A W w1 H1 σ s1 vs ds Q R1 r1 p1
end
structure TopF (K : PySem.W.Frag) (mg : Str → Option Value) (x m q : Str) (st : Stmt) (ps : List Str) : Prop where
  ex : ∃ (C f : Addr) (fd : FuncData), mg x = some (.ref C) ∧ ClX.CRead K C (.type "type") ∧ PySem.W.findCls K (.ref C) (.type "type") m = some (.val (.ref f)) ∧ PySem.W.keepIn K (.ref f) = true ∧ Fun K m q st f fd ∧ Binds K fd ps []
section
variable {P : Program} {wd : World} {K : PySem.W.Frag} {mg : Str → Option Value} {base : Heap} {x m q : Str} {st : Stmt} {N ps : List Str} {k : Nat} {g : M Out}
theorem topF_mk {h : Heap} (X : K.In h) (G : h.Ns mainGlobals mg) {C f : Addr} {oc : Value} {od an : Option Addr} {osl : Array (Option Value)} {kV doc pm cdv ct : Value} (a : PySem.W.nsIn K mainGlobals x = some (some (.ref C))) (rd : PySem.W.readsIn K C (.type "type") = true)
    (sg : PySem.W.specialIn K (.ref C) "__getattribute__" = some (some (.builtin "type.__getattribute__"))) (fi : PySem.W.findCls K (.ref C) (.type "type") m = some (.val (.ref f)))
    (l : K.lookup f = some ⟨oc, od, .func (PySem.W.fnOf m q (defArgs st) (defBody st) (defScope st) .none kV doc pm an cdv ct), osl⟩) (c : PySem.W.codeIn K cdv q = true) (k : PySem.W.keepIn K (.ref f) = true)
    (b : ∀ (kV doc pm : Value) (an : Option Addr) (cdv ct : Value) (us : List Value), us.length = ps.length → bindArgs (PySem.W.fnOf m q (defArgs st) (defBody st) (defScope st) .none kV doc pm an cdv ct) ⟨us, []⟩ = pure (ps.zip us)) : TopF K mg x m q st ps :=
  have F := fun_mk (st := st) l c k
  ⟨C, f, _, PySem.W.mg_of X G a, ⟨rd, sg⟩, fi, k, F, F.binds b⟩
theorem TopF.fnS (T : TopF K mg x m q st ps) (Sc : FnScope N ps (defScope st)) (hle : ps.length ≤ N.length)
    (body : ∀ (f : Addr) (cdv : Value) (A : Around) (outer : List Env) (s : Shared) (H : Hp) (E : XK), Room k (A.deeper (envOfC q (defScope st) s.heap.objs.size f cdv)) →
      DSs (cxOf CX0 P wd K mg base N q (defScope st) f cdv A outer s H E).nox W0 (defBody st) g) : CfQ P wd K mg base x m (k + 1) (SpS K ps.length (runS N.length g)) :=
  let ⟨C, f, fd, a, a2, a3, a4, F, b⟩ := T.ex
  ⟨C, f, fd, ps, a, a2, a3, a4, b, fn_st F Sc hle fun cdv A outer s H E hr => body f cdv A outer s H E hr⟩
end
/-! ### isinstance(x, T), T an own class -/
structure IsoP (K : PySem.W.Frag) (mg : Str → Option Value) (x T : Str) (b : Bool) : Prop where
  ex : ∃ C CT, clsIn K x C ∧ mg T = some (.ref CT) ∧ PySem.W.findIn K (.ref C) "__class__" = some (some (.builtin "object.__class__")) ∧ PySem.W.specialIn K (.builtin "object.__class__") "__get__" = some (some (.builtin "getset_descriptor.__get__")) ∧
    PySem.W.takesIn K (.builtin "object.__class__") = some true ∧ PySem.W.mroIn K C (.type "object") = some true ∧ PySem.W.kitOne K (.ref C) (.ref CT) = some b
def isoM (x : Str) (b : Bool) (d : D) : M D := fun s => if (objOf s x d).isSome then .ok (.bl b) s else .bad
theorem de_iso {x T : Str} {b : Bool} {e : Expr} {f : M D} {p p2 pos : Pos} (hc : ClsP X.K x) (I : IsoP X.K X.mg x T b) (hi : X.mg "isinstance" = none) (h : DE X W e f) (hg : Gl X "isinstance" := by rfl) (hg2 : Gl X T := by rfl) (hd : (T == ("__debug__" : Str)) = false := by decide)
    (hst : starEach [e, .Name T p2] X.env = (false, eval e X.env) :: starEach [.Name T p2] X.env := by rfl) (hst2 : starEach [.Name T p2] X.env = (false, eval (.Name T p2) X.env) :: starEach [] X.env := by rfl)
    (hpl : (backTo pos (starEach [.Name T p2] X.env)).any (·.1) = false := by rfl) :
    DE X W (.Call (.Name "isinstance" p) [e, .Name T p2] [] pos) (bnd f (isoM x b)) := by
  obtain ⟨C, CT, hC, hm, k1, k2, k3, k4, k5⟩ := I.ex
  obtain ⟨t, q, k⟩ := h
  refine ⟨_, pe_callB call_isi hg hi (by decide +kernel) (pa_cons q (pa_cons (pe_glob (v := .ref CT) hg2 hm rfl hd) pa_nil hst2) hst) (by decide) (by decide) hst hpl, fun w H σ s Q R z => ?_⟩
  refine k.bnd R z fun d s1 w1 H1 v l1 R1 r1 p1 => ?_
  unfold isoM at p1
  cases ho : objOf s1 x d with
  | none => rw [ho] at p1; exact p1.elim
  | some gs =>
    rw [ho] at p1
    obtain ⟨n, a, C', dx, vs, e0, e1, h1, h2, h3, h4, h5⟩ := R1.obj r1 ho
    cases hC.eq h3
    exact ⟨v, .ref CT, .ref C, .ref CT, b, rfl, .own CT, by rw [e1]; exact .base (.ins h4 (hc C hC) k1 k2 k3 k4), k5, Post.here p1 R1 (Rep.bl _)⟩
theorem isoP_mk {K : PySem.W.Frag} {mg : Str → Option Value} {h : Heap} (X : K.In h) (G : h.Ns mainGlobals mg) {x T : Str} {b : Bool} {C CT : Addr} (a : PySem.W.nsIn K mainGlobals x = some (some (.ref C))) (aT : PySem.W.nsIn K mainGlobals T = some (some (.ref CT)))
    (k1 : PySem.W.findIn K (.ref C) "__class__" = some (some (.builtin "object.__class__"))) (k2 : PySem.W.specialIn K (.builtin "object.__class__") "__get__" = some (some (.builtin "getset_descriptor.__get__"))) (k3 : PySem.W.takesIn K (.builtin "object.__class__") = some true)
    (k4 : PySem.W.mroIn K C (.type "object") = some true) (k5 : PySem.W.kitOne K (.ref C) (.ref CT) = some b) : IsoP K mg x T b := ⟨C, CT, a, PySem.W.mg_of X G aT, k1, k2, k3, k4, k5⟩
/-! ### equal data -/
mutual
def eqOk : D → Bool
  | .non => true
  | .bl _ => true
  | .int _ => true
  | .str x => PySem.PyData.strOk x
  | .tup xs => eqOkL xs
  | .lst xs => eqOkL xs
  | .cell _ => false
  | .ref _ => false
  | .pr _ _ => false
def eqOkL : List D → Bool
  | [] => true
  | x :: r => eqOk x && eqOkL r
end
mutual
def dpt : D → Nat
  | .tup xs => dptL xs + 1
  | .lst xs => dptL xs + 1
  | .non => 0
  | .bl _ => 0
  | .int _ => 0
  | .str _ => 0
  | .cell _ => 0
  | .ref _ => 0
  | .pr _ _ => 0
def dptL : List D → Nat
  | [] => 0
  | x :: r => max (dpt x) (dptL r)
end
mutual
theorem dq_self : ∀ (d : D), eqOk d = true → ∃ p, pyT d = some p ∧ p.canLay0 = true ∧ PyData.eqv p p = true ∧ p.depth = dpt d
  | .non, _ => ⟨.none, rfl, rfl, rfl, rfl⟩
  | .bl b, _ => ⟨.bool b, rfl, rfl, by simp [PyData.eqv], rfl⟩
  | .int i, _ => ⟨.int i, rfl, rfl, by simp [PyData.eqv], rfl⟩
  | .str x, h => ⟨.str x, rfl, h, by simp [PyData.eqv], rfl⟩
  | .tup xs, h => by
    obtain ⟨ps, h1, h2, h3, h4⟩ := dq_selfL xs h
    exact ⟨.tuple ps, by unfold pyT; rw [h1]; rfl, h2, h3, by unfold PyData.depth dpt; rw [h4]⟩
  | .lst xs, h => by
    obtain ⟨ps, h1, h2, h3, h4⟩ := dq_selfL xs h
    exact ⟨.list ps, by unfold pyT; rw [h1]; rfl, h2, h3, by unfold PyData.depth dpt; rw [h4]⟩
  | .cell _, h => by cases h
  | .ref _, h => by cases h
  | .pr _ _, h => by cases h
theorem dq_selfL : ∀ (ds : List D), eqOkL ds = true → ∃ ps, pyL ds = some ps ∧ PyData.canLayAll0 ps = true ∧ PyData.eqvAll ps ps = true ∧ PyData.depthAll ps = dptL ds
  | [], _ => ⟨[], rfl, rfl, rfl, rfl⟩
  | d :: ds, h => by
    have h : (eqOk d && eqOkL ds) = true := h
    rw [Bool.and_eq_true] at h
    obtain ⟨p, a1, a2, a3, a4⟩ := dq_self d h.1
    obtain ⟨ps, b1, b2, b3, b4⟩ := dq_selfL ds h.2
    exact ⟨p :: ps, by unfold pyL; rw [a1, b1], by unfold PyData.canLayAll0; rw [a2, b2]; rfl, by unfold PyData.eqvAll; rw [a3, b3]; rfl, by unfold PyData.depthAll dptL; rw [a4, b4]⟩
end
/-- data that can be compared with itself, not too deep -/
def Eqd (n : Nat) (d : D) : Prop := eqOk d = true ∧ dpt d ≤ n
theorem Eqd.mono {n m : Nat} {d : D} (h : Eqd n d) (l : n ≤ m) : Eqd m d := ⟨h.1, Nat.le_trans h.2 l⟩
theorem eqdL {n : Nat} : ∀ {ds : List D}, (∀ d ∈ ds, Eqd n d) → eqOkL ds = true ∧ dptL ds ≤ n
  | [], _ => ⟨rfl, Nat.zero_le _⟩
  | d :: ds, h => by
    obtain ⟨a1, a2⟩ := h d List.mem_cons_self
    obtain ⟨b1, b2⟩ := eqdL fun e he => h e (List.mem_cons_of_mem _ he)
    exact ⟨by unfold eqOkL; rw [a1, b1]; rfl, by unfold dptL; exact Nat.max_le.mpr ⟨a2, b2⟩⟩
theorem Eqd.tup {n : Nat} {ds : List D} (h : ∀ d ∈ ds, Eqd n d) : Eqd (n + 1) (.tup ds) := ⟨(eqdL h).1, Nat.succ_le_succ (eqdL h).2⟩
theorem Eqd.lst {n : Nat} {ds : List D} (h : ∀ d ∈ ds, Eqd n d) : Eqd (n + 1) (.lst ds) := ⟨(eqdL h).1, Nat.succ_le_succ (eqdL h).2⟩
theorem Eqd.non {n : Nat} : Eqd n .non := ⟨rfl, Nat.zero_le _⟩
theorem Eqd.int {n : Nat} (i : Int) : Eqd n (.int i) := ⟨rfl, Nat.zero_le _⟩
theorem Eqd.bl {n : Nat} (b : Bool) : Eqd n (.bl b) := ⟨rfl, Nat.zero_le _⟩
theorem Eqd.tx {n : Nat} {cs : List Nat} (h : ∀ c ∈ cs, c < 1114112) : Eqd n (.str (tx cs)) := ⟨strOk_tx h, Nat.zero_le _⟩
theorem eqD_self {d : D} {s : S} (h : Eqd 64 d) : eqD d d s = .ok (.bl true) s ∧ neD d d s = .ok (.bl false) s := by
  obtain ⟨p, h1, h2, h3, h4⟩ := dq_self d h.1
  have h5 : pyD s d = some p := by
    cases d with
    | cell n => cases h1
    | _ => exact h1
  have h6 : SeqAt.shaped p = true := by
    unfold SeqAt.shaped
    rw [h2, h4]
    exact decide_eq_true h.2
  unfold eqD neD
  rw [h5]
  dsimp only
  rw [h6, h3]
  exact ⟨rfl, rfl⟩
theorem x_eqSelf {d : D} {s : S} (h : Eqd 64 d) : eqM d d s = .ok (.bl true) s := by
  unfold eqM
  split
  · show Res.ok _ _ = _
    rw [decide_eq_true rfl]
  · exact (eqD_self h).1
theorem x_neSelf {d : D} {s : S} (h : Eqd 64 d) : neM d d s = .ok (.bl false) s := by
  unfold neM
  split
  · show Res.ok _ _ = _
    rw [decide_eq_true rfl]
    rfl
  · exact (eqD_self h).2
theorem pyD_cellL {n : Nat} {ds : List D} {s : S} (h : s.vh[n]? = some (.lst ds)) : pyD s (.cell n) = pyD s (.lst ds) := by
  unfold pyD
  dsimp only
  rw [h]
  rfl
theorem x_neCSelf {n : Nat} {ds : List D} {s : S} (h : s.vh[n]? = some (.lst ds)) (k : Eqd 64 (.lst ds)) : neM (.cell n) (.lst ds) s = .ok (.bl false) s := by
  show neD (.cell n) (.lst ds) s = _
  have := (eqD_self (s := s) k).2
  unfold neD at this ⊢
  rw [pyD_cellL h]
  exact this
theorem x_eqCSelf {n : Nat} {ds : List D} {s : S} (h : s.vh[n]? = some (.lst ds)) (k : Eqd 64 (.lst ds)) : eqM (.cell n) (.lst ds) s = .ok (.bl true) s := by
  show eqD (.cell n) (.lst ds) s = _
  have := (eqD_self (s := s) k).1
  unfold eqD at this ⊢
  rw [pyD_cellL h]
  exact this
end Fx

/-! Fx: text * int -/
namespace Fx
open PySem PySem.Spec PyProof.Rows L2
variable {X : Cx} {W : WX}
def mulSM : D → D → M D
  | .str x, .int n => if (decide (0 ≤ n) && (decide (n ≤ 1000) && decide (x.length ≤ 1000))) = true then ret (.str (Txt.mul x n)) else fail
  | _, _ => fail
theorem mulOk_of {x : Str} {n : Int} (h0 : 0 ≤ n) (h1 : n ≤ 1000) (hx : x.length ≤ 1000) : MulOk x n := by
  refine ⟨?_, fun h _ => ?_, fun h _ => ?_⟩
  · rw [decide_eq_false (by omega), decide_eq_false (by omega)]; rfl
  · have hp : 0 < n := by omega
    have h2 : (x.length : Int) * n ≤ 1000 * 1000 := Int.mul_le_mul (by omega) h1 h0 (by decide)
    have h3 : (x.length : Int) ≤ (2 ^ 63 - 1) / n := (Int.le_ediv_iff_mul_le hp).mpr (by omega)
    omega
  · have h2 : x.length * n.toNat ≤ 1000 * 1000 := Nat.mul_le_mul hx (by omega)
    unfold Builtin.Str.tooLong
    rw [sizeLine_eq]
    exact decide_eq_false (by omega)
theorem op_mulS : OpR X (binaryOp .Mult) (fun x y H Q => ∃ t n, x = V.str t ∧ y = V.int n ∧ MulOk t n ∧ Q (.str (Txt.mul t n)) H) := by
  intro pins s σ H x y v u Q I rx ry h
  obtain ⟨t, n, rfl, rfl, ok, q⟩ := h
  obtain ⟨a, rfl⟩ := rx
  obtain ⟨b, rfl⟩ := ry
  exact SB.mul ok fun t' k => ⟨.str (Txt.mul t n), H, I.tok k, ⟨t', rfl⟩, q⟩
theorem rop_mulS : ROp X (fun x y H Q => ∃ t n, x = V.str t ∧ y = V.int n ∧ MulOk t n ∧ Q (.str (Txt.mul t n)) H) mulSM := by
  intro W w H σ s x y d e Q R rx ry p
  unfold mulSM at p
  split at p
  · next t n =>
    cases rx
    cases ry
    split at p
    · next h =>
      rw [Bool.and_eq_true, Bool.and_eq_true, decide_eq_true_eq, decide_eq_true_eq, decide_eq_true_eq] at h
      exact ⟨t, n, rfl, rfl, mulOk_of h.1 h.2.1 h.2.2, Post.here p R (Rep.str _)⟩
    · exact p.elim
  · exact p.elim
theorem de_mulS {a b : Expr} {fa fb : M D} {pos : Pos} (ha : DE X W a fa) (hb : DE X W b fb) : DE X W (.BinOp a .Mult b pos) (bnd fa fun d => bnd fb fun e => mulSM d e) := de_op op_mulS rop_mulS ha hb
theorem fold_rep (a : Array Nat) : ∀ (k : Nat) (acc : Array Nat) (c : Nat), c ∈ ((List.replicate k a).foldl (· ++ ·) acc).toList → c ∈ acc.toList ∨ c ∈ a.toList
  | 0, acc, c, h => .inl h
  | k + 1, acc, c, h => by
    rw [List.replicate_succ, List.foldl_cons] at h
    rcases fold_rep a k _ c h with h | h
    · rw [Array.toList_append, List.mem_append] at h; exact h
    · exact .inr h
theorem mulS_tx {cs : List Nat} {n : Int} {s : S} (h0 : 0 ≤ n) (h1 : n ≤ 1000) (hl : cs.length ≤ 1000) : ∃ ds : List Nat, (∀ c ∈ ds, c ∈ cs) ∧ mulSM (.str (tx cs)) (.int n) = ret (.str (tx ds)) := by
  have e : mulSM (.str (tx cs)) (.int n) = ret (.str (Txt.mul (tx cs) n)) := by
    show (if _ then _ else _) = _
    rw [if_pos (by rw [decide_eq_true h0, decide_eq_true h1, tx_len, decide_eq_true hl]; rfl)]
  refine ⟨(Txt.mul (tx cs) n).cps.toList, fun c hc => ?_, by rw [e, tx_of]⟩
  unfold Txt.mul at hc
  split at hc
  · cases hc
  · split at hc
    · exact hc
    · rcases fold_rep _ _ _ c hc with h | h
      · cases h
      · exact h
end Fx

/-! Fx: dicts that are walked: locked for one statement or one expression -/
namespace Fx
open PySem PySem.Spec PyProof.Rows L2
variable {X : Cx} {W : WX}
open Classical in
/-- f, while the dict in slot i is locked: what f does must not hang on what stands there -/
noncomputable def lockM {α : Type} (i : Nat) (f : M α) : M α := fun s => match s.loc[i]? with
  | some (some (.cell n)) => match s.vh[n]? with
    | some (.dct kvs) => if h : ∃ r : α × List (Option D) × List Cell, n < r.2.2.length ∧ ∀ o us, f ⟨s.loc, s.vh.set n (.dctL o us kvs)⟩ = .ok r.1 ⟨r.2.1, r.2.2.set n (.dctL o us kvs)⟩ then .ok h.choose.1 ⟨h.choose.2.1, h.choose.2.2.set n (.dct kvs)⟩ else .bad
    | _ => .bad
  | _ => .bad
section
variable {K : PySem.W.Frag} {w : Wd} {H : Hp} {σ : L2.St} {s : S}
theorem RS.cellV (R : RS K w H σ s) {i n : Nat} (h : s.loc[i]? = some (some (.cell n))) : ∃ a, w.ρ[n]? = some a := by
  obtain ⟨v, _, r⟩ := R.loc i _ h
  cases r with
  | cell h => exact ⟨_, h⟩
/-- the state locked -/
theorem RS.lock (R : RS K w H σ s) {n : Nat} {a : Addr} {us : List (Key × V)} {kvs : List (Key × D)} (od : Obj) (h : w.ρ[n]? = some a) (hr : RepK K w us kvs) : RS K w (upd H a (.frz od (.dK us))) σ ⟨s.loc, s.vh.set n (.dctL od us kvs)⟩ := R.setCell h ⟨upd_same, hr⟩
/-- .. and open again -/
theorem RS.unlock {H' : Hp} {σ' : L2.St} {w1 : Wd} {l : List (Option D)} {vh : List Cell} {n : Nat} {a : Addr} {us : List (Key × V)} {kvs : List (Key × D)} {od : Obj} (R : RS K w1 H' σ' ⟨l, vh.set n (.dctL od us kvs)⟩) (h : w1.ρ[n]? = some a) (hn : n < vh.length) :
    H' a = some (.frz od (.dK us)) ∧ RS K w1 (upd H' a (.dK us)) σ' ⟨l, vh.set n (.dct kvs)⟩ := by
  have hc := R.cells n a (.dctL od us kvs) h (List.getElem?_set_self hn)
  obtain ⟨h1, h2⟩ := hc
  have := R.setCell (c := .dct kvs) (o := .dK us) h ⟨us, upd_same, h2⟩
  rw [List.set_set] at this
  exact ⟨h1, this⟩
end
theorem lock_fol {α : Type} {P : Pr V α} {t : TE} {f : M α} {i : Nat} (r : Fol X.K W P t f)
    (hP : ∀ (w : Wd) (H : Hp) (w' : Wd) (H' : Hp) (a : Addr) (o u : HO) (v : V) (x : α), a ∈ w'.ρ → P.p (upd H a o) w' H' v x → P.p H w' (upd H' a u) v x) : Fol X.K W P (tLockE t) (lockM i f) := by
  intro w H σ s Q R z
  unfold lockM at z
  split at z
  · next n hloc =>
    split at z
    · next kvs hvh =>
      split at z
      · next h =>
        obtain ⟨a, hr⟩ := R.cellV hloc
        obtain ⟨us, hH, hrep⟩ := R.cells n a _ hr hvh
        have spec := h.choose_spec
        refine ⟨a, .dK us, hH, trivial, fun od => ?_⟩
        refine r w _ σ _ _ (R.lock od hr hrep) ?_
        rw [spec.2 od us]
        intro w' H' v l R' p
        have hr' : w'.ρ[n]? = some a := l.le.1 _ _ hr
        obtain ⟨h1, h2⟩ := R'.unlock hr' spec.1
        exact ⟨h1, z w' _ v (((Le.write (List.mem_of_getElem? hr)).trans l).trans (Le.write (List.mem_of_getElem? hr'))) h2 (hP w H w' H' a _ _ v _ (List.mem_of_getElem? hr') p)⟩
      · exact z.elim
    · exact z.elim
  · exact z.elim
section
variable {e : Expr} {f : M D} {g : M Cell}
theorem de_lock (i : Nat) (h : DE X W e f) : DE X W e (lockM i f) := by
  obtain ⟨t, p, r⟩ := h
  exact ⟨tLockE t, pe_lock p, lock_fol r fun _ _ _ _ _ _ _ _ _ _ h => h⟩
theorem dn_lock (i : Nat) (h : DN X W e g) : DN X W e (lockM i g) := by
  obtain ⟨t, p, r⟩ := h
  refine ⟨tLockE t, pe_lock p, lock_fol r fun w H w' H' a o u v x ha h => ?_⟩
  obtain ⟨q, e, N⟩ := h
  have hne : q ≠ a := fun z => N.r (z ▸ ha)
  refine ⟨q, e, N.f, N.r, N.c.upW (Wd.le.refl w') (upd_ne hne), ?_⟩
  have := N.n
  rw [upd_ne hne] at this
  exact this
end
theorem ds_lock {st : Stmt} {f : M Out} (i : Nat) (h : DS X W st f) : DS X W st (lockM i f) := by
  obtain ⟨t, p, r⟩ := h
  refine ⟨tLock t, ps_lock p, fun w H σ s D R z => ?_⟩
  unfold lockM at z
  split at z
  · next n hloc =>
    split at z
    · next kvs hvh =>
      split at z
      · next h =>
        obtain ⟨a, hr⟩ := R.cellV hloc
        obtain ⟨us, hH, hrep⟩ := R.cells n a _ hr hvh
        have spec := h.choose_spec
        refine ⟨a, .dK us, hH, trivial, fun od => ?_⟩
        refine r w _ σ _ _ (R.lock od hr hrep) ?_
        rw [spec.2 od us]
        generalize h.choose = rr at *
        obtain ⟨out, l, vh⟩ := rr
        have main : ∀ w' H' σ', Le w (upd H a (.frz od (.dK us))) w' H' → RS X.K w' H' σ' ⟨l, vh.set n (.dctL od us kvs)⟩ → H' a = some (.frz od (.dK us)) ∧ RS X.K w' (upd H' a (.dK us)) σ' ⟨l, vh.set n (.dct kvs)⟩ ∧ Le w H w' (upd H' a (.dK us)) := fun w' H' σ' l' R' => by
          have hr' : w'.ρ[n]? = some a := l'.le.1 _ _ hr
          obtain ⟨h1, h2⟩ := R'.unlock hr' spec.1
          exact ⟨h1, h2, ((Le.write (List.mem_of_getElem? hr)).trans l').trans (Le.write (List.mem_of_getElem? hr'))⟩
        cases out with
        | rt d => exact fun w' H' σ' v l' R' rv => let ⟨h1, h2, h3⟩ := main w' H' σ' l' R'; ⟨h1, z w' _ σ' v h3 h2 rv⟩
        | nx => exact fun w' H' σ' l' R' => let ⟨h1, h2, h3⟩ := main w' H' σ' l' R'; ⟨h1, z w' _ σ' h3 h2⟩
        | brk => exact fun w' H' σ' l' R' => let ⟨h1, h2, h3⟩ := main w' H' σ' l' R'; ⟨h1, z w' _ σ' h3 h2⟩
        | cnt => exact fun w' H' σ' l' R' => let ⟨h1, h2, h3⟩ := main w' H' σ' l' R'; ⟨h1, z w' _ σ' h3 h2⟩
      · exact z.elim
    · exact z.elim
  · exact z.elim
/-! ### for k in d -/
def keyV : Key → D
  | .inl i => .int i
  | .inr x => .str x
def keysI (d : D) : M Wk := fun s => match d with
  | .cell n => match s.vh[n]? with
    | some (.dctL o us kvs) => .ok ⟨kvs.map fun kv => keyV kv.1, fun s' => s'.vh[n]? = some (.dctL o us kvs)⟩ s
    | _ => .bad
  | _ => .bad
theorem RepK.atK {K : PySem.W.Frag} {w : Wd} {us : List (Key × V)} {kvs : List (Key × D)} {k : Key} {v : V} (h : RepK K w us kvs) : ∀ {i : Nat}, us[i]? = some (k, v) → ∃ d, kvs[i]? = some (k, d) := by
  induction h with
  | nil => intro i h; simp at h
  | cons r t ih =>
    intro i h
    cases i with
    | zero => cases h; exact ⟨_, rfl⟩
    | succ i => exact ih h
theorem pI_keys {K : PySem.W.Frag} {w0 : Wd} {a : Addr} {n : Nat} {o : Obj} {us : List (Key × V)} {kvs : List (Key × D)} (r : w0.ρ[n]? = some a) : wkI K w0 (Itk a o us) ⟨kvs.map fun kv => keyV kv.1, fun s' => s'.vh[n]? = some (.dctL o us kvs)⟩ := by
  intro w H σ s l R hok i
  obtain ⟨h1, h2⟩ := R.cells n a _ (l.1 _ _ r) hok
  have hl := RepK.length h2
  refine ⟨fun hi => ⟨h1, by rw [List.length_map] at hi; omega⟩, fun hi => ⟨h1, by rw [List.length_map] at hi; omega⟩, fun x H' hy d hd => ?_⟩
  obtain ⟨rfl, k, v, hu, rfl⟩ := hy
  obtain ⟨d', hd'⟩ := h2.atK hu
  rw [List.getElem?_map, hd'] at hd
  cases hd
  refine ⟨w, Le.refl _ _, R, ?_⟩
  cases k with
  | inl i => exact .int i
  | inr x => exact .str x
theorem di_keys {tg e : Expr} {f : M D} (h : DE X W e f) : DI X W tg e (bnd f keysI) := by
  obtain ⟨t, p, r⟩ := h
  refine ⟨_, pi_keys p, fun w H σ s R0 R z => ?_⟩
  refine r.bnd R z fun d s1 w1 H1 v l1 R1 r1 p1 => ?_
  unfold keysI at p1
  split at p1
  · next n =>
    split at p1
    · next o us kvs hvh =>
      cases r1 with
      | @cell a n hr =>
        obtain ⟨h1, h2⟩ := R1.cells n a _ hr hvh
        exact ⟨a, o, rfl, .inl ⟨us, h1, p1 w1 H1 _ (Le.refl _ _) R1 (pI_keys hr)⟩⟩
    · exact p1.elim
  · exact p1.elim
open Classical in
/-- a locked step, from what it does whatever stands there -/
theorem x_lock {α : Type} {i n : Nat} {f : M α} {l l' : List (Option D)} {vh vh' : List Cell} {kvs : List (Key × D)} {a : α} (h1 : l[i]? = some (some (.cell n))) (h2 : vh[n]? = some (.dct kvs)) (hn : n < vh'.length)
    (h : ∀ o us, f ⟨l, vh.set n (.dctL o us kvs)⟩ = .ok a ⟨l', vh'.set n (.dctL o us kvs)⟩) : lockM i f ⟨l, vh⟩ = .ok a ⟨l', vh'.set n (.dct kvs)⟩ := by
  have ex : ∃ r : α × List (Option D) × List Cell, n < r.2.2.length ∧ ∀ o us, f ⟨l, vh.set n (.dctL o us kvs)⟩ = .ok r.1 ⟨r.2.1, r.2.2.set n (.dctL o us kvs)⟩ := ⟨(a, l', vh'), hn, h⟩
  unfold lockM
  dsimp only
  rw [h1]
  dsimp only
  rw [h2]
  dsimp only
  rw [dif_pos ex]
  have sp := ex.choose_spec
  generalize ex.choose = rr at *
  obtain ⟨b, m, vh2⟩ := rr
  dsimp only at sp ⊢
  have o0 : Obj := { cls := .none, data := .plain }
  have e := (h o0 []).symm.trans (sp.2 o0 [])
  injection e with e1 e2
  injection e2 with e3 e4
  subst e1 e3
  have e5 : vh'.set n (.dct kvs) = vh2.set n (.dct kvs) := by
    have := congrArg (fun v => v.set n (Cell.dct kvs)) e4
    simpa [List.set_set] using this
  rw [e5]
end Fx

/-! Fx: sets of texts, made of lists, sorted -/
namespace L2
open PySem PySem.Spec PyProof.Rows
def txOf (e : Int × Value) : Str := match e.2 with
  | .str x _ => x
  | _ => Str.empty
def TGood (w : World) (e : Int × Value) : Prop := ∃ x tk, e.2 = Value.str x tk ∧ e.1 = hashStr w x
/-- at a stands the set of the texts for which T holds, n in all; its table rises and can be walked -/
def SetT (w : World) (h : Heap) (a : Addr) (T : Str → Prop) (n : Nat) : Prop :=
  ∃ ob es ep tb, h.get? a = some ob ∧ ob.ExactSet ∧ ob.data = .set es ep tb ∧ (∀ e ∈ es.toList, TGood w e) ∧ (es.toList.map txOf).Nodup ∧ (∀ x, T x ↔ x ∈ es.toList.map txOf) ∧
    es.size < scanBound ∧ tb.fits es.size = true ∧ es.size = n ∧ Ris tb.place.toList ∧ (w.params.followText "set-order" = true ∨ tb.led = true)
section
variable {P : Program} {w : World} {h h' : Heap} {a : Addr} {T : Str → Prop} {n : Nat}
theorem SetT.at (R : SetT w h a T n) (k : ∀ o, h.get? a = some o → h'.get? a = some o) : SetT w h' a T n := let ⟨ob, es, ep, tb, g, r⟩ := R; ⟨ob, es, ep, tb, k ob g, r⟩
theorem SetT.congr {T' : Str → Prop} (R : SetT w h a T n) (e : ∀ x, T' x ↔ T x) : SetT w h a T' n := by
  have : T' = T := funext fun x => propext (e x)
  rw [this]; exact R
theorem tgood_elems {l : List (Int × Value)} (g : ∀ e ∈ l, TGood w e) : ElemsOf (PySem.strKind P w) l := fun e he => by
  obtain ⟨x, tk, e1, e2⟩ := g e he
  exact ⟨⟨x, by rw [e1]; exact strKind_is P w x tk, e2⟩, by rw [e1]; rfl⟩
theorem tgood_is {e : Int × Value} (g : TGood w e) (x : Str) : (PySem.strKind P w).is x e.2 = true ↔ txOf e = x := by
  obtain ⟨y, tk, e1, _⟩ := g
  unfold txOf
  rw [e1]
  show ((y == x) = true) ↔ y = x
  exact beq_iff_eq
theorem tgood_mem {l : List (Int × Value)} (g : ∀ e ∈ l, TGood w e) (x : Str) : x ∈ l.map txOf ↔ ∃ e ∈ l, (PySem.strKind P w).is x e.2 = true := by
  rw [List.mem_map]
  exact ⟨fun ⟨e, he, q⟩ => ⟨e, he, (tgood_is (g e he) x).2 q⟩, fun ⟨e, he, q⟩ => ⟨e, he, (tgood_is (g e he) x).1 q⟩⟩
end
section
variable {P : Program} {w : World} {A : Around} {E : Value → Shared → Prop} {s : Shared} {a : Addr} {T : Str → Prop} {n : Nat}
theorem setT_tail {g : Bool → Sem Unit} (hg : ∀ (b : Bool) (z : Shared) (Q' : Unit → Shared → Prop), Q' () z → wpAny (model P w) A (g b) Q' E z)
    {ob : Obj} {es : Array (Int × Value)} {ep : Nat} {tb : SetTable} (ho : s.heap.get? a = some ob) (hx : ob.ExactSet) (hd : ob.data = .set es ep tb)
    {fs : Array (Int × Value)} {t2 : SetTable} {T' : Str → Prop} (c1 : ∀ e ∈ fs.toList, TGood w e) (c2 : (fs.toList.map txOf).Nodup) (c3 : ∀ x, T' x ↔ x ∈ fs.toList.map txOf)
    (c4 : fs.size < scanBound) (c5 : t2.fits fs.size = true) (c6 : Ris t2.place.toList) (c7 : w.params.followText "set-order" = true ∨ t2.led = true) {dm : Bool} {R : Option Bool → Shared → Prop}
    (fin : ∀ h', Heap.SameBut a s.heap h' → SetT w h' a T' fs.size → R (some true) { s with heap := h' }) :
    wpAny (model P w) A (do
      storeSet a fs t2
      if (!dm && t2.tooFull) = true then do
        g (relayAll t2 fs (SetTable.grown fs.size)).2.2
        storeSet a (relayAll t2 fs (SetTable.grown fs.size)).1 (relayAll t2 fs (SetTable.grown fs.size)).2.1
        pure (some true)
      else pure (some true)) R E s := by
  refine wpAny_bind (wpAny_storeSet_of ho hd ?_ (fits_of_scanBound c4))
  have at1 := store_at (es' := fs) (t' := t2) ho hd
  have same1 := Heap.SameBut.update s.heap a (Obj.putSet fs t2)
  split
  · have p1 := relayAll_perm t2 fs (SetTable.grown fs.size)
    have p2 := relayAll_fits t2 fs (SetTable.grown fs.size)
    have p3 := relayAll_ris t2 fs (SetTable.grown fs.size)
    have p4 := relayAll_led t2 fs (SetTable.grown fs.size)
    generalize relayAll t2 fs (SetTable.grown fs.size) = Y at p1 p2 p3 p4 ⊢
    obtain ⟨gs, t3, gave⟩ := Y
    dsimp only at p1 p2 p3 p4 ⊢
    have many : gs.size = fs.size := by rw [← Array.length_toList, p1.length_eq, Array.length_toList]
    have c4' : gs.size < scanBound := by rw [many]; exact c4
    refine wpAny_bind (hg _ _ _ (wpAny_bind (wpAny_storeSet_of at1 rfl ?_ (fits_of_scanBound c4'))))
    have at2 := store_at (es' := gs) (t' := t3) at1 rfl
    refine wpAny_pure (fin _ (same1.trans (Heap.SameBut.update _ a _)) ⟨_, gs, _, t3, at2, hx, rfl, fun e he => c1 e (p1.mem_iff.mp he), (p1.map txOf).nodup_iff.mpr c2,
      fun x => (c3 x).trans (p1.map txOf).mem_iff.symm, c4', p2, many, p3, c7.imp id fun z => by rw [p4]; exact z⟩)
  · exact wpAny_pure (fin _ same1 ⟨_, fs, _, t2, at1, hx, rfl, c1, c2, c3, c4, c5, rfl, c6, c7⟩)
theorem setT_add {x : Str} {tk : Tok} {Q : Bool → Shared → Prop} (R : SetT w s.heap a T n) (room : n + 1 < scanBound)
    (fin : ∀ (h' : Heap) (b : Bool) (m : Nat), Heap.SameBut a s.heap h' → m ≤ n + 1 → SetT w h' a (fun y => T y ∨ y = x) m → Q b { s with heap := h' }) :
    wpAny (model P w) A (setAddHashed a (.str x tk) ((PySem.strKind P w).hash x)) Q E s := by
  obtain ⟨ob, es, ep, tb, ho, hx, hd, c1, c2, c3, c4, c5, rfl, c6, c7⟩ := R
  have kx : (PySem.strKind P w).is x (.str x tk) = true := strKind_is P w x tk
  have sx : (Value.str x tk).scannable = true := rfl
  have el : ElemsOf (PySem.strKind P w) es.toList := tgood_elems c1
  unfold setAddHashed setAddHashedIn
  refine wpAny_holding (wpAny_bind (wpAny_setState_of ho hd c5 ?_))
  dsimp only
  rw [byScan_of sx c4 el]
  simp only [↓reduceIte]
  unfold setAddByScan
  refine wpAny_bind (wpAny_bind (wpAny_rule (wpAny_bind (wpAny_setScan_of kx ho hd c5 el ?_))))
  cases hfi : List.findIdx? (fun e => (PySem.strKind P w).is x e.2) es.toList with
  | some j =>
    dsimp only
    obtain ⟨hj, pj, _⟩ := List.findIdx?_eq_some_iff_getElem.mp hfi
    have tx : T x := (c3 x).2 ((tgood_mem (P := P) c1 x).2 ⟨es.toList[j], List.getElem_mem hj, pj⟩)
    exact wpAny_pure (wpAny_pure (fin s.heap _ es.size (Heap.SameBut.refl a s.heap) (Nat.le_succ _) ⟨ob, es, ep, tb, ho, hx, hd, c1, c2, fun y => by
      rw [← c3 y]
      exact ⟨fun z => z.elim id fun e => e ▸ tx, .inl⟩, c4, c5, rfl, c6, c7⟩))
  | none =>
    dsimp only
    have nx : x ∉ es.toList.map txOf := fun z => by
      obtain ⟨e, he, q⟩ := (tgood_mem (P := P) c1 x).1 z
      have c := List.findIdx?_eq_none_iff.mp hfi e he
      rw [q] at c
      cases c
    have gw : ∀ (b : Bool) {z : Shared} {Q' : Unit → Shared → Prop}, Q' () z → wpAny (model P w) A (match b with | true => rule "set.scan.the-table-gave-way" | false => pure ()) Q' E z :=
      fun b z Q' q => by cases b <;> first | exact wpAny_pure q | exact wpAny_rule q
    have p1 := layNew_perm tb es ((PySem.strKind P w).hash x) (.str x tk)
    have p2 := layNew_fits tb es ((PySem.strKind P w).hash x) (.str x tk)
    have p3 := layNew_ris tb es ((PySem.strKind P w).hash x) (.str x tk) c6
    have p4 := layNew_led tb es ((PySem.strKind P w).hash x) (.str x tk)
    generalize layNew tb es ((PySem.strKind P w).hash x) (.str x tk) = Y at p1 p2 p3 p4 ⊢
    obtain ⟨fs, t1, dm, gave⟩ := Y
    dsimp only at p1 p2 p3 p4 ⊢
    rw [Array.toList_push] at p1
    have pc : fs.toList.Perm (((PySem.strKind P w).hash x, Value.str x tk) :: es.toList) := p1.trans (List.perm_append_singleton _ _)
    have pk : (fs.toList.map txOf).Perm (x :: es.toList.map txOf) := pc.map txOf
    have d1 : ∀ e ∈ fs.toList, TGood w e := fun e he => by
      rcases List.mem_cons.mp (pc.mem_iff.mp he) with z | z
      · rw [z]; exact ⟨x, tk, rfl, rfl⟩
      · exact c1 e z
    have d2 : (fs.toList.map txOf).Nodup := pk.nodup_iff.mpr (List.nodup_cons.mpr ⟨nx, c2⟩)
    have d3 : ∀ y, (T y ∨ y = x) ↔ y ∈ fs.toList.map txOf := fun y => by
      rw [c3 y, pk.mem_iff, List.mem_cons]
      exact Or.comm
    have many : fs.size = es.size + 1 := by rw [← Array.length_toList, pc.length_eq, List.length_cons, Array.length_toList]
    have d4 : fs.size < scanBound := by rw [many]; exact room
    have d7 : w.params.followText "set-order" = true ∨ t1.led = true := c7.imp id fun z => by rw [p4]; exact z
    have over : ∀ h', Heap.SameBut a s.heap h' → SetT w h' a (fun y => T y ∨ y = x) fs.size → Q true { s with heap := h' } := fun h' sb r => fin h' true _ sb (Nat.le_of_eq many) r
    refine wpAny_bind (gw _ ?_)
    split
    · refine wpAny_bind ?_
      rw [hashByValue_scannable 8 sx]
      refine wpAny_pure (setT_tail ?_ ho hx hd d1 d2 d3 d4 ?_ ?_ ?_ fun h' sb r => by dsimp only; exact wpAny_pure (over h' sb r))
      · intro b z Q' q; cases b <;> first | exact wpAny_pure q | exact wpAny_rule q
      · first | (split <;> first | exact p2 | exact SetTable.fits_plain_off p2) | exact p2
      · first | (split <;> exact p3) | exact p3
      · first | (split <;> exact d7) | exact d7
    · refine wpAny_bind (wpAny_pure ?_)
      simp only [↓reduceIte]
      refine setT_tail ?_ ho hx hd d1 d2 d3 d4 p2 p3 d7 fun h' sb r => by dsimp only; exact wpAny_pure (over h' sb r)
      intro b z Q' q; cases b <;> first | exact wpAny_pure q | exact wpAny_rule q
end
section
variable {P : Program} {w : World} {A : Around} {E : Value → Shared → Prop} {s : Shared}
theorem setT_new {h : Heap} {a : Addr} {xs : List Str} (ho : h.get? a = some (bareSet w)) : SetT w h a (fun y => y ∈ xs.take 0) 0 :=
  ⟨_, #[], 0, _, ho, ⟨rfl, rfl, rfl⟩, rfl, (fun e he => by simp at he), (by simp), (fun x => by simp), (by decide), (by rfl), rfl, List.Pairwise.nil, by
    show _ ∨ (!w.params.followText "set-order") = true
    cases w.params.followText "set-order"
    · exact .inr rfl
    · exact .inl rfl⟩
theorem setT_update {I : Addr} {fp wr : List Addr} {G : Array GenState → Array GenState → Prop} {n : Nat} {Pv : Nat → Value → Prop} {St : Nat → Shared → Prop} {R : Result → Shared → Prop}
    (W : WalksS P w A.in1 I fp wr G n Pv St) (b : Addr) (out : b ∉ fp) (xs : List Str) (hn : n = xs.length) (hb : xs.length + 1 < scanBound) (hv : ∀ i v, Pv i v → ∃ x t, xs[i]? = some x ∧ v = .str x t) :
    ∀ (k i : Nat) (s : Shared), n - i = k → i ≤ n → St i s → (∃ c, c ≤ i ∧ SetT w s.heap b (fun y => y ∈ xs.take i) c) →
      (∀ s' c, Moved (b :: wr) G s s' → c ≤ n → SetT w s'.heap b (fun y => y ∈ xs) c → R (.ok (.ret .none)) s') →
      codeAny (model P w) A (.builtin "set.update.loop" ⟨[.ref b, .ref I], []⟩) R s := by
  have nw : b ∉ wr := fun h => out (W.sub _ h)
  have sub : ∀ c ∈ wr, c ∈ b :: wr := fun c hc => List.mem_cons_of_mem _ hc
  intro k
  induction k with
  | zero =>
    intro i s hk hi st ⟨c, hc, S⟩ fin
    obtain rfl : i = n := by omega
    refine codeAny_builtin F.entry_set_update_loop ?_
    rw [Around.under_plainId F.plain_set_update_loop _]
    refine wpAny_bind (m := pyNext (.ref I)) (W.done s _ _ st fun s' mv => ?_)
    rw [List.take_of_length_le (Nat.le_of_eq hn.symm)] at S
    exact wpAny_pure (fin s' c (mv.mono sub) hc (S.at fun o e => mv.heap b o nw e))
  | succ k ih =>
    intro i s hk hi st ⟨c, hc, S⟩ fin
    have lt : i < n := by omega
    refine codeAny_builtin F.entry_set_update_loop ?_
    rw [Around.under_plainId F.plain_set_update_loop _]
    refine wpAny_bind (m := pyNext (.ref I)) (W.item i s _ _ lt st fun v s' pv st' mv => ?_)
    obtain ⟨x, t, hx, rfl⟩ := hv i v pv
    have S' : SetT w s'.heap b (fun y => y ∈ xs.take i) c := S.at fun o e => mv.heap b o nw e
    refine wpAny_bind (m := holding [Value.str x t] (setAdd b (.str x t))) (wpAny_holding ?_)
    unfold setAdd
    refine wpAny_holding (wpAny_bind ((PySem.strKind P w).pyHash (k := x) (strKind_is _ _ _ _) ?_))
    refine setT_add (s := { s' with toks := s'.toks + 1 }) S' (by omega) fun h' g m sb hm S2 => ?_
    have S3 : SetT w h' b (fun y => y ∈ xs.take (i + 1)) m := S2.congr fun y => by
      rw [List.take_add_one, hx]
      simp [List.mem_append]
    refine wpAny_pure ⟨plainId_quiet F.plain_set_update_loop _, ih (i + 1) _ (by omega) lt (W.frame _ s' _ _ st' (Nat.le_succ _) fun c hc o e => ?_) ⟨m, by omega, S3⟩ fun s2 c2 mv2 hc2 S4 => ?_⟩
    · rw [sb.2 c (fun h : c = b => out (by rw [← h]; exact hc))]; exact e
    · refine fin s2 c2 (Moved.trans W.gtrans ((mv.mono sub).then_heap (Nat.le_succ _) fun c o hc e => ?_) mv2) hc2 S4
      rw [sb.2 c (fun h : c = b => hc (by rw [h]; exact List.mem_cons_self))]; exact e
/-- set(xs) of a list of texts, the set's inside told -/
theorem setT_of_list {l : Addr} {items : Array Value} (xs : List Str) {Q : Value → Shared → Prop} (hh : A.handled = none) (hl : s.heap.IsList l items) (hit : StrsAre items.toList xs) (hb : xs.length + 1 < scanBound)
    (k : ∀ (h' : Heap) (tk c : Nat), SetT w h' s.heap.objs.size (fun y => y ∈ xs) c → c ≤ xs.length → (∀ b o, s.heap.get? b = some o → h'.get? b = some o) → Q (.ref s.heap.objs.size) { s with heap := h', toks := tk }) :
    wpAny (model P w) A (call (.type "set") [.ref l]) Q E s := by
  have many : items.size = xs.length := by rw [← Array.length_toList]; exact hit.length
  obtain ⟨c, tl, hmro⟩ := F.called_set.mro
  have a1 := F.called_set.made
  have a2 := F.called_set.sub
  refine wpAny_call (codeAny_of_tree (wpAny_pure ⟨Code.quiet_builtin _ (by decide +kernel), codeAny_builtin F.entry_type_call ?_⟩ : wpAny _ _ (callAny (.type "set") _) _ _ _))
  rw [Around.under_plain (weight_type_call_type "set" [.ref l] []) rfl]
  have a3 := F.called_set.notType
  have a4 := F.called_set.canCreate
  have a5 := F.typeCall_set_1 (.ref l)
  repeat (any_goals (first | assumption | wp_step))
  refine codeAny_mono (code_set_led1 (.ref l) (E := E) (Q₁ := fun obj s₁ => obj = .ref s.heap.objs.size ∧ s₁ = { s with heap := s.heap.push (bareSet w) }) ⟨rfl, rfl⟩) fun r s₁ hr => ?_
  match r, hr with
  | .error e, hr => exact hr
  | .ok (.ret obj), hr =>
    obtain ⟨rfl, rfl⟩ := hr
    have here : (s.heap.push (bareSet w)).get? s.heap.objs.size = some (bareSet w) := Heap.get?_push_size _ rfl
    have isSet : Shared.TypeIs { s with heap := s.heap.push (bareSet w) } (.ref s.heap.objs.size) "set" := ⟨_, here, rfl⟩
    have b1 := F.called_set.init.lookup
    have b2 := F.called_set.init.bind (.ref s.heap.objs.size)
    repeat (any_goals (first | assumption | wp_step))
    refine codeAny_mono (codeAny_call_builtin (R := wants (fun r s₂ => r = .none ∧ ∃ h' tk c, s₂ = { s with heap := h', toks := tk } ∧ SetT w h' s.heap.objs.size (fun y => y ∈ xs) c ∧ c ≤ xs.length ∧ (∀ b o, s.heap.get? b = some o → h'.get? b = some o)) E)
      F.called_set.init.plain F.entry_set_init (check_set_init_1 isSet ?_)) fun r₂ s₂ hr₂ => ?_
    · obtain ⟨⟨cl0, di0, da0, sl0⟩, at0, rfl, n0, rfl⟩ := hl
      have at1 : (s.heap.push (bareSet w)).get? l = some { cls := .type "list", dict := di0, data := .seq items n0, slots := sl0 } := Heap.get?_push_of_some _ at0
      have c1 := F.sub_list_set
      have c2 := F.sub_list_frozenset
      have c3 : (Value.type "list" == Value.type "dict") = false := by decide
      have list1 : (s.heap.push (bareSet w)).IsList l items := ⟨_, at1, rfl, n0, rfl⟩
      unfold Builtin.«set.__init__» noKeywords Builtin.Frozenset.updateFrom
      generalize hPI : pyIter = PI
      wp_walk
      subst hPI
      refine wpAny_pyIter_list list1 (wpAny_bind (wpAny_runValue ?_))
      have lt0 : l < s.heap.objs.size := Heap.lt_size at0
      have quiet : A.in1.in1.in1.handled = none := by simp [hh]
      have sz : (s.heap.push (bareSet w)).objs.size = s.heap.objs.size + 1 := Heap.size_push ..
      have ne1 : l ≠ (s.heap.push (bareSet w)).objs.size := by rw [sz]; exact Nat.ne_of_lt (Nat.lt_succ_of_lt lt0)
      have out1 : s.heap.objs.size ∉ [(s.heap.push (bareSet w)).objs.size, l] := by simp only [List.mem_cons, List.not_mem_nil, or_false, not_or]; rw [sz]; exact ⟨Nat.ne_of_lt (Nat.lt_succ_self _), Nat.ne_of_gt lt0⟩
      have each : ∀ (i : Nat) (v : Value), items[i]? = some v → ∃ x t, xs[i]? = some x ∧ v = .str x t := fun i v hv => by
        have hi : i < xs.length := by rw [← many]; exact (Array.getElem?_eq_some_iff.mp hv).1
        obtain ⟨t, e⟩ := SS.strs_at hit i v (by rw [Array.getElem?_toList]; exact hv)
        exact ⟨xs[i], t, List.getElem?_eq_getElem hi, by rw [e, List.getD_eq_getElem?_getD, List.getElem?_eq_getElem hi]; rfl⟩
      refine setT_update ((Walks.list quiet _ l ne1 items).toS) s.heap.objs.size out1 xs many hb each (items.size - 0) 0 _ (by omega) (Nat.zero_le _) ⟨⟨_, Heap.get?_push_size _ rfl, rfl, rfl⟩, (list1.push _)⟩ ⟨0, Nat.le_refl 0, setT_new (Heap.get?_push_of_some _ here)⟩ ?_
      rintro ⟨h', g2, d', tk', os'⟩ c' mv hc' hS'
      obtain rfl : g2 = s.gens := mv.gens
      obtain rfl : d' = s.drawn := mv.drawn
      obtain rfl : os' = s.os := mv.os
      show wpAny _ _ _ _ _ _
      refine wpAny_pure ?_
      show wpAny _ _ (ret Value.none) _ _ _
      refine wpAny_pure ⟨rfl, h', tk', c', rfl, hS', by rw [← many]; exact hc', fun b o e => ?_⟩
      have lt1 : b < s.heap.objs.size := Heap.lt_size e
      exact mv.heap b o (by simp only [List.mem_cons, List.not_mem_nil, or_false, not_or]; rw [sz]; exact ⟨Nat.ne_of_lt lt1, Nat.ne_of_lt (Nat.lt_succ_of_lt lt1)⟩) (Heap.get?_push_of_some _ (Heap.get?_push_of_some _ e))
    · match r₂, hr₂ with
      | .error e, hr₂ => exact hr₂
      | .ok (.ret r), hr₂ =>
        obtain ⟨rfl, h', tk, c, rfl, hS', hc', hk'⟩ := hr₂
        repeat (any_goals (first | assumption | wp_step))
        exact k _ _ _ hS' hc' hk'
def SetTO (w : World) (a : Addr) (T : Str → Prop) (n : Nat) : HO := .ext fun h => SetT w h a T n
end
section
variable {X : Cx}
theorem setTO_new {w : World} {P : Program} {H : Hp} {h : Heap} {a : Addr} {T : Str → Prop} {n : Nat} (R : SetT w h a T n) : ObjOk P w H h a (SetTO w a T n) := let ⟨o, _, _, _, ho, _⟩ := R; ⟨R, ⟨o, ho⟩, fun h1 h2 p k => SetT.at p k⟩
def rSetOfT (K : PySem.W.Frag) (w : World) : List V → Hp → VK → Prop := fun vs H Q => ∃ (a : Addr) (xs : List Str), vs = [V.ref a] ∧ SqL K H a (xs.map V.str) ∧ xs.length + 1 < scanBound ∧ ∀ (p : Addr) (n : Nat), H p = none → n ≤ xs.length → Q (.ref p) (upd H p (SetTO w p (fun y => y ∈ xs) n))
theorem cr_setOfT (hc : X.calm = true) : CallR X (.type "set") (rSetOfT X.K X.w) := by
  intro pins s σ H vs us Q I r h
  obtain ⟨a, xs, rfl, hs, hb, q⟩ := h
  obtain ⟨its, rv, hl, hz⟩ := I.list hs
  rw [Vals.ref1 r]
  refine setT_of_list xs (I.ok.hd hc) hl.isList (by simpa using strsAre_of rv) hb fun h' tk c R hc' keep => ?_
  exact ⟨.ref _, upd H s.heap.objs.size (SetTO X.w s.heap.objs.size (fun y => y ∈ xs) c), I.laid (t' := tk) keep (Nat.le_refl _) (setTO_new R), rfl, q _ _ (I.hok.fresh (Nat.le_refl _)) hc'⟩
/-- sorted(found), fewer than 64 texts -/
def rSortedSetT (w : World) : List V → Hp → VK → Prop := fun vs H Q => ∃ (a : Addr) (T : Str → Prop) (n : Nat), vs = [V.ref a] ∧ H a = some (SetTO w a T n) ∧ n < 64 ∧
  ∀ (ys : List Str) (p : Addr), sortedS ys = true → ys.Nodup → (∀ y, y ∈ ys ↔ T y) → H p = none → Q (.ref p) (upd H p (.lst (ys.map V.str)))
theorem txs_are : ∀ (l : List Value), (∀ v ∈ l, ∃ x tk, v = Value.str x tk) → ∃ xs, StrsAre l xs ∧ xs = l.map fun v => txOf (0, v)
  | [], _ => ⟨[], .nil, rfl⟩
  | v :: l, h => by
    obtain ⟨x, tk, rfl⟩ := h v List.mem_cons_self
    obtain ⟨xs, q, rfl⟩ := txs_are l fun u hu => h u (List.mem_cons_of_mem _ hu)
    exact ⟨_, .cons x tk q, rfl⟩
theorem cr_sortedSetT (hc : X.calm = true) : CallR X (.builtin "sorted") (rSortedSetT X.w) := by
  intro pins s σ H vs us Q I r h
  obtain ⟨a, T, n, rfl, ha, h64, q⟩ := h
  obtain ⟨ob, es, ep, tb, ho, hx, hd, c1, c2, c3, c4, c5, rfl, c6, c7⟩ := (show SetT X.w s.heap a T n from (I.hok a _ ha).1)
  rw [Vals.ref1 r]
  refine Calls.call_function_entry PyProof.Rows.kind_sorted PyProof.Rows.plain_sorted PyProof.Rows.entry_sorted (PyProof.Rows.args_sorted1 _) ?_
  unfold Builtin.«sorted»
  refine wpAny_bind (m := checkCount "sorted" 1 1 _) (wpAny_pure (wpAny_bind (collect_set (A := X.A.in1) (I.ok.hd hc) ⟨ob, ho, hx.1, hd⟩ c5 c4 c6 c7 fun s1 ws k1 hz g1 o1 pm => ?_)))
  have many : ws.length = es.size := by rw [pm.length_eq, List.length_map, Array.length_toList]
  obtain ⟨xs, are, exs⟩ := txs_are ws fun v hv => by
    obtain ⟨e, he, q⟩ := List.mem_map.mp (pm.mem_iff.mp hv)
    obtain ⟨x, tk, h1, _⟩ := c1 e he
    exact ⟨x, tk, by rw [← q]; exact h1⟩
  have pk : xs.Perm (es.toList.map txOf) := by
    rw [exs]
    have z := pm.map fun v => txOf (0, v)
    rw [List.map_map] at z
    exact z
  refine wpAny_bind (wpAny_newList ?_ (by rw [many, sizeLine_eq]; omega))
  have new : (s1.heap.push (seqObj "list" ws.toArray 0)).get? s1.heap.objs.size = some (seqObj "list" ws.toArray 0) := Heap.get?_push_size _ rfl
  refine wpAny_bind (wpAny_holding (wpAny_call_entry PyProof.Rows.slot_list_sort ⟨_, new, rfl⟩ PyProof.Rows.entry_list_sort
    (list_sort_treeK strKind_oneLt (s := { s1 with heap := s1.heap.push (seqObj "list" ws.toArray 0) }) new are.keysOf (fun v₁ v₂ rest e => keyKind_strs (by rw [← e]; exact are)) (by rw [many]; exact h64) fun st hp hs => ⟨_, rfl, ?_⟩)
    (PyProof.Rows.args_list_sort _)))
  obtain ⟨ys, y1, y2, y3⟩ := sorted_out_str are hp hs
  obtain ⟨e', he'⟩ := PyProof.Rows.sortedHeap_at (vs := ws) (out := (arrOf st).map (·.2)) new
  have py := y2.trans pk
  have short : (ys.map V.str).length ≤ sizeLine := by rw [List.length_map, py.length_eq, List.length_map, Array.length_toList, sizeLine_eq]; omega
  have free : H s1.heap.objs.size = none := I.hok.fresh hz
  have keep : ∀ b u, s.heap.get? b = some u → (sortedHeap (s1.heap.push (seqObj "list" ws.toArray 0)) s1.heap.objs.size ws ((arrOf st).map (·.2))).get? b = some u := fun b u e => by
    have e1 := k1 b u e
    have lt := Heap.lt_size e1
    rw [PyProof.Rows.sortedHeap_old (Nat.ne_of_lt lt) (by rw [size_push']; exact Nat.lt_succ_of_lt lt)]
    exact Heap.get?_push_of_some _ e1
  have J : Inv X pins σ (upd H s1.heap.objs.size (.lst (ys.map V.str))) { s with heap := sortedHeap (s1.heap.push (seqObj "list" ws.toArray 0)) s1.heap.objs.size ws ((arrOf st).map (·.2)), gens := s1.gens, drawn := s1.drawn, toks := s1.toks } :=
    I.call (ch := []) (Un.laid keep hz free) (I.hok.laid keep hz ⟨short, ((arrOf st).map (·.2)).toList, e', vals_of_strs y1, by rw [Array.toArray_toList]; exact he'⟩) (by rw [g1]; exact I.bare) (fun _ z => nomatch z)
  refine wpAny_pure ⟨_, rfl, .ref _, _, ?_, rfl, q ys _ y3 (py.nodup_iff.mpr c2) (fun y => by rw [py.mem_iff, c3 y]) free⟩
  obtain ⟨h1, gs, d1, tk1, os1⟩ := s1
  obtain rfl : os1 = s.os := o1
  exact J
end
end L2

/-! Fx: sorted(set(xs)), texts -/
namespace Fx
open PySem PySem.Spec PyProof.Rows L2
variable {X : Cx} {W : WX}
/-- each once -/
def dd : List Str → List Str
  | [] => []
  | x :: r => if x ∈ dd r then dd r else x :: dd r
theorem mem_dd {y : Str} : ∀ {xs : List Str}, y ∈ dd xs ↔ y ∈ xs
  | [] => Iff.rfl
  | x :: r => by
    have ih := mem_dd (y := y) (xs := r)
    unfold dd
    split
    · next h =>
      rw [ih, List.mem_cons]
      refine ⟨.inr, fun z => z.elim (fun e => ?_) id⟩
      rw [e]; exact mem_dd.mp h
    · rw [List.mem_cons, List.mem_cons, ih]
theorem nodup_dd : ∀ xs : List Str, (dd xs).Nodup
  | [] => List.nodup_nil
  | x :: r => by
    unfold dd
    split
    · exact nodup_dd r
    · next h => exact List.nodup_cons.mpr ⟨h, nodup_dd r⟩
theorem dd_len : ∀ xs : List Str, (dd xs).length ≤ xs.length
  | [] => Nat.le_refl _
  | x :: r => by
    have := dd_len r
    unfold dd
    split <;> simp only [List.length_cons] <;> omega
def setX (xs : List Str) : List Str := sortT (dd xs)
theorem mem_setX {y : Str} {xs : List Str} : y ∈ setX xs ↔ y ∈ xs := (sortT_perm _).mem_iff.trans mem_dd
theorem nodup_setX (xs : List Str) : (setX xs).Nodup := (sortT_perm _).nodup_iff.mpr (nodup_dd xs)
theorem setX_len (xs : List Str) : (setX xs).length ≤ xs.length := by
  unfold setX
  rw [(sortT_perm _).length_eq]
  exact dd_len xs
theorem eq_setX {xs ys : List Str} (hs : sortedS ys = true) (hn : ys.Nodup) (hm : ∀ y, y ∈ ys ↔ y ∈ xs) : ys = setX xs :=
  eq_sortT ((List.perm_ext_iff_of_nodup hn (nodup_dd xs)).mpr fun y => (hm y).trans mem_dd.symm) hs
/-- sorted(set(xs)), fewer than 64 texts -/
def sortSetTM (d : D) : M Cell := fun s => match lstOf s d with
  | some ds => match strsOf ds with
    | some xs => if xs.length < 64 then .ok (.lst ((setX xs).map D.str)) s else .bad
    | none => .bad
  | none => .bad
section
variable {e : Expr} {p pos : Pos}
theorem dn_sortSetT {q q2 : Pos} {fe : M D} (hm : X.mg "sorted" = none) (hm2 : X.mg "set" = none) (ha : DE X W e fe) (hc : X.calm = true := by rfl) (hg : Gl X "sorted" := by rfl) (hg2 : Gl X "set" := by rfl) (he : starEach [e] X.env = (false, eval e X.env) :: starEach [] X.env := by rfl) (hpl : (backTo q2 (starEach [] X.env)).any (·.1) = false := by rfl)
    (he2 : starEach [Expr.Call (.Name "set" q) [e] [] q2] X.env = (false, eval (Expr.Call (.Name "set" q) [e] [] q2) X.env) :: starEach [] X.env := by rfl) (hpl2 : (backTo pos (starEach [] X.env)).any (·.1) = false := by rfl) :
    DN X W (.Call (.Name "sorted" p) [.Call (.Name "set" q) [e] [] q2] [] pos) (bnd fe sortSetTM) := by
  obtain ⟨t, pe, r⟩ := ha
  refine ⟨_, pe_callB (cr_sortedSetT hc) hg hm (by decide +kernel) (pa_cons (pe_callTy (cr_setOfT hc) hg2 hm2 (by decide +kernel) (pa_cons pe pa_nil he) (by decide) (by decide) he hpl) pa_nil he2) (by decide) (by decide) he2 hpl2, fun w H σ s Q R z => ?_⟩
  refine r.bnd R z fun d s1 w1 H1 v l1 R1 r1 p1 => ?_
  unfold sortSetTM at p1
  split at p1
  · next es hes =>
    split at p1
    · next xs hn =>
      split at p1
      · next hl =>
        obtain ⟨a, us, rfl, h1, h2⟩ := R1.list r1 hes
        rw [strs_rep h2 hn] at h1
        refine ⟨a, xs, rfl, h1, Nat.lt_of_lt_of_le (show xs.length + 1 < 65 by omega) (by decide), fun q n hq hn2 => ?_⟩
        refine ⟨q, _, n, rfl, upd_same, by omega, fun ys q3 hs hnd hmem hq3 => ?_⟩
        have e : ys = setX xs := eq_setX hs hnd hmem
        rw [e]
        have R2 := R1.laid (o := SetTO X.w q (fun y => y ∈ xs) n) hq
        have p2 := p1.up (Le.laid (w := w1) (o := SetTO X.w q (fun y => y ∈ xs) n) hq)
        exact R2.giveL (repStrs _) p2 hq3
      · exact p1.elim
    · exact p1.elim
  · exact p1.elim
end
theorem strsOf_txs : ∀ cs : List (List Nat), strsOf (cs.map fun c => D.str (tx c)) = some (cs.map tx)
  | [] => rfl
  | c :: r => by rw [List.map_cons, strsOf, strsOf_txs r]; rfl
/-- sorted, each once, as texts of codes -/
def setC (cs : List (List Nat)) : List (List Nat) := (setX (cs.map tx)).map fun x => x.cps.toList
theorem setC_tx (cs : List (List Nat)) : setX (cs.map tx) = (setC cs).map tx := by
  unfold setC
  rw [List.map_map]
  conv => lhs; rw [← List.map_id (setX (cs.map tx))]
  exact List.map_congr_left fun x _ => (tx_of x).symm
theorem mem_setC {c : List Nat} {cs : List (List Nat)} : c ∈ setC cs ↔ c ∈ cs := by
  unfold setC
  rw [List.mem_map]
  constructor
  · rintro ⟨x, h, rfl⟩
    obtain ⟨d, hd, rfl⟩ := List.mem_map.mp (mem_setX.mp h)
    rw [tx_tl]; exact hd
  · exact fun h => ⟨tx c, mem_setX.mpr (List.mem_map_of_mem h), tx_tl c⟩
theorem setC_len (cs : List (List Nat)) : (setC cs).length ≤ cs.length := by
  unfold setC
  rw [List.length_map]
  exact Nat.le_trans (setX_len _) (Nat.le_of_eq (List.length_map _))
theorem x_sortSetT {cs : List (List Nat)} {s : S} (h : cs.length < 64) : sortSetTM (.lst (cs.map fun c => D.str (tx c))) s = .ok (.lst ((setC cs).map fun c => D.str (tx c))) s := by
  unfold sortSetTM lstOf
  dsimp only
  rw [strsOf_txs]
  dsimp only
  rw [if_pos (by rw [List.length_map]; exact h), setC_tx, List.map_map]
  rfl
end Fx

/-! Fx: dicts whose keys are trees of tuples -/
namespace Fx
open PySem PySem.Spec PyProof.Rows L2
variable {X : Cx} {W : WX}
open Classical in
noncomputable def dctNR (wd : World) (s : S) : D → Option (Nat × List (NestedKey × D))
  | .cell n => match s.vh[n]? with
    | some (.dctN wd' kvs) => if wd' = wd then some (n, kvs) else none
    | _ => none
  | _ => none
/-- a tree of tuples, at most eight deep -/
def nkey : D → Option NestedKey
  | .tup ds => match nkD (.tup ds) with
    | some q => if q.depth ≤ 8 then some q else none
    | none => none
  | _ => none
def valN (kvs : List (NestedKey × D)) (q : NestedKey) : Option D := (kvs.find? fun kv => decide (kv.1 = q)).map (·.2)
def putN (kvs : List (NestedKey × D)) (q : NestedKey) (d : D) : List (NestedKey × D) := if (valN kvs q).isSome = true then kvs.map (fun kv => if kv.1 = q then (kv.1, d) else kv) else kvs ++ [(q, d)]
def dropN (kvs : List (NestedKey × D)) (q : NestedKey) : List (NestedKey × D) := kvs.filter fun kv => decide (kv.1 ≠ q)
theorem nkey_of {e : D} {q : NestedKey} (h : nkey e = some q) : nkD e = some q ∧ q.depth ≤ 8 ∧ ∃ ds, e = .tup ds := by
  cases e with
  | tup ds =>
    unfold nkey at h
    dsimp only at h
    split at h
    · next q' e1 =>
      split at h
      · next hd => cases h; exact ⟨e1, hd, _, rfl⟩
      · cases h
    · cases h
  | _ => cases h
section
variable {K : PySem.W.Frag} {w : Wd} {H : Hp} {σ : L2.St} {s : S} {v : V} {d : D} {q : NestedKey}
theorem RepN.length : ∀ {xs : NX} {ds : List (NestedKey × D)}, RepN K w xs ds → xs.length = ds.length
  | _, _, .nil => rfl
  | _, _, .cons _ _ _ _ _ t => by rw [List.length_cons, List.length_cons, RepN.length t]
theorem RepN.val (q : NestedKey) : ∀ {xs : NX} {ds : List (NestedKey × D)}, RepN K w xs ds → (valN ds q = none → atKey xs q = none) ∧ ∀ d, valN ds q = some d → ∃ p v, atKey xs q = some p ∧ RelV v p.2 ∧ Rep K w v d
  | _, _, .nil => ⟨fun _ => rfl, fun d h => by cases h⟩
  | _, _, .cons (q := q') hk hq r ru h t => by
    by_cases e : q' = q
    · refine ⟨fun z => ?_, fun d z => ?_⟩
      · simp [valN, List.find?_cons, e] at z
      · simp [valN, List.find?_cons, e] at z
        subst z
        exact ⟨_, _, by simp only [atKey, List.find?_cons, e, decide_true, Option.map_some]; rfl, ru, h⟩
    · obtain ⟨i1, i2⟩ := RepN.val q t
      refine ⟨fun z => ?_, fun d z => ?_⟩
      · have := i1 (by simpa [valN, List.find?_cons, e] using z)
        simpa [atKey, List.find?_cons, e] using this
      · obtain ⟨p, u, h1, h2⟩ := i2 d (by simpa [valN, List.find?_cons, e] using z)
        exact ⟨p, u, by simpa [atKey, List.find?_cons, e] using h1, h2⟩
theorem RepN.isome {xs : NX} {ds : List (NestedKey × D)} (h : RepN K w xs ds) (q : NestedKey) : (atKey xs q).isSome = (valN ds q).isSome := by
  cases e : valN ds q with
  | none => rw [(h.val q).1 e]; rfl
  | some d => obtain ⟨p, _, e2, _⟩ := (h.val q).2 d e; rw [e2]; rfl
theorem RepN.append : ∀ {xs ys : NX} {ds es : List (NestedKey × D)}, RepN K w xs ds → RepN K w ys es → RepN K w (xs ++ ys) (ds ++ es)
  | _, _, _, _, .nil, s => s
  | _, _, _, _, .cons hk hq r ru h t, s => .cons hk hq r ru h (RepN.append t s)
theorem RepN.map {u : Value} (rv : RelV v u) (rd : Rep K w v d) : ∀ {xs : NX} {ds : List (NestedKey × D)}, RepN K w xs ds → RepN K w (xs.map (putAt q u)) (ds.map fun kv => if kv.1 = q then (kv.1, d) else kv)
  | _, _, .nil => .nil
  | _, _, .cons (q := q') hk hq r ru h t => by
    rw [List.map_cons, List.map_cons]
    by_cases e : q' = q
    · unfold putAt
      rw [if_pos e, if_pos e]
      exact .cons hk hq r rv rd (RepN.map rv rd t)
    · rw [if_neg e]
      unfold putAt
      rw [if_neg e]
      exact .cons hk hq r ru h (RepN.map rv rd t)
theorem RepN.put {q : NestedKey} {xs : NX} {ds : List (NestedKey × D)} (t : RepN K w xs ds) {b : Addr} {u : Value} {kd : D} (hk : nkD kd = some q) (hq : q.depth ≤ 8) (r : Rep K w (.ref b) kd) (rv : RelV v u) (rd : Rep K w v d) : RepN K w (storedH xs q b u) (putN ds q d) := by
  unfold storedH putN
  rw [t.isome q]
  split
  · exact RepN.map rv rd t
  · exact RepN.append t (.cons hk hq r rv rd .nil)
theorem RepN.drop (q : NestedKey) : ∀ {xs : NX} {ds : List (NestedKey × D)}, RepN K w xs ds → RepN K w (withoutH xs q) (dropN ds q)
  | _, _, .nil => .nil
  | _, _, .cons (q := q') hk hq r ru h t => by
    have ih := RepN.drop q t
    unfold withoutH dropN at ih ⊢
    by_cases e : q' = q
    · rw [List.filter_cons_of_neg (by simp [e]), List.filter_cons_of_neg (by simp [e])]; exact ih
    · rw [List.filter_cons_of_pos (by simp [e]), List.filter_cons_of_pos (by simp [e])]; exact .cons hk hq r ru h ih
theorem RS.dN {n : Nat} {wd : World} {kvs : List (NestedKey × D)} (R : RS K w H σ s) (r : Rep K w v d) (h : dctNR wd s d = some (n, kvs)) : d = .cell n ∧ ∃ a xs, v = .ref a ∧ w.ρ[n]? = some a ∧ s.vh[n]? = some (.dctN wd kvs) ∧ H a = some (dNO wd a xs) ∧ RepN K w xs kvs := by
  cases r with
  | cell h1 =>
    obtain ⟨c, e, hc⟩ := R.cellOf h1
    unfold dctNR at h
    simp only [e] at h
    cases c with
    | dctN wd' ds =>
      dsimp only at h
      split at h
      · next ew =>
        cases h
        subst ew
        obtain ⟨xs, h2, h3⟩ := hc
        exact ⟨rfl, _, xs, rfl, h1, e, h2, h3⟩
      · cases h
    | _ => simp at h
  | _ => simp [dctNR] at h
end
/-! ### trees of tuples, in the heap -/
section
variable {pins : List (Addr × Obj)} {σ : L2.St} {H : Hp} {s : Shared} {w : Wd}
mutual
theorem nested_of (sub : ∀ a o, w.F a = some o → H a = some o) (I : Inv X pins σ H s) : ∀ {v : V} {d : D} {q : NestedKey} {u : Value}, Rep X.K w v d → nkD d = some q → RelV v u → NestedIs s.heap q u
  | _, _, _, _, .non, h, r => by cases h; cases r; exact .none
  | _, _, _, _, .bl b, h, r => by cases h; cases r; exact .bool rfl
  | _, _, _, _, .int i, h, r => by cases h; obtain ⟨t, rfl⟩ := r; exact .int i t
  | _, _, _, _, .str x, h, r => by cases h; obtain ⟨t, rfl⟩ := r; exact .text x t
  | _, _, _, _, .ref a, h, _ => by cases h
  | _, _, _, _, .pr _ _ _, h, _ => by cases h
  | _, _, _, _, .tup (ds := ds) h1 t, h, r => by
    obtain ⟨its, rv, ⟨o, e1, e2, n, e3⟩, _⟩ := I.tuple (sqT_up sub h1.sq)
    unfold nkD at h
    cases e : nkL ds with
    | none => rw [e] at h; cases h
    | some ks =>
      rw [e] at h
      cases h
      cases r
      exact .tup e1 e2 e3 (nested_all sub I t e rv)
  | _, _, _, _, .lst _ _, h, _ => by cases h
  | _, _, _, _, .cell _, h, _ => by cases h
theorem nested_all (sub : ∀ a o, w.F a = some o → H a = some o) (I : Inv X pins σ H s) : ∀ {vs : List V} {ds : List D} {ks : List NestedKey} {us : List Value}, RepL X.K w vs ds → nkL ds = some ks → Vals vs us → NestedAll s.heap ks us
  | _, _, _, _, .nil, h, r => by cases h; cases r; exact .nil
  | _, _, _, _, .cons (d := d) (ds := ds) h1 t, h, r => by
    unfold nkL at h
    cases e1 : nkD d with
    | none => rw [e1] at h; cases h
    | some k =>
      cases e2 : nkL ds with
      | none => rw [e1, e2] at h; cases h
      | some ks =>
        rw [e1, e2] at h
        cases h
        cases r with
        | cons ra rr => exact .cons (nested_of sub I h1 e1 ra) (nested_all sub I t e2 rr)
end
theorem keyAt_of {z : S} {b : Addr} {kd : D} {q : NestedKey} (R : RS X.K w H σ z) (r : Rep X.K w (.ref b) kd) (hk : nkD kd = some q) (hq : q.depth ≤ 8) : KeyAt X H q b := ⟨hq, fun _ _ _ I => nested_of R.sub I r hk rfl⟩
theorem RepN.keysAt {z : S} (R : RS X.K w H σ z) : ∀ {xs : NX} {ds : List (NestedKey × D)}, RepN X.K w xs ds → ∀ x ∈ xs, KeyAt X H x.1 x.2.1
  | _, _, .nil => fun x h => by cases h
  | _, _, .cons hk hq r ru h t => fun x hx => by
    rcases List.mem_cons.mp hx with e | e
    · rw [e]; exact keyAt_of R r hk hq
    · exact RepN.keysAt R t x e
theorem RS.atN {z : S} {n : Nat} {kvs : List (NestedKey × D)} {v u : V} {d e : D} {q : NestedKey} (R : RS X.K w H σ z) (r : Rep X.K w v d) (re : Rep X.K w u e) (h : dctNR X.w z d = some (n, kvs)) (hk : nkey e = some q) :
    d = .cell n ∧ ∃ a b xs, AtN X H v u a b q xs ∧ w.ρ[n]? = some a ∧ z.vh[n]? = some (.dctN X.w kvs) ∧ RepN X.K w xs kvs ∧ Rep X.K w (.ref b) e ∧ nkD e = some q ∧ q.depth ≤ 8 := by
  obtain ⟨hd, a, xs, rfl, h1, h2, h3, h4⟩ := R.dN r h
  obtain ⟨k1, k2, ds, rfl⟩ := nkey_of hk
  obtain ⟨b, us, rfl, _, _⟩ := R.tuple re (ds := ds) rfl
  exact ⟨hd, a, b, xs, ⟨rfl, rfl, h3, keyAt_of R re k1 k2, h4.keysAt R⟩, h1, h2, h4, re, k1, k2⟩
end
/-! ### the steps -/
noncomputable def nInM (wd : World) (t : Bool) (e d : D) : M D := fun s => match dctNR wd s d, nkey e with
  | some (_, kvs), some q => .ok (.bl ((valN kvs q).isSome == t)) s
  | _, _ => .bad
noncomputable def nGetM (wd : World) (d e : D) : M D := fun s => match dctNR wd s d, nkey e with
  | some (_, kvs), some q => match valN kvs q with
    | some v => .ok v s
    | none => .bad
  | _, _ => .bad
noncomputable def nPutM (wd : World) (v d e : D) : M Out := fun s => match dctNR wd s d, nkey e with
  | some (n, kvs), some q => if kvs.length < sizeLine then .ok .nx ⟨s.loc, s.vh.set n (.dctN wd (putN kvs q v))⟩ else .bad
  | _, _ => .bad
noncomputable def nPutS (wd : World) (fo fi fv : M D) : M Out := bnd fv fun v => bnd fo fun d => bnd fi fun e => nPutM wd v d e
noncomputable def nPopM (wd : World) (d e : D) : M D := fun s => match dctNR wd s d, nkey e with
  | some (n, kvs), some q => match valN kvs q with
    | some v => .ok v ⟨s.loc, s.vh.set n (.dctN wd (dropN kvs q))⟩
    | none => .bad
  | _, _ => .bad
noncomputable def nPopE (wd : World) (fo fi : M D) : M D := bnd fo fun d s => if (dctNR wd s d).isSome = true then bnd fi (fun e => nPopM wd d e) s else .bad
section
variable {o i value : Expr} {fo fi fv : M D} {pos pos' apos cpos : Pos}
theorem dn_dictN : DN X W (.Dict [] [] pos) (ret (.dctN X.w [])) := by
  refine ⟨_, pe_dnewN, fun w H σ s Q R z => fun q hq => ?_⟩
  have f := R.fresh hq
  exact z w _ _ (Le.laid hq) (R.laid hq) ⟨q, rfl, f.1, f.2, ⟨[], upd_same, .nil⟩, hq⟩
theorem nin_fol {t u : TE} {b : Bool} (r : Fol X.K W (pD X.K) t fi) (h : Fol X.K W (pD X.K) u fo) : Fol X.K W (pD X.K) (tNIn X b t u) (bin (nInM X.w b) fi fo) := fun w H σ s Q R z => by
  refine r.bnd R z fun e s1 w1 H1 v1 l1 R1 r1 p1 => ?_
  refine h.bnd R1 p1 fun d s2 w2 H2 v2 l2 R2 r2 p2 => ?_
  unfold nInM at p2
  split at p2
  · next n kvs q hd hk =>
    obtain ⟨_, a, b, xs, A, h1, h2, h3, _⟩ := R2.atN r2 (Rep.up l2 r1) hd hk
    refine ⟨a, b, q, xs, A, ?_⟩
    rw [h3.isome]
    exact Post.here p2 R2 (Rep.bl _)
  · exact p2.elim
theorem de_nin (hu : X.A.units + 64 < cLine) (hi : DE X W i fi) (ho : DE X W o fo) (hm : behindInMarks .In o = false := by rfl) : DE X W (.Compare i [.In] [o] pos) (bin (nInM X.w true) fi fo) := by
  obtain ⟨t, p, r⟩ := hi
  obtain ⟨u, q, h⟩ := ho
  exact ⟨_, pe_cmp (pc_nin (by omega) p q) hm, nin_fol r h⟩
theorem de_nnin (hu : X.A.units + 64 < cLine) (hi : DE X W i fi) (ho : DE X W o fo) (hm : behindInMarks .NotIn o = false := by rfl) : DE X W (.Compare i [.NotIn] [o] pos) (bin (nInM X.w false) fi fo) := by
  obtain ⟨t, p, r⟩ := hi
  obtain ⟨u, q, h⟩ := ho
  exact ⟨_, pe_cmp (pc_nnin (by omega) p q) hm, nin_fol r h⟩
theorem dt_nin (hu : X.A.units + 64 < cLine) (hi : DE X W i fi) (ho : DE X W o fo) (hm : behindInMarks .In o = false := by rfl) : DT X W (.Compare i [.In] [o] pos) (tst (bin (nInM X.w true) fi fo)) := by
  obtain ⟨t, p, r⟩ := hi
  obtain ⟨u, q, h⟩ := ho
  exact ⟨_, pt_cmp (pc_nin (by omega) p q) hm, tst_fol (nin_fol r h)⟩
theorem dt_nnin (hu : X.A.units + 64 < cLine) (hi : DE X W i fi) (ho : DE X W o fo) (hm : behindInMarks .NotIn o = false := by rfl) : DT X W (.Compare i [.NotIn] [o] pos) (tst (bin (nInM X.w false) fi fo)) := by
  obtain ⟨t, p, r⟩ := hi
  obtain ⟨u, q, h⟩ := ho
  exact ⟨_, pt_cmp (pc_nnin (by omega) p q) hm, tst_fol (nin_fol r h)⟩
theorem de_nget (hu : X.A.units + 64 < cLine) (ho : DE X W o fo) (hi : DE X W i fi) (hs : NoSl i := by exact fun _ _ => rfl) : DE X W (.Subscript o i pos) (bin (nGetM X.w) fo fi) := by
  obtain ⟨t, p, r⟩ := ho
  obtain ⟨u, q, h⟩ := hi
  refine ⟨_, pe_nget (by omega) p q hs, fun w H σ s Q R z => ?_⟩
  refine r.bnd R z fun d s1 w1 H1 v1 l1 R1 r1 p1 => ?_
  refine h.bnd R1 p1 fun e s2 w2 H2 v2 l2 R2 r2 p2 => ?_
  unfold nGetM at p2
  split at p2
  · next n kvs k hd hk =>
    obtain ⟨_, a, b, xs, A, h1, h2, h3, _⟩ := R2.atN (Rep.up l2 r1) r2 hd hk
    split at p2
    · next v hv =>
      obtain ⟨p, y, h4, h5, h6⟩ := (h3.val k).2 v hv
      exact ⟨a, b, k, xs, p, y, A, h4, h5, Post.here p2 R2 h6⟩
    · exact p2.elim
  · exact p2.elim
theorem ds_nput (hu : X.A.units + 64 < cLine) (ho : DE X W o fo) (hi : DE X W i fi) (hv : DE X W value fv) (hs : swapsWith value (some (.Subscript o i pos')) pos.line X.env = pure false := by rfl) : DS X W (.Assign [.Subscript o i pos'] value pos) (nPutS X.w fo fi fv) := by
  obtain ⟨t, p, r⟩ := ho
  obtain ⟨u, q, h⟩ := hi
  obtain ⟨y, p', k⟩ := hv
  refine ⟨_, ps_nput (by omega) p q p' hs, fun w H σ s D R z => ?_⟩
  refine k.bndS R z fun v s1 w1 H1 v1 l1 R1 r1 p1 => ?_
  refine r.bndS R1 p1 fun d s2 w2 H2 v2 l2 R2 r2 p2 => ?_
  refine h.bndS R2 p2 fun e s3 w3 H3 v3 l3 R3 r3 p3 => ?_
  unfold nPutM at p3
  split at p3
  · next n kvs q hd hk =>
    obtain ⟨_, a, b, xs, A, h1, h2, h3, h4, h5, h6⟩ := R3.atN (Rep.up l3 r2) r3 hd hk
    split at p3
    · next hl =>
      refine ⟨a, b, q, xs, A, by rw [h3.length]; exact hl, fun u ru => ?_⟩
      exact p3 w3 _ σ (Le.write (List.mem_of_getElem? h1)) (R3.setCell h1 ⟨_, upd_same, h3.put h5 h6 h4 ru ((r1.up l2).up l3)⟩)
    · exact p3.elim
  · exact p3.elim
theorem de_npop (hu : X.A.units + 64 < cLine) (ho : DE X W o fo) (hi : DE X W i fi)
    (hbase : attributeBase o "pop" X.env (eval o X.env) = eval o X.env := by rfl)
    (hfew : ((backTo cpos (starEach [i] X.env)).all (fun x => !x.1) && (backToKw cpos (keywordEach [] X.env)).all (fun x => x.1.isSome)
      && decide (([i] : List Expr).length + ([] : List Keyword).length + (if ([] : List Keyword).isEmpty then 0 else 1) < 30)) = true := by rfl)
    (hline : (apos.endLine == cpos.line) = true := by rfl) (htrees : backTo cpos (starEach [i] X.env) = [(false, eval i X.env)] := by rfl) :
    DE X W (.Call (.Attribute o "pop" apos) [i] [] cpos) (nPopE X.w fo fi) := by
  obtain ⟨t, p, r⟩ := ho
  obtain ⟨u, q, h⟩ := hi
  refine ⟨_, pe_npop (by omega) p q ⟨hbase, hfew, hline, htrees⟩, fun w H σ s Q R z => ?_⟩
  refine r.bnd R z fun d s1 w1 H1 v1 l1 R1 r1 p1 => ?_
  split at p1
  · next hs =>
    obtain ⟨⟨n, kvs⟩, hn⟩ := Option.isSome_iff_exists.mp hs
    obtain ⟨_, a, xs, e1, e2, e3, e4, e5⟩ := R1.dN r1 hn
    refine ⟨⟨a, xs, e1, e4, e5.keysAt R1⟩, ?_⟩
    refine h.bnd R1 p1 fun e s2 w2 H2 v2 l2 R2 r2 p2 => ?_
    unfold nPopM at p2
    split at p2
    · next n kvs k hd hk =>
      obtain ⟨_, a, b, xs, A, h1, h2, h3, _⟩ := R2.atN (Rep.up l2 r1) r2 hd hk
      split at p2
      · next v hv =>
        obtain ⟨p, y, h4, h5, h6⟩ := (h3.val k).2 v hv
        exact ⟨a, b, k, xs, p, y, A, h4, h5, p2 w2 _ y (Le.write (List.mem_of_getElem? h1)) (R2.setCell h1 ⟨_, upd_same, h3.drop k⟩) h6⟩
      · exact p2.elim
    · exact p2.elim
  · exact p1.elim
end
/-! ### equations -/
theorem dctNR_at {wd : World} {s : S} {n : Nat} {kvs : List (NestedKey × D)} (h : s.vh[n]? = some (.dctN wd kvs)) : dctNR wd s (.cell n) = some (n, kvs) := by
  unfold dctNR
  dsimp only
  rw [h]
  exact if_pos rfl
theorem x_nin {wd : World} {t : Bool} {e : D} {n : Nat} {kvs : List (NestedKey × D)} {q : NestedKey} {s : S} (h : s.vh[n]? = some (.dctN wd kvs)) (hk : nkey e = some q) : nInM wd t e (.cell n) s = .ok (.bl ((valN kvs q).isSome == t)) s := by
  unfold nInM
  rw [dctNR_at h, hk]
theorem x_nget {wd : World} {e v : D} {n : Nat} {kvs : List (NestedKey × D)} {q : NestedKey} {s : S} (h : s.vh[n]? = some (.dctN wd kvs)) (hk : nkey e = some q) (hv : valN kvs q = some v) : nGetM wd (.cell n) e s = .ok v s := by
  unfold nGetM
  rw [dctNR_at h, hk]
  dsimp only
  rw [hv]
theorem x_nputM {wd : World} {e v : D} {n : Nat} {kvs : List (NestedKey × D)} {q : NestedKey} {s : S} (h : s.vh[n]? = some (.dctN wd kvs)) (hk : nkey e = some q) (hl : kvs.length < 16777216) : nPutM wd v (.cell n) e s = .ok .nx ⟨s.loc, s.vh.set n (.dctN wd (putN kvs q v))⟩ := by
  unfold nPutM
  rw [dctNR_at h, hk]
  dsimp only
  rw [if_pos (by rw [sizeLine_eq]; exact hl)]
theorem x_nput {wd : World} {fo fi fv : M D} {s : S} : nPutS wd fo fi fv s = (fv s).then' fun v => bnd fo fun d => bnd fi fun e => nPutM wd v d e := nr rfl
theorem x_npopM {wd : World} {e v : D} {n : Nat} {kvs : List (NestedKey × D)} {q : NestedKey} {s : S} (h : s.vh[n]? = some (.dctN wd kvs)) (hk : nkey e = some q) (hv : valN kvs q = some v) : nPopM wd (.cell n) e s = .ok v ⟨s.loc, s.vh.set n (.dctN wd (dropN kvs q))⟩ := by
  unfold nPopM
  rw [dctNR_at h, hk]
  dsimp only
  rw [hv]
theorem x_npop {wd : World} {fo fi : M D} {s : S} : nPopE wd fo fi s = (fo s).then' fun d s => if (dctNR wd s d).isSome = true then bnd fi (fun e => nPopM wd d e) s else .bad := nr rfl
/-- the end, for a law whose reading hangs on the world -/
theorem law_endW {l : PySem.W.OpenLaw} {q : Program} {loose : List Str} {XP : (Str → Option Value) → Heap → Prop} {YP : World → Heap → Prop} {d : DefRec} {K : Params → PySem.W.Frag} {x : Str} {k : Nat} {F : World → Pf} (hn : l.most = some 63) (hdf : d.params.defaults = []) (hd : d.name = "law") (hr : Room k callerA)
    (hY : ∀ (w : World) (h : Heap), YP w h → (K w.params).In h)
    (W : ∀ (w : World) (mg : Str → Option Value) (h : Heap), (K w.params).In h → h.Ns mainGlobals mg → (∃ (fa : Addr) (fd : FuncData), mg "law" = some (.ref fa) ∧ (∀ (s : Shared) (u : Value), BindsTo s fd ⟨[u], []⟩ [(x, u)]) ∧
      ∀ base : Heap, (K w.params).In base → base.Ns mainGlobals mg → FnOk l.prog w (K w.params) mg base CX0 k fa fd [x] (SpP (K w.params) 1 (F w))))
    (hF : ∀ (w : World) (ns : List Int), ns.length ≤ 63 → (∀ z ∈ ns, Builtin.Int.intBits z ≤ 1048576) → F w [.lst (ns.map D.int)] [] = some (.bl true)) :
    PySem.W.WalkO q loose XP YP l.row.toRowW d [] (fun f vs => PySem.call f vs) := by
  refine L2.walk_ofB (n := 63) (k := k) (x := x) (CX := fun _ => CX0) (sp := fun w => SpP (K w.params) 1 (F w)) hn (by decide) hdf hr hY (fun w mg fa h X G hmg => ?_) (fun w H a ns hl hb _ hS => ?_) fun _ _ _ _ _ z => z
  · obtain ⟨fa', fd, e, b, G'⟩ := W w mg h X G
    rw [hd, e] at hmg
    cases hmg
    exact ⟨fd, b, G'⟩
  · refine ⟨rfl, ⟨[], H⟩, [], ⟨[], []⟩, [.lst (ns.map D.int)], .bl true, ⟨fun _ _ h => h, rfl, fun i d h => by simp at h, rfl, .nil, fun _ h => by simp at h, fun n a c e => by simp at e⟩, .cons (.lst hS (ints_rep ns)) .nil, hF w ns hl hb, fun w' H' v _ _ r => ?_⟩
    cases r
    rfl
end Fx

/-! Fx: extend, range with a step, chained comparisons -/
namespace PySem
open Sem (wp)
theorem list_extend_any (l b : Addr) (its its2 : Array Value) (n n2 : Nat) {T : String} (hT : T = "list" ∨ T = "tuple") (hlong : ¬ (!its.isEmpty && Builtin.List.listTooLong (its.size + its2.size)) = true) (hs : its.size ≤ sizeLine) (hs2 : its.size + its2.size ≤ sizeLine) :
    Meets (Builtin.«list.extend» ⟨[.ref l, .ref b], []⟩) (fun _ R s => s.heap.get? l = some { cls := .type "list", data := .seq its n } ∧ (∃ o, s.heap.get? b = some o ∧ o.cls = .type T ∧ o.data = .seq its2 n2) ∧ R (.ok (.ret .none)) { s with heap := s.heap.update l (Obj.mapSeq (· ++ its2)), toks := s.toks }) :=
  .of_wp fun prog w A R s h => by
    obtain ⟨hl, ⟨o, ho, hc, hd⟩, h⟩ := h
    show wpAny _ A.in1 (Builtin.List.listExtendWith (.ref l) (.ref b) .none) _ _ s
    unfold Builtin.List.listExtendWith
    refine wpAny_bind (wpAny_typeOf ⟨o, ho, hc⟩ ?_)
    have h1 : (Builtin.List.listSameRef (.ref l) (.ref b) || Value.type T == Value.type "list" || Value.type T == Value.type "tuple") = true := by
      rcases hT with rfl | rfl <;> simp
    simp only [h1, if_true]
    refine wpAny_bind ?_
    unfold Builtin.List.listItems
    refine wpAny_bind (wpAny_seqItems ho hd (wpAny_pure ?_))
    refine wpAny_bind ?_
    refine wpAny_bind (wpAny_seqItems hl rfl (wpAny_pure ?_))
    rw [if_neg hlong]
    show wpAny _ A.in1 (updateSeq l (· ++ its2) >>= fun _ => ret Value.none) _ _ s
    refine wpAny_bind (wpAny_updateSeq hl rfl (hz := hs) (_hz' := by rw [Array.size_append]; omega) ?_)
    exact wpAny_pure ⟨_, rfl, h⟩
end PySem
namespace L2
open PySem PySem.Spec PyProof.Rows
def rExtS (K : PySem.W.Frag) : V → List V → Hp → VK → Prop := fun x vs H Q => ∃ l b xs zs, x = .ref l ∧ vs = [.ref b] ∧ H l = some (.lst xs) ∧ (SqL K H b zs ∨ SqT K H b zs) ∧ xs.length + zs.length ≤ sizeLine ∧ Q .non (upd H l (.lst (xs ++ zs)))
theorem mt_extS {X : Cx} : MtM X "list.extend" (rExtS X.K) := by
  intro pins s σ H x vs v us Q I rx rv h
  obtain ⟨l, b, xs, zs, rfl, rfl, hH, hB, hz, q⟩ := h
  cases rx
  obtain ⟨u, rfl, ru⟩ := rv.one
  cases ru
  obtain ⟨z, its, n, r, hl, e⟩ := I.lstM hH
  have key : ∃ (T : String) (its2 : List Value) (n2 : Nat) (o : Obj), (T = "list" ∨ T = "tuple") ∧ Vals zs its2 ∧ s.heap.get? b = some o ∧ o.cls = .type T ∧ o.data = .seq its2.toArray n2 := by
    rcases hB with hB | hB
    · obtain ⟨its2, r2, ⟨o, n2, e2, c2, _, d2⟩, _⟩ := I.list hB
      exact ⟨"list", its2, n2, o, .inl rfl, r2, e2, c2, d2⟩
    · obtain ⟨its2, r2, ⟨o, e2, c2, n2, d2⟩, _⟩ := I.tuple hB
      exact ⟨"tuple", its2, n2, o, .inr rfl, r2, e2, c2, d2⟩
  obtain ⟨T, its2, n2, o, hT, r2, e2, c2, d2⟩ := key
  have hl2 := r2.length
  have hsz : its.toArray.size + its2.toArray.size ≤ sizeLine := by rw [List.size_toArray, List.size_toArray]; omega
  have hlong : ¬ (!its.toArray.isEmpty && Builtin.List.listTooLong (its.toArray.size + its2.toArray.size)) = true := by
    rw [notLongL hsz, Bool.and_false]
    exact Bool.false_ne_true
  refine call_meets F.slot_list_extend ⟨_, e, rfl⟩ F.entry_list_extend (F.args_list_extend_2 _ _)
    (list_extend_any l b its.toArray its2.toArray n n2 hT hlong (by rw [List.size_toArray]; omega) hsz) ⟨e, ⟨o, e2, c2, d2⟩, ?_⟩
  refine ⟨.non, _, I.lset (its' := its ++ its2) hH e (by simp) (r.append r2) ?_, rfl, q⟩
  rw [List.length_append]
  omega
end L2
namespace Fx
open PySem PySem.Spec PyProof.Rows L2
variable {X : Cx} {W : WX}
def extM (d : D) : List D → M D
  | [e] => fun s => match seqOf s e with
    | some es => wrM d (fun ds s => if ds.length + es.length ≤ sizeLine then .ok (ds ++ es, .non) s else .bad) s
    | none => .bad
  | _ => fail
theorem rm_ext : RMt X (rExtS X.K) extM := by
  intro W w H σ s v vs d ds Q R r rs p
  unfold extM at p
  split at p
  · next e =>
    obtain ⟨u, rfl, ru⟩ := one_of rs
    cases he : seqOf s e with
    | none => rw [he] at p; exact p.elim
    | some es =>
      rw [he] at p
      dsimp only at p
      have sq : ∃ b zs, u = .ref b ∧ (SqL X.K H b zs ∨ SqT X.K H b zs) ∧ RepL X.K w zs es := by
        cases ru with
        | tup h1 t => cases he; exact ⟨_, _, rfl, .inr (sqT_up R.sub h1.sq), t⟩
        | lst h1 t =>
          obtain ⟨a, vs, e1, h2, h3⟩ := R.list (.lst h1 t) (ds := es) he
          exact ⟨a, vs, e1, .inl h2, h3⟩
        | cell h1 =>
          obtain ⟨a, vs, e1, h2, h3⟩ := R.list (.cell h1) (ds := es) he
          exact ⟨a, vs, e1, .inl h2, h3⟩
        | _ => simp [seqOf, lstOf] at he
      obtain ⟨b, zs, rfl, h5, h6⟩ := sq
      obtain ⟨a, us, ds, es', y, s', rfl, h1, h2, h3, h4⟩ := R.wr r p
      split at h3
      · next k =>
        cases h3
        exact ⟨a, b, us, zs, rfl, rfl, h1, h5, by rw [RepL.length h2, RepL.length h6]; exact k, h4 rfl _ _ (RepL.append h2 h6) Rep.non⟩
      · cases h3
  · exact p.elim
theorem de_extend {o e : Expr} {f : M D} {fs : M (List D)} {ap pos : Pos} (ho : DE X W o f) (ha : DA X W [e] fs) (hbase : attributeBase o "extend" X.env (eval o X.env) = eval o X.env := by rfl)
    (hfew : ((backTo pos (starEach [e] X.env)).all (fun x => !x.1) && (backToKw pos (keywordEach [] X.env)).all (fun x => x.1.isSome)
      && decide (([e] : List Expr).length + ([] : List Keyword).length + (if ([] : List Keyword).isEmpty then 0 else 1) < 30)) = true := by rfl)
    (hline : (ap.endLine == pos.line) = true := by rfl) (hs : starEach [e] X.env = (false, eval e X.env) :: starEach [] X.env := by rfl) (hplain : (backTo pos (starEach [] X.env)).any (·.1) = false := by rfl) :
    DE X W (.Call (.Attribute o "extend" ap) [e] [] pos) (methM "list" f fs extM) :=
  de_meth rm_ext PySem.F.plainAttrs_list PySem.F.slot_list_extend PySem.F.type_list_extend mt_extS ho ha hbase hfew hline hs hplain
def extR (n : Nat) (es : List D) (o : Option Cell) (s : S) : Res D := match o with
  | some (.lst ds) => if ds.length + es.length ≤ sizeLine then .ok .non ⟨s.loc, s.vh.set n (.lst (ds ++ es))⟩ else .bad
  | _ => .bad
theorem x_ext {n : Nat} {e : D} {es : List D} {s : S} (h : seqOf s e = some es) : extM (.cell n) [e] s = extR n es s.vh[n]? s := by
  unfold extM wrM extR
  dsimp only
  rw [h]
  dsimp only
  cases s.vh[n]? with
  | none => rfl
  | some c =>
    cases c with
    | lst ds =>
      dsimp only
      by_cases h : ds.length + es.length ≤ sizeLine
      · rw [if_pos h, if_pos h]
      · rw [if_neg h, if_neg h]
    | _ => rfl
theorem x_extT {n : Nat} {es : List D} {s : S} : extM (.cell n) [.tup es] s = extR n es s.vh[n]? s := x_ext rfl
theorem x_extL {n : Nat} {es : List D} {s : S} : extM (.cell n) [.lst es] s = extR n es s.vh[n]? s := x_ext rfl
theorem x_extC {n m : Nat} {es : List D} {s : S} (h : s.vh[m]? = some (.lst es)) : extM (.cell n) [.cell m] s = extR n es s.vh[n]? s := x_ext (by unfold seqOf lstOf; dsimp only; rw [h])
theorem x_extR {n : Nat} {es ds : List D} {s : S} (h : ds.length + es.length < 16777216) : extR n es (some (.lst ds)) s = .ok .non ⟨s.loc, s.vh.set n (.lst (ds ++ es))⟩ := by
  unfold extR
  exact if_pos (by rw [sizeLine_eq]; omega)
/-! range(a, b, -1) -/
def dnD (lo : Int) (n : Nat) : List D := (List.range n).map fun (k : Nat) => D.int (lo + (k : Int) * (-1))
theorem dnD_len {lo : Int} {n : Nat} : (dnD lo n).length = n := by unfold dnD; rw [List.length_map, List.length_range]
theorem dnD_get {lo : Int} {n i : Nat} (h : i < n) : (dnD lo n)[i]? = some (.int (lo + (i : Int) * (-1))) := by
  unfold dnD
  rw [List.getElem?_map, List.getElem?_range h]; rfl
def ran3I : List D → M Wk
  | [.int lo, .int n, .int (-1)] => fun s => if (okB lo && okB n) = true then .ok ⟨dnD lo (lo - n).toNat, fun _ => True⟩ s else .bad
  | _ => fun _ => .bad
theorem pI_dn {K : PySem.W.Frag} {w0 : Wd} {lo : Int} {n : Nat} : wkI K w0 (Itc lo (-1) n) ⟨dnD lo n, fun _ => True⟩ := by
  intro w H σ s l R _ i
  refine ⟨fun hi => by rw [dnD_len] at hi; exact hi, fun hi => by rw [dnD_len] at hi; exact hi, fun v H' hy d' hd => ?_⟩
  obtain ⟨rfl, rfl⟩ := hy
  have hi : i < n := by
    have := (List.getElem?_eq_some_iff.mp hd).1
    rw [dnD_len] at this; exact this
  have hd : (dnD lo n)[i]? = some d' := hd
  rw [dnD_get hi] at hd; cases hd
  exact ⟨w, Le.refl _ _, R, .int _⟩
theorem di_range3 {tg a b c : Expr} {f : M (List D)} {p pos : Pos} (hm : X.mg "range" = none) (h : DA X W [a, b, c] f) (hg : Gl X "range" := by rfl) (hs : starEach [a, b, c] X.env = (false, eval a X.env) :: starEach [b, c] X.env := by rfl) (hpl : (backTo pos (starEach [b, c] X.env)).any (·.1) = false := by rfl) :
    DI X W tg (.Call (.Name "range" p) [a, b, c] [] pos) (bnd f ran3I) := by
  obtain ⟨t, q, r⟩ := h
  refine ⟨_, pi_range3 hg hm q hs hpl, fun w H σ s R0 R z => ?_⟩
  refine r.bnd R z fun ds s1 w1 H1 vs l1 R1 r1 p1 => ?_
  unfold ran3I at p1
  split at p1
  · next lo n =>
    cases r1 with
    | cons h1 t1 =>
      cases t1 with
      | cons h2 t2 =>
        cases t2 with
        | cons h3 t3 =>
          cases t3
          cases h1
          cases h2
          cases h3
          split at p1
          · next k =>
            rw [Bool.and_eq_true] at k
            exact ⟨lo, n, -1, (lo - n).toNat, rfl, RgC.neg (okB_ok k.1).1 (okB_ok k.1).2 (okB_ok k.2).1 (okB_ok k.2).2, p1 w1 H1 _ (Le.refl _ _) R1 pI_dn⟩
          · exact p1.elim
  · exact p1.elim
theorem x_ran3 {lo n : Int} {s : S} (h : okB lo = true) (h2 : okB n = true) : ran3I [.int lo, .int n, .int (-1)] s = .ok ⟨dnD lo (lo - n).toNat, fun _ => True⟩ s := by
  show (if (okB lo && okB n) = true then _ else _) = _
  rw [if_pos (by rw [h, h2]; rfl)]
/-! a op1 b op2 c -/
def chnM (g g' : D → D → M D) (fa fb fc : M D) : M D := bnd fa fun d => bnd fb fun e => bnd (bnd (g d e) asB) fun k => if k = true then bnd fc fun x => g' e x else ret (.bl false)
theorem chn_fol {r r' : R2} {g g' : D → D → M D} {ta tb tc : TE} {fa fb fc : M D} (hr : ROp X r g) (hr' : ROp X r' g') (ra : Fol X.K W (pD X.K) ta fa) (rb : Fol X.K W (pD X.K) tb fb) (rc : Fol X.K W (pD X.K) tc fc) : Fol X.K W (pD X.K) (tChain r r' ta tb tc) (chnM g g' fa fb fc) := fun w H σ s Q R p => by
  refine ra.bnd R p fun d s1 w1 H1 v1 l1 R1 r1 p1 => ?_
  refine rb.bnd R1 p1 fun e s2 w2 H2 v2 l2 R2 r2 p2 => ?_
  have as : ∀ K : Bool → M D, bnd (bnd (g d e) asB) K s2 = bnd (g d e) (fun z => bnd (asB z) K) s2 := fun K => by
    unfold bnd
    cases g d e s2 <;> rfl
  rw [as] at p2
  refine hr W w2 H2 σ s2 v1 v2 d e _ R2 (Rep.up l2 r1) r2 (p2.bnd fun z s3 w3 H3 v3 l3 R3 r3 p3 => ?_)
  cases r3 with
  | bl k =>
    refine ⟨k, rfl, ?_⟩
    cases k with
    | false =>
      rw [if_neg (by decide)]
      exact Post.here (show Post X.K W (pD X.K) w3 H3 σ (ret (.bl false) s3) Q from p3) R3 (Rep.bl _)
    | true =>
      rw [if_pos rfl]
      have p3 : Post X.K W (pD X.K) w3 H3 σ (bnd fc (fun x => g' e x) s3) Q := p3
      refine rc.bnd R3 p3 fun x s4 w4 H4 v4 l4 R4 r4 p4 => ?_
      exact hr' W w4 H4 σ s4 v2 v4 e x Q R4 (Rep.up l4 (Rep.up l3 r2)) r4 p4
  | _ => exact p3.elim
theorem de_chain {op op' : CmpOp} {r r' : R2} {g g' : D → D → M D} {a b c : Expr} {fa fb fc : M D} {pos : Pos} (ho : OpR X (compareOp op) r) (hr : ROp X r g) (ho' : OpR X (compareOp op') r') (hr' : ROp X r' g') (ha : DE X W a fa) (hb : DE X W b fb) (hc : DE X W c fc)
    (hm : lastMarks [op, op'] [b, c] = false := by with_unfolding_all rfl) : DE X W (.Compare a [op, op'] [b, c] pos) (chnM g g' fa fb fc) := by
  obtain ⟨ta, pa, ra⟩ := ha
  obtain ⟨tb, pb, rb⟩ := hb
  obtain ⟨tc, pc, rc⟩ := hc
  exact ⟨_, pe_chain ho ho' pa pb pc hm, chn_fol hr hr' ra rb rc⟩
theorem dt_chain {op op' : CmpOp} {r r' : R2} {g g' : D → D → M D} {a b c : Expr} {fa fb fc : M D} {pos : Pos} (ho : OpR X (compareOp op) r) (hr : ROp X r g) (ho' : OpR X (compareOp op') r') (hr' : ROp X r' g') (ha : DE X W a fa) (hb : DE X W b fb) (hc : DE X W c fc)
    (hm : lastMarks [op, op'] [b, c] = false := by with_unfolding_all rfl) : DT X W (.Compare a [op, op'] [b, c] pos) (tst (chnM g g' fa fb fc)) := by
  obtain ⟨ta, pa, ra⟩ := ha
  obtain ⟨tb, pb, rb⟩ := hb
  obtain ⟨tc, pc, rc⟩ := hc
  exact ⟨_, pt_chain ho ho' pa pb pc hm, tst_fol (chn_fol hr hr' ra rb rc)⟩
theorem x_chn {g g' : D → D → M D} {fa fb fc : M D} {s : S} : chnM g g' fa fb fc s = (fa s).then' fun d => bnd fb fun e => bnd (bnd (g d e) asB) fun k => if k = true then bnd fc fun x => g' e x else ret (.bl false) := nr rfl
end Fx

/-! Fx: len(set(xs)) of unlike ints -/
namespace Fx
open PySem PySem.Spec PyProof.Rows L2
variable {X : Cx} {W : WX}
def lenSetM (d : D) : M D := fun s => match lstOf s d with
  | some ds => match intsOf ds with
    | some ns => if ns.Nodup ∧ ns.length ≤ 4000 then .ok (.int ns.length) s else .bad
    | none => .bad
  | none => .bad
theorem de_lenSet {a : Expr} {fa : M D} {p p2 q pos : Pos} (hm : X.mg "len" = none) (hm2 : X.mg "set" = none) (ha : DE X W a fa) (hg : Gl X "len" := by rfl) (hg2 : Gl X "set" := by rfl) (hc : X.calm = true := by rfl)
    (na : starEach [a] X.env = (false, eval a X.env) :: starEach [] X.env := by rfl) : DE X W (.Call (.Name "len" p) [.Call (.Name "set" p2) [a] [] q] [] pos) (bnd fa lenSetM) := by
  obtain ⟨t, pe, r⟩ := ha
  refine ⟨_, RZ.pe_lenSetI hg hm hg2 hm2 pe hc na, fun w H σ s Q R z => ?_⟩
  refine r.bnd R z fun d s1 w1 H1 v l1 R1 r1 p1 => ?_
  unfold lenSetM at p1
  split at p1
  · next es hes =>
    split at p1
    · next ns hn =>
      split at p1
      · next hl =>
        obtain ⟨a, us, rfl, h1, h2⟩ := R1.list r1 hes
        rw [ints_rep' h2 hn] at h1
        exact ⟨a, ns, rfl, h1, hl.1, hl.2, Post.here p1 R1 (Rep.int _)⟩
      · exact p1.elim
    · exact p1.elim
  · exact p1.elim
theorem intsOf_D : ∀ ns : List Int, intsOf (ns.map D.int) = some ns
  | [] => rfl
  | n :: r => by rw [List.map_cons, intsOf, intsOf_D r]; rfl
theorem x_lenSet {d : D} {ns : List Int} {s : S} (h : lstOf s d = some (ns.map D.int)) (hd : ns.Nodup) (hl : ns.length ≤ 4000) : lenSetM d s = .ok (.int ns.length) s := by
  unfold lenSetM
  rw [h]
  dsimp only
  rw [intsOf_D]
  exact if_pos ⟨hd, hl⟩
end Fx

/-! Fx: xs[i] = v of a list -/
namespace Fx
open PySem PySem.Spec PyProof.Rows L2
section
variable {prog : Program} {w : World} {A : Around} {E : Value → Shared → Prop} {s : Shared}
/-- an item of a list is replaced, told by the heap that is left -/
theorem lput_run {l : Addr} {its : List Value} {n : Nat} {k : Int} {t : Tok} {v : Value} {Q : Unit → Shared → Prop} (e : s.heap.get? l = some { cls := .type "list", data := .seq its.toArray n }) (h0 : 0 ≤ k) (hf : k < 2 ^ 63) (hn : k < its.length)
    (h : Q () { s with heap := s.heap.update l (Obj.mapSeq (·.setIfInBounds k.toNat v)) }) : wpAny (model prog w) A (setItem (.ref l) (.int k t) v) Q E s := by
  have hl : s.heap.IsList l its.toArray := PySem.IsL.isList e
  unfold setItem
  try with_reducible refine wpAny_holding ?_
  first | refine wpAny_bind (wpAny_pure ?_) | skip
  refine wpAny_bind (wpAny_sequenceKey hl.typeIs (by decide) ?_)
  refine wpAny_bind (wpAny_callSpecial?_slot (name := Str.ofString "__setitem__") hl.typeIs slot_list_setitem (wpAny_call_entry slot_list_setitem hl.typeIs entry_list_setitem ?_ (args_list_setitem _ _ _)))
  show wpAny _ _ (Builtin.List.listSubscript? (.int k t) >>= _) _ _ s
  refine wpAny_bind (wpAny_listSubscript_int (fitsIndex_of h0 hf) ?_)
  clear hf
  obtain ⟨j, rfl⟩ := Int.eq_ofNat_of_zero_le h0
  have hj : j < its.toArray.size := by rw [List.size_toArray]; omega
  have hx : its.toArray[j]? = some its.toArray[j] := Array.getElem?_eq_getElem hj
  show wpAny _ _ ((seqItemAt l j >>= fun r => pure (r.map (j, ·))) >>= _) _ _ s
  refine wpAny_bind (wpAny_bind (wpAny_seqItemAt e rfl (wpAny_pure ?_)))
  rw [hx]
  show wpAny _ _ (setSeqItemAt l j v >>= _) _ _ s
  refine wpAny_bind (wpAny_setSeqItemAt e rfl ?_)
  first
    | exact wpAny_bind (wpAny_pure (wpAny_pure ⟨.none, rfl, wpAny_pure h⟩))
    | exact wpAny_pure ⟨.none, rfl, wpAny_pure h⟩
end
section
variable {X : Cx} {o i value : Expr} {pos pos' : Pos}
def tLPut (to ti tv : TE) : TS := fun D σ H => tv σ H fun v H1 => to σ H1 fun x H2 => ti σ H2 fun y H3 => ∃ (l : Addr) (xs : List V) (k : Nat), x = .ref l ∧ y = .int (k : Int) ∧ H3 l = some (.lst xs) ∧ k < xs.length ∧ D.nx σ (upd H3 l (.lst (xs.set k v)))
theorem ps_lput {to ti tv : TE} (ho : PE X o to) (hi : PE X i ti) (hv : PE X value tv) (hs : swapsWith value (some (.Subscript o i pos')) pos.line X.env = pure false) : PS X (.Assign [.Subscript o i pos'] value pos) (tLPut to ti tv) := by
  refine ⟨fun pins s σ H D I h => ?_⟩
  refine wpAny_Assign_Subscript (thn (hv.run pins s σ H _ I h) fun r s1 ⟨v, H1, I1, rv, q1⟩ => thn (ho.run pins s1 σ H1 _ I1 q1) fun u s2 ⟨x, H2, I2, rx, q2⟩ => thn (hi.run pins s2 σ H2 _ I2 q2) fun iv s3 ⟨y, H3, I3, ry, l, xs, k, ex, ey, hH, hk, q3⟩ => ?_) hs
  subst ex
  subst ey
  cases (show u = Value.ref l from rx)
  obtain ⟨t, rfl⟩ := (show ∃ t, iv = Value.int (k : Int) t from ry)
  obtain ⟨z, its, n, r3, hl, e⟩ := I3.lstM hH
  have hz : sizeLine < 2 ^ 63 := by rw [sizeLine_eq]; decide
  refine lput_run e (by omega) (by omega) (by omega) ?_
  refine ⟨σ, _, I3.lset (its' := its.set k r) (t' := s3.toks) hH e ?_ (Vals.set rv k r3) (by rw [List.length_set]; exact z), q3⟩
  show its.toArray.setIfInBounds k r = (its.set k r).toArray
  rw [List.setIfInBounds_toArray]
end
def lputM (v d e : D) : M Out := fun s => match d, e with
  | .cell n, .int i => match s.vh[n]? with
    | some (.lst ds) => if 0 ≤ i ∧ i.toNat < ds.length then .ok .nx ⟨s.loc, s.vh.set n (.lst (ds.set i.toNat v))⟩ else .bad
    | _ => .bad
  | _, _ => .bad
def lputS (fo fi fv : M D) : M Out := bnd fv fun v => bnd fo fun d => bnd fi fun e => lputM v d e
section
variable {X : Cx} {W : WX} {o i : Expr} {fo fi : M D} {pos pos' : Pos}
theorem ds_lput {value : Expr} {fv : M D} (ho : DE X W o fo) (hi : DE X W i fi) (hv : DE X W value fv) (hs : swapsWith value (some (.Subscript o i pos')) pos.line X.env = pure false := by rfl) : DS X W (.Assign [.Subscript o i pos'] value pos) (lputS fo fi fv) := by
  obtain ⟨t, p, r⟩ := ho
  obtain ⟨u, q, h⟩ := hi
  obtain ⟨y, p', k⟩ := hv
  refine ⟨_, ps_lput p q p' hs, fun w H σ s D R z => ?_⟩
  refine k.bndS R z fun v s1 w1 H1 v1 l1 R1 r1 p1 => ?_
  refine r.bndS R1 p1 fun d s2 w2 H2 v2 l2 R2 r2 p2 => ?_
  refine h.bndS R2 p2 fun e s3 w3 H3 v3 l3 R3 r3 p3 => ?_
  unfold lputM at p3
  split at p3
  · next n j =>
    split at p3
    · next ds hds =>
      split at p3
      · next hl =>
        have r2' := Rep.up l3 r2
        cases r2' with
        | @cell a n h1 =>
          obtain ⟨c, e, hc⟩ := R3.cellOf h1
          rw [hds] at e
          cases e
          obtain ⟨vs, h2, h3⟩ := hc
          cases r3
          have e1 : ((j.toNat : Nat) : Int) = j := Int.toNat_of_nonneg hl.1
          refine ⟨a, vs, j.toNat, rfl, by rw [e1], h2, by rw [RepL.length h3]; exact hl.2, ?_⟩
          exact p3 w3 _ σ (Le.write (List.mem_of_getElem? h1)) (R3.setCell h1 ⟨_, upd_same, RepL.set ((r1.up l2).up l3) _ h3⟩)
      · exact p3.elim
    · exact p3.elim
  · exact p3.elim
end
/-! equations -/
theorem x_lputS {fo fi fv : M D} {s : S} : lputS fo fi fv s = (fv s).then' fun v => bnd fo fun d => bnd fi fun e => lputM v d e := nr rfl
def lputR (v : D) (n : Nat) (i : Int) (o : Option Cell) (s : S) : Res Out := match o with
  | some (.lst ds) => if 0 ≤ i ∧ i.toNat < ds.length then .ok .nx ⟨s.loc, s.vh.set n (.lst (ds.set i.toNat v))⟩ else .bad
  | _ => .bad
theorem x_lput {v : D} {n : Nat} {i : Int} {s : S} : lputM v (.cell n) (.int i) s = lputR v n i s.vh[n]? s := by
  unfold lputM lputR
  dsimp only
  all_goals (cases s.vh[n]? with
    | none => rfl
    | some c => cases c <;> rfl)
theorem x_lputR {v : D} {n : Nat} {i : Int} {ds : List D} {s : S} (h : 0 ≤ i) (h2 : i.toNat < ds.length) : lputR v n i (some (.lst ds)) s = .ok .nx ⟨s.loc, s.vh.set n (.lst (ds.set i.toNat v))⟩ := if_pos ⟨h, h2⟩
theorem x_unp2 {i j : Nat} {a b : D} {s : S} : unp2 i j (.tup [a, b]) s = .ok .nx ⟨(s.loc.set i (some a)).set j (some b), s.vh⟩ := nr rfl
theorem x_unp3 {i j k : Nat} {a b c : D} {s : S} : unp3 i j k (.tup [a, b, c]) s = .ok .nx ⟨((s.loc.set i (some a)).set j (some b)).set k (some c), s.vh⟩ := nr rfl
end Fx

/-! Fx: dicts by their methods: get, pop, update; dict(pairs), dict(d), list(d); values, items; reversed -/
namespace Fx
open PySem PySem.Spec PyProof.Rows L2
variable {X : Cx} {W : WX}
/-! ### dict(x) -/
def rDictC (K : PySem.W.Frag) (xs : List V) (H : Hp) (Q : VK) : Prop :=
  (∃ (a : Addr) (kvs : List (Key × V)), xs = [.ref a] ∧ Rd H a (.dK kvs) ∧ ∀ p, H p = none → Q (.ref p) (upd H p (.dK kvs))) ∨
  ∃ (a : Addr) (ps : List Addr) (kvs : List (Key × V)), xs = [.ref a] ∧ (SqL K H a (ps.map V.ref) ∨ TupC H a (ps.map V.ref)) ∧ Paired (fun p kv => SqT K H p [kV kv.1, kv.2]) ps kvs ∧ ∀ p, H p = none → Q (.ref p) (upd H p (.dK (mergeK [] kvs)))
theorem call_dictT (hc : X.calm = true) : CallR X (.type "dict") (fun xs H Q => ∃ (a : Addr) (ps : List Addr) (kvs : List (Key × V)), xs = [.ref a] ∧ TupC H a (ps.map V.ref) ∧ Paired (fun p kv => SqT X.K H p [kV kv.1, kv.2]) ps kvs ∧ ∀ p, H p = none → Q (.ref p) (upd H p (.dK (mergeK [] kvs)))) := by
  intro pins s σ H xs us Q I r h
  obtain ⟨a, ps, kvs, e, ⟨o, eo, hd⟩, hp, q⟩ := h
  subst e
  obtain ⟨u, e, ru⟩ := vals1 r
  subst e
  cases ru
  have ok := I.hok _ _ eo
  obtain ⟨ho, hz, its, rv, o2, ho2, hcl, n, hdat⟩ := ok
  rw [ho] at ho2
  cases ho2
  have ei := refs_at rv
  subst ei
  obtain ⟨prs, rel, hl, hpr⟩ := pairs_of I hp
  have fu : ∀ j : Nat, ∃ u : Value, ∀ q, prs[j]? = some q → ∃ b, ps[j]? = some b ∧ IsTup s.heap b #[u, q.2] ∧ keyIs q.1 u = true := fun j => by
    cases e : prs[j]? with
    | none => exact ⟨.none, fun q h => by cases h⟩
    | some q => obtain ⟨b, u, e1, e2, e3⟩ := hpr j q e; exact ⟨u, fun q' h => by cases h; exact ⟨b, e1, e2, e3⟩⟩
  obtain ⟨U, hU⟩ := Classical.skolem.mp fu
  obtain ⟨prs2, hp2⟩ : ∃ prs2 : List (Value × Value), prs2 = (List.range prs.length).map fun j => (U j, (prs[j]?.map (·.2)).getD .none) := ⟨_, rfl⟩
  have l2 : prs2.length = prs.length := by rw [hp2, List.length_map, List.length_range]
  have at2 : ∀ j k v, prs2[j]? = some (k, v) → ∃ q, prs[j]? = some q ∧ k = U j ∧ v = q.2 := fun j k v e => by
    have hj : j < prs.length := by rw [← l2]; exact (List.getElem?_eq_some_iff.mp e).1
    rw [hp2, List.getElem?_map, List.getElem?_range hj] at e
    have e3 := List.getElem?_eq_getElem hj
    simp only [Option.map_some, e3, Option.getD_some, Option.some.injEq, Prod.mk.injEq] at e
    exact ⟨prs[j], e3, e.1.symm, e.2.symm⟩
  have P : PySem.PairArg X.prog X.w "tuple" a _ [] _ _ _ := PySem.PairArg.tuple a (ps.map Value.ref).toArray (fun j => (ps[j]?).getD 0) prs2
  refine PySem.call_dict_pairs (knd := mixKind X.prog X.w) (kvs := prs) P (I.ok.hd hc) ⟨⟨o, n, ho, hcl, hd, hdat⟩, ?_, fun j k v e => ?_⟩ ⟨?_, fun i k v e => ?_⟩ ?_ fun h' tk hd' hk => ?_
  · rw [l2, hl]; simp
  · obtain ⟨q, e1, rfl, rfl⟩ := at2 j k v e
    obtain ⟨b, e2, e3, e4⟩ := hU j q e1
    dsimp only
    rw [e2]
    exact ⟨by simp [e2], .inl e3⟩
  · rw [l2]
  · obtain ⟨q, e1, rfl, rfl⟩ := at2 i k v e
    obtain ⟨b, e2, e3, e4⟩ := hU i q e1
    exact ⟨q.1, e1, e4⟩
  · rw [l2, hl]
    rw [List.length_map] at hz
    exact hz
  · have hm : (s.heap.objs.size == sysModules) = false := beq_eq_false_iff_ne.mpr (Nat.ne_of_gt I.big)
    have hlen : (mergeK [] kvs).length ≤ sizeLine := by
      refine Nat.le_trans (length_mergeK kvs []) ?_
      rw [List.length_nil, Nat.zero_add, rel.length, hl]
      rw [List.length_map] at hz
      exact hz
    refine ⟨.ref s.heap.objs.size, _, ?_, rfl, q _ (I.hok.fresh (Nat.le_refl _))⟩
    exact I.laid (t' := tk) (fun b ob e => hk b ob (by simp) e) (Nat.le_refl _) (show ObjOk X.prog X.w _ _ _ (.dK (mergeK [] kvs)) from ⟨hlen, hm, _, KV.merge rel .nil, hd'⟩)
theorem call_dictC (hc : X.calm = true) : CallR X (.type "dict") (rDictC X.K) := by
  intro pins s σ H xs us Q I r h
  rcases h with h | ⟨a, ps, kvs, e, h | h, hp, q⟩
  · exact call_dictD pins s σ H xs us Q I r h
  · exact call_dictP hc pins s σ H xs us Q I r ⟨a, ps, kvs, e, h, hp, q⟩
  · exact call_dictT hc pins s σ H xs us Q I r ⟨a, ps, kvs, e, h, hp, q⟩
/-- pairs of a key and a datum -/
def pairsD : List D → Option (List (Key × D))
  | [] => some []
  | .tup [k, v] :: r => match keyD k, pairsD r with
    | some q, some kvs => some ((q, v) :: kvs)
    | _, _ => none
  | _ => none
def dictN : List D → M Cell
  | [d] => fun s => match dctR s d with
    | some kvs => .ok (.dct kvs) s
    | none => match d with
      | .tup ds => match pairsD ds with
        | some kvs => .ok (.dct (mergeA [] kvs)) s
        | none => .bad
      | d => match lstOf s d with
        | some ds => match pairsD ds with
          | some kvs => .ok (.dct (mergeA [] kvs)) s
          | none => .bad
        | none => .bad
  | _ => fun _ => .bad
theorem pairs_rep {K : PySem.W.Frag} {w : Wd} {H : Hp} (sub : ∀ a o, w.F a = some o → H a = some o) : ∀ {ds : List D} {kvs : List (Key × D)} {vs : List V}, RepL K w vs ds → pairsD ds = some kvs → ∃ (ps : List Addr) (us : List (Key × V)), vs = ps.map V.ref ∧ Paired (fun p kv => SqT K H p [kV kv.1, kv.2]) ps us ∧ RepK K w us kvs
  | _, _, _, .nil, h => by cases h; exact ⟨[], [], rfl, .nil, .nil⟩
  | _, _, _, .cons (d := d) (ds := ds) r t, h => by
    unfold pairsD at h
    split at h
    · next e => cases e
    · next k v r' e =>
      cases e
      cases hk : keyD k with
      | none => rw [hk] at h; cases h
      | some q =>
        cases hr : pairsD ds with
        | none => rw [hk, hr] at h; cases h
        | some kvs' =>
          rw [hk, hr] at h
          cases h
          obtain ⟨ps, us, e1, e2, e3⟩ := pairs_rep sub t hr
          cases r with
          | @tup a vs _ h1 t1 =>
            cases t1 with
            | cons r1 t2 =>
              cases t2 with
              | cons r2 t3 =>
                cases t3
                refine ⟨a :: ps, (q, _) :: us, by rw [e1]; rfl, .cons ?_ e2, .cons r2 e3⟩
                have := (h1.up sub).sq (K := K)
                rw [key_of r1 hk] at this
                exact this
    · cases h
theorem rc_dict : RCalN X (rDictC X.K) dictN := by
  intro W w H σ s vs ds Q R r p
  unfold dictN at p
  split at p
  · next d =>
    obtain ⟨v, rfl, rv⟩ := one_of r
    have fin : ∀ (l : Addr) (us : List (Key × V)) (kvs : List (Key × D)), RepK X.K w us kvs → H l = none → Post X.K W (pN X.K) w H σ (.ok (.dct kvs) s) Q → Q (.ref l) (upd H l (.dK us)) := fun l us kvs hk hl p =>
      p w _ _ (Le.laid hl) (R.laid hl) ⟨l, rfl, (R.fresh hl).1, (R.fresh hl).2, ⟨_, upd_same, hk⟩, hl⟩
    split at p
    · next kvs hd =>
      obtain ⟨a, us, e1, h1, h2⟩ := R.dictR rv hd
      exact .inl ⟨a, us, by rw [e1], h1, fun l hl => fin l us kvs h2 hl p⟩
    · split at p
      · next es =>
        split at p
        · next kvs hp =>
          cases rv with
          | tup h1 t =>
            obtain ⟨ps, us, e1, e2, e3⟩ := pairs_rep R.sub t hp
            subst e1
            exact .inr ⟨_, ps, us, rfl, .inr (h1.up R.sub), e2, fun l hl => fin l _ _ (RepK.merge e3 .nil) hl p⟩
        · exact p.elim
      · split at p
        · next es he =>
          split at p
          · next kvs hp =>
            obtain ⟨a, us', rfl, h1, h2⟩ := R.list rv he
            obtain ⟨ps, us, e1, e2, e3⟩ := pairs_rep R.sub h2 hp
            subst e1
            exact .inr ⟨_, ps, us, rfl, .inl h1, e2, fun l hl => fin l _ _ (RepK.merge e3 .nil) hl p⟩
          · exact p.elim
        · exact p.elim
  · exact p.elim
/-! ### list(d) -/
def listDN : List D → M Cell
  | [d] => fun s => match dctR s d with
    | some kvs => .ok (.lst (kvs.map fun kv => dK kv.1)) s
    | none => .bad
  | _ => fun _ => .bad
theorem rep_keys {K : PySem.W.Frag} {w : Wd} : ∀ {us : List (Key × V)} {kvs : List (Key × D)}, RepK K w us kvs → RepL K w (us.map fun kv => kV kv.1) (kvs.map fun kv => dK kv.1)
  | _, _, .nil => .nil
  | _, _, .cons h t => .cons (rep_key _) (rep_keys t)
theorem rc_listD : RCalN X (fun xs H Q => ∃ (a : Addr) (kvs : List (Key × V)), xs = [.ref a] ∧ Rd H a (.dK kvs) ∧ ∀ p, H p = none → Q (.ref p) (upd H p (.lst (kvs.map fun kv => kV kv.1)))) listDN := by
  intro W w H σ s vs ds Q R r p
  unfold listDN at p
  split at p
  · next d =>
    obtain ⟨v, rfl, rv⟩ := one_of r
    split at p
    · next kvs hd =>
      obtain ⟨a, us, e1, h1, h2⟩ := R.dictR rv hd
      exact ⟨a, us, by rw [e1], h1, fun l hl => p w _ _ (Le.laid hl) (R.laid hl) ⟨l, rfl, (R.fresh hl).1, (R.fresh hl).2, ⟨_, upd_same, rep_keys h2⟩, hl⟩⟩
    · exact p.elim
  · exact p.elim
/-! ### d.get(k), d.get(k, x), d.pop(k), d.pop(k, x) -/
def getM (d e : D) (x : D) : M D := fun s => match dctR s d, keyD e with
  | some kvs, some k => .ok ((valA kvs k).getD x) s
  | _, _ => .bad
/-- a dict, then what is done with it -/
def onD (fo : M D) (f : D → M D) : M D := bnd fo fun d s => if (dctR s d).isSome = true then f d s else .bad
def getE1 (fo fk : M D) : M D := onD fo fun d => bnd fk fun e => getM d e .non
def getE2 (fo fk fx : M D) : M D := onD fo fun d => bnd fk fun e => bnd fx fun x => getM d e x
def popDM (d e : D) (x : Option D) : M D := fun s => match d, keyD e with
  | .cell n, some k => match s.vh[n]? with
    | some (.dct kvs) => match valA kvs k, x with
      | some v, _ => .ok v ⟨s.loc, s.vh.set n (.dct (dropA kvs k))⟩
      | none, some x => .ok x s
      | none, none => .bad
    | _ => .bad
  | _, _ => .bad
def popE1 (fo fk : M D) : M D := onD fo fun d => bnd fk fun e => popDM d e none
def popE2 (fo fk fx : M D) : M D := onD fo fun d => bnd fk fun e => bnd fx fun x => popDM d e (some x)
section
variable {o e f : Expr} {fo fe ff : M D} {apos cpos : Pos}
theorem onD_fol {td : TE} {F : D → M D} {Q : V → Hp → Prop} {w : Wd} {H : Hp} {σ : L2.St} {s : S} (r : Fol X.K W (pD X.K) td fo) (R : RS X.K w H σ s) (z : Post X.K W (pD X.K) w H σ (onD fo F s) Q) {G : V → Hp → Prop}
    (h : ∀ d s1 w1 H1 a, Le w H w1 H1 → RS X.K w1 H1 σ s1 → Rep X.K w1 (.ref a) d → IsD H1 a → Post X.K W (pD X.K) w1 H1 σ (F d s1) Q → G (.ref a) H1) : td σ H G := by
  refine r.bnd R z fun d s1 w1 H1 v1 l1 R1 r1 p1 => ?_
  split at p1
  · next hs =>
    obtain ⟨kvs, hk⟩ := Option.isSome_iff_exists.mp hs
    obtain ⟨a, us, e1, h1, h2⟩ := R1.dictR r1 hk
    subst e1
    exact h d s1 w1 H1 a l1 R1 r1 (.inl ⟨us, h1⟩) p1
  · exact p1.elim
theorem get_at {Q : V → Hp → Prop} {w : Wd} {H : Hp} {σ : L2.St} {s : S} {a : Addr} {y z : V} {d e x : D} (R : RS X.K w H σ s) (r : Rep X.K w (.ref a) d) (re : Rep X.K w y e) (rx : Rep X.K w z x) (p : Post X.K W (pD X.K) w H σ (getM d e x s) Q) :
    ∃ ov, DGet H a y ov ∧ Q (ov.getD z) H := by
  unfold getM at p
  split at p
  · next kvs k hd hk =>
    obtain ⟨a', us, e1, h1, h2⟩ := R.dictR r hd
    cases e1
    have e2 := key_of re hk
    refine ⟨valV us k, .inl ⟨us, k, h1, e2, rfl⟩, ?_⟩
    cases hv : valA kvs k with
    | none =>
      rw [(RepK.val (k := k) h2).1 hv]
      rw [hv] at p
      exact Post.here p R rx
    | some v =>
      obtain ⟨u, h3, h4⟩ := (RepK.val (k := k) h2).2 v hv
      rw [h3]
      rw [hv] at p
      exact Post.here p R h4
  · exact p.elim
theorem de_get1 (hu : X.A.units + 64 < cLine) (ho : DE X W o fo) (he : DE X W e fe) (hbase : attributeBase o "get" X.env (eval o X.env) = eval o X.env := by rfl)
    (hfew : ((backTo cpos (starEach [e] X.env)).all (fun x => !x.1) && (backToKw cpos (keywordEach [] X.env)).all (fun x => x.1.isSome)
      && decide (([e] : List Expr).length + ([] : List Keyword).length + (if ([] : List Keyword).isEmpty then 0 else 1) < 30)) = true := by rfl)
    (hline : (apos.endLine == cpos.line) = true := by rfl) (htrees : backTo cpos (starEach [e] X.env) = [(false, eval e X.env)] := by rfl) : DE X W (.Call (.Attribute o "get" apos) [e] [] cpos) (getE1 fo fe) := by
  obtain ⟨t, p, r⟩ := ho
  obtain ⟨u, q, h⟩ := he
  refine ⟨_, pe_dget1 (by omega) p q ⟨hbase, hfew, hline, htrees⟩, fun w H σ s Q R z => ?_⟩
  refine onD_fol r R z fun d s1 w1 H1 a l1 R1 r1 hd p1 => ⟨a, rfl, hd, ?_⟩
  exact h.bnd R1 p1 fun e s2 w2 H2 v2 l2 R2 r2 p2 => get_at R2 (Rep.up l2 r1) r2 .non p2
theorem de_get2 (hu : X.A.units + 64 < cLine) (ho : DE X W o fo) (he : DE X W e fe) (hf : DE X W f ff) (hbase : attributeBase o "get" X.env (eval o X.env) = eval o X.env := by rfl)
    (hfew : ((backTo cpos (starEach [e, f] X.env)).all (fun x => !x.1) && (backToKw cpos (keywordEach [] X.env)).all (fun x => x.1.isSome)
      && decide (([e, f] : List Expr).length + ([] : List Keyword).length + (if ([] : List Keyword).isEmpty then 0 else 1) < 30)) = true := by rfl)
    (hline : (apos.endLine == cpos.line) = true := by rfl) (htrees : backTo cpos (starEach [e, f] X.env) = [(false, eval e X.env), (false, eval f X.env)] := by rfl) : DE X W (.Call (.Attribute o "get" apos) [e, f] [] cpos) (getE2 fo fe ff) := by
  obtain ⟨t, p, r⟩ := ho
  obtain ⟨u, q, h⟩ := he
  obtain ⟨u', q', h'⟩ := hf
  refine ⟨_, pe_dget2 (by omega) p q q' ⟨hbase, hfew, hline, htrees⟩, fun w H σ s Q R z => ?_⟩
  refine onD_fol r R z fun d s1 w1 H1 a l1 R1 r1 hd p1 => ⟨a, rfl, hd, ?_⟩
  refine h.bnd R1 p1 fun e s2 w2 H2 v2 l2 R2 r2 p2 => ?_
  exact h'.bnd R2 p2 fun x s3 w3 H3 v3 l3 R3 r3 p3 => get_at R3 (Rep.up l3 (Rep.up l2 r1)) (Rep.up l3 r2) r3 p3
theorem pop_at {Q : V → Hp → Prop} {w : Wd} {H : Hp} {σ : L2.St} {s : S} {a : Addr} {y : V} {d e : D} {xo : Option D} {z : V} (R : RS X.K w H σ s) (r : Rep X.K w (.ref a) d) (re : Rep X.K w y e) (rx : ∀ x, xo = some x → Rep X.K w z x) (p : Post X.K W (pD X.K) w H σ (popDM d e xo s) Q) :
    ∃ kvs k, H a = some (.dK kvs) ∧ y = kV k ∧ (∀ v, valV kvs k = some v → Q v (upd H a (.dK (dropK kvs k)))) ∧ (valV kvs k = none → (∃ x, xo = some x) ∧ Q z H) := by
  unfold popDM at p
  split at p
  · next n k hk =>
    split at p
    · next kvs hn =>
      obtain ⟨a', us, e1, h0, h1, h2⟩ := R.dictW r rfl hn
      cases e1
      refine ⟨us, k, h1, key_of re hk, fun v hv => ?_, fun hv => ?_⟩
      · cases ha : valA kvs k with
        | none => rw [(RepK.val (k := k) h2).1 ha] at hv; cases hv
        | some d' =>
          obtain ⟨u, h3, h4⟩ := (RepK.val (k := k) h2).2 d' ha
          rw [h3] at hv
          cases hv
          rw [ha] at p
          exact p w _ _ (Le.write (List.mem_of_getElem? h0)) (R.setCell h0 ⟨_, upd_same, RepK.drop h2⟩) h4
      · cases ha : valA kvs k with
        | some d' => obtain ⟨u, h3, h4⟩ := (RepK.val (k := k) h2).2 d' ha; rw [h3] at hv; cases hv
        | none =>
          rw [ha] at p
          cases xo with
          | none => exact p.elim
          | some x => exact ⟨⟨x, rfl⟩, Post.here p R (rx x rfl)⟩
    · exact p.elim
  · exact p.elim
theorem de_pop1 (ho : DE X W o fo) (he : DE X W e fe) (hbase : attributeBase o "pop" X.env (eval o X.env) = eval o X.env := by rfl)
    (hfew : ((backTo cpos (starEach [e] X.env)).all (fun x => !x.1) && (backToKw cpos (keywordEach [] X.env)).all (fun x => x.1.isSome)
      && decide (([e] : List Expr).length + ([] : List Keyword).length + (if ([] : List Keyword).isEmpty then 0 else 1) < 30)) = true := by rfl)
    (hline : (apos.endLine == cpos.line) = true := by rfl) (htrees : backTo cpos (starEach [e] X.env) = [(false, eval e X.env)] := by rfl) : DE X W (.Call (.Attribute o "pop" apos) [e] [] cpos) (popE1 fo fe) := by
  obtain ⟨t, p, r⟩ := ho
  obtain ⟨u, q, h⟩ := he
  refine ⟨_, pe_dpop1 p q ⟨hbase, hfew, hline, htrees⟩, fun w H σ s Q R z => ?_⟩
  refine onD_fol r R z fun d s1 w1 H1 a l1 R1 r1 hd p1 => ⟨a, rfl, hd, ?_⟩
  refine h.bnd R1 p1 fun e s2 w2 H2 v2 l2 R2 r2 p2 => ?_
  obtain ⟨kvs, k, h1, h2, h3, h4⟩ := pop_at (z := .non) R2 (Rep.up l2 r1) r2 (fun x z => by cases z) p2
  cases hv : valV kvs k with
  | none => obtain ⟨⟨x, hx⟩, _⟩ := h4 hv; cases hx
  | some v => exact ⟨kvs, k, v, h1, h2, hv, h3 v hv⟩
theorem de_pop2 (ho : DE X W o fo) (he : DE X W e fe) (hf : DE X W f ff) (hbase : attributeBase o "pop" X.env (eval o X.env) = eval o X.env := by rfl)
    (hfew : ((backTo cpos (starEach [e, f] X.env)).all (fun x => !x.1) && (backToKw cpos (keywordEach [] X.env)).all (fun x => x.1.isSome)
      && decide (([e, f] : List Expr).length + ([] : List Keyword).length + (if ([] : List Keyword).isEmpty then 0 else 1) < 30)) = true := by rfl)
    (hline : (apos.endLine == cpos.line) = true := by rfl) (htrees : backTo cpos (starEach [e, f] X.env) = [(false, eval e X.env), (false, eval f X.env)] := by rfl) : DE X W (.Call (.Attribute o "pop" apos) [e, f] [] cpos) (popE2 fo fe ff) := by
  obtain ⟨t, p, r⟩ := ho
  obtain ⟨u, q, h⟩ := he
  obtain ⟨u', q', h'⟩ := hf
  refine ⟨_, pe_dpop2 p q q' ⟨hbase, hfew, hline, htrees⟩, fun w H σ s Q R z => ?_⟩
  refine onD_fol r R z fun d s1 w1 H1 a l1 R1 r1 hd p1 => ⟨a, rfl, hd, ?_⟩
  refine h.bnd R1 p1 fun e s2 w2 H2 v2 l2 R2 r2 p2 => ?_
  refine h'.bnd R2 p2 fun x s3 w3 H3 v3 l3 R3 r3 p3 => ?_
  obtain ⟨kvs, k, h1, h2, h3, h4⟩ := pop_at R3 (Rep.up l3 (Rep.up l2 r1)) (Rep.up l3 r2) (fun x z => by cases z; exact r3) p3
  exact ⟨kvs, k, h1, h2, h3, fun hv => (h4 hv).2⟩
end
/-! ### reversed(xs), walked -/
def revI (d : D) : M Wk := fun s => match d with
  | .tup ds => .ok ⟨ds.reverse, fun _ => True⟩ s
  | d => match lstOf s d with
    | some ds => .ok ⟨ds.reverse, fun s' => lstOf s' d = some ds⟩ s
    | none => .bad
theorem rev_get {α : Type} {ds : List α} {i : Nat} (h : i < ds.length) : ds.reverse[i]? = ds[ds.length - 1 - i]? := List.getElem?_reverse h
theorem pI_revL {K : PySem.W.Frag} {w0 : Wd} {a : Addr} {d : D} {ds : List D} (ra : Rep K w0 (.ref a) d) {n : Nat} (hn : n = ds.length) : wkI K w0 (Itv K a n) ⟨ds.reverse, fun s' => lstOf s' d = some ds⟩ := by
  intro w H σ s l R hok i
  obtain ⟨a', vs, e1, h1, h2⟩ := R.list (ra.upW l) hok
  cases e1
  have hl := RepL.length h2
  refine ⟨fun hi => ?_, fun hi => by rw [List.length_reverse] at hi; rw [hn]; exact hi, fun x H' hy d' hd => ?_⟩
  · rw [List.length_reverse] at hi
    obtain ⟨v, hv, _⟩ := RepL.get h2 (List.getElem?_eq_getElem (show ds.length - 1 - i < ds.length by omega))
    exact ⟨by omega, vs, v, h1, by rw [hn]; exact hv⟩
  · obtain ⟨rfl, f⟩ := hy
    have hd : ds.reverse[i]? = some d' := hd
    have hi : i < ds.length := by have := (List.getElem?_eq_some_iff.mp hd).1; rw [List.length_reverse] at this; exact this
    rw [rev_get hi] at hd
    obtain ⟨v, hv, rv⟩ := RepL.get h2 hd
    have e := f vs h1
    rw [hn, hv] at e
    cases e
    exact ⟨w, Le.refl _ _, R, rv⟩
theorem pI_revT {K : PySem.W.Frag} {w0 : Wd} {a : Addr} {ds : List D} (ra : Rep K w0 (.ref a) (.tup ds)) {n : Nat} (hn : n = ds.length) : wkI K w0 (RT.ItvT K a n) ⟨ds.reverse, fun _ => True⟩ := by
  intro w H σ s l R hok i
  obtain ⟨a', vs, e1, h1, h2⟩ := R.tuple (ra.upW l) (ds := ds) rfl
  cases e1
  have hl := RepL.length h2
  refine ⟨fun hi => ?_, fun hi => by rw [List.length_reverse] at hi; rw [hn]; exact hi, fun x H' hy d' hd => ?_⟩
  · rw [List.length_reverse] at hi
    obtain ⟨v, hv, _⟩ := RepL.get h2 (List.getElem?_eq_getElem (show ds.length - 1 - i < ds.length by omega))
    exact ⟨by omega, vs, v, h1, by rw [hn]; exact hv⟩
  · obtain ⟨rfl, f⟩ := hy
    have hd : ds.reverse[i]? = some d' := hd
    have hi : i < ds.length := by have := (List.getElem?_eq_some_iff.mp hd).1; rw [List.length_reverse] at this; exact this
    rw [rev_get hi] at hd
    obtain ⟨v, hv, rv⟩ := RepL.get h2 hd
    have e := f vs h1
    rw [hn, hv] at e
    cases e
    exact ⟨w, Le.refl _ _, R, rv⟩
theorem di_rev {tg e : Expr} {f : M D} {p pos : Pos} (hm : X.mg "reversed" = none) (h : DE X W e f) (hg : Gl X "reversed" := by rfl) (hs : starEach [e] X.env = (false, eval e X.env) :: starEach [] X.env := by rfl) :
    DI X W tg (.Call (.Name "reversed" p) [e] [] pos) (bnd f revI) := by
  obtain ⟨t, q, r⟩ := h
  refine ⟨_, RT.pi_revA hg hm q hs, fun w H σ s R0 R z => ?_⟩
  refine r.bnd R z fun d s1 w1 H1 v l1 R1 r1 p1 => ?_
  unfold revI at p1
  split at p1
  · next ds =>
    obtain ⟨a, vs, e1, h1, h2⟩ := R1.tuple r1 (ds := ds) rfl
    subst e1
    exact ⟨a, vs, rfl, .inr ⟨h1, p1 w1 H1 _ (Le.refl _ _) R1 (pI_revT r1 (RepL.length h2))⟩⟩
  · split at p1
    · next ds hd =>
      obtain ⟨a, vs, e1, h1, h2⟩ := R1.list r1 hd
      subst e1
      exact ⟨a, vs, rfl, .inl ⟨h1, p1 w1 H1 _ (Le.refl _ _) R1 (pI_revL r1 (RepL.length h2))⟩⟩
    · exact p1.elim
end Fx

/-! Fx: d.update(e); d.values(), d.items(), walked under the lock; equations for dicts -/
namespace Fx
open PySem PySem.Spec PyProof.Rows L2
variable {X : Cx} {W : WX}
/-! ### d.update(e), e another dict -/
def tUpd (td te : TE) : TE := fun σ H Q => td σ H fun x H1 => ∃ a, x = .ref a ∧ IsD H1 a ∧ te σ H1 fun y H2 => ∃ (b : Addr) (kvs more : List (Key × V)), y = .ref b ∧ a ≠ b ∧ H2 a = some (.dK kvs) ∧ Rd H2 b (.dK more) ∧ kvs.length + more.length ≤ sizeLine ∧ Q .non (upd H2 a (.dK (mergeK kvs more)))
theorem pe_upd {o e : Expr} {apos cpos : Pos} {td te : TE} (ho : PE X o td) (he : PE X e te) (m : M1 X o "update" apos e cpos) : PE X (.Call (.Attribute o "update" apos) [e] [] cpos) (tUpd td te) :=
  ⟨fun pins s σ H Q I h => wpAny_Call_method m.base m.few m.line PySem.F.plainAttrs_dict PySem.F.slot_dict_update PySem.F.type_dict_update (thn (ho.run pins s σ H _ I h) fun u s1 ⟨x, H1, I1, rx, a, ex, d, q1⟩ => by
    subst ex
    obtain rfl : u = Value.ref a := rx
    obtain ⟨t1, t2, _⟩ := isD_at I1 d
    refine ⟨t1, t2, ?_⟩
    rw [m.trees]
    refine Calls.callWith_builtin rfl (Calls.evalArgs_plain (Calls.spliced_cons (thn (he.run pins s1 σ H1 _ I1 q1) fun iv s2 ⟨y, H2, I2, ry, b, kvs, more, ey, hne, h1, h2, hz, q2⟩ => Calls.spliced_nil ?_)))
    subst ey
    obtain rfl : iv = Value.ref b := ry
    obtain ⟨z, hd, vs, rel, dd⟩ := dk_of I2.hok h1
    obtain ⟨z', hd', vs', rel', dd'⟩ := dk_rd I2.hok h2
    refine call_meetsIn PySem.F.slot_dict_update dd.typeIs PySem.F.entry_dict_update (PySem.F.args_dict_update_2 _ _) (meets_dict_update (mixKind X.prog X.w) a b hne hd') ⟨vs, vs', dd, dd', by rw [← rel.length, ← rel'.length]; exact hz, fun h' k1 k2 hs => ?_⟩
    have hh : ∃ q, h'.get? a = some q := let ⟨q, _, _, hq, _⟩ := k1; ⟨q, hq⟩
    exact ⟨.non, _, d_write (t' := s2.toks) I2 (by rw [h1]; exact True.intro) hs hh (dk_new (Nat.le_trans (length_mergeK more kvs) hz) hd (KV.merge rel' rel) k1), rfl, q2⟩)⟩
def isC (n : Nat) : D → Bool
  | .cell m => m == n
  | _ => false
def updM (d e : D) : M D := fun s => match d, dctR s e with
  | .cell n, some more => match s.vh[n]? with
    | some (.dct kvs) => if (!isC n e && lenOk (kvs.length + more.length)) = true then .ok .non ⟨s.loc, s.vh.set n (.dct (mergeA kvs more))⟩ else .bad
    | _ => .bad
  | _, _ => .bad
def updE (fo fe : M D) : M D := onD fo fun d => bnd fe fun e => updM d e
section
variable {o e : Expr} {fo fe : M D} {apos cpos : Pos}
theorem de_upd (ho : DE X W o fo) (he : DE X W e fe) (hbase : attributeBase o "update" X.env (eval o X.env) = eval o X.env := by rfl)
    (hfew : ((backTo cpos (starEach [e] X.env)).all (fun x => !x.1) && (backToKw cpos (keywordEach [] X.env)).all (fun x => x.1.isSome)
      && decide (([e] : List Expr).length + ([] : List Keyword).length + (if ([] : List Keyword).isEmpty then 0 else 1) < 30)) = true := by rfl)
    (hline : (apos.endLine == cpos.line) = true := by rfl) (htrees : backTo cpos (starEach [e] X.env) = [(false, eval e X.env)] := by rfl) : DE X W (.Call (.Attribute o "update" apos) [e] [] cpos) (updE fo fe) := by
  obtain ⟨t, p, r⟩ := ho
  obtain ⟨u, q, h⟩ := he
  refine ⟨_, pe_upd p q ⟨hbase, hfew, hline, htrees⟩, fun w H σ s Q R z => ?_⟩
  refine onD_fol r R z fun d s1 w1 H1 a l1 R1 r1 hd p1 => ⟨a, rfl, hd, ?_⟩
  refine h.bnd R1 p1 fun e s2 w2 H2 v2 l2 R2 r2 p2 => ?_
  unfold updM at p2
  split at p2
  · next n more hm =>
    split at p2
    · next kvs hn =>
      split at p2
      · next hc =>
        rw [Bool.and_eq_true, Bool.not_eq_true'] at hc
        obtain ⟨a', us, e1, h0, h1, h2⟩ := R2.dictW (Rep.up l2 r1) rfl hn
        cases e1
        obtain ⟨b, us2, e2, h3, h4⟩ := R2.dictR r2 hm
        subst e2
        refine ⟨b, us, us2, rfl, fun z => ?_, h1, h3, ?_, p2 w2 _ _ (Le.write (List.mem_of_getElem? h0)) (R2.setCell h0 ⟨_, upd_same, RepK.merge h4 h2⟩) .non⟩
        · subst z
          cases r2 with
          | @cell _ m h5 =>
            have n1 := (List.getElem?_eq_some_iff.mp h0).1
            have n2 := (List.getElem?_eq_some_iff.mp h5).1
            have := (List.getElem_inj (xs := w2.ρ) (h₀ := n1) (h₁ := n2) R2.nd).mp (by rw [(List.getElem?_eq_some_iff.mp h0).2, (List.getElem?_eq_some_iff.mp h5).2])
            subst this
            have := hc.1
            rw [show isC n (.cell n) = true from beq_self_eq_true n] at this
            cases this
          | tup _ _ => simp [dctR] at hm
          | lst _ _ => simp [dctR] at hm
          | ref _ => simp [dctR] at hm
          | pr _ _ _ => simp [dctR] at hm
        · rw [RepK.length h2, RepK.length h4]
          exact of_decide_eq_true hc.2
      · exact p2.elim
    · exact p2.elim
  · exact p2.elim
end
/-! ### for v in d.values(), for k, v in d.items() -/
def valsI (d : D) : M Wk := fun s => match d with
  | .cell n => match s.vh[n]? with
    | some (.dctL o us kvs) => .ok ⟨kvs.map fun kv => kv.2, fun s' => s'.vh[n]? = some (.dctL o us kvs)⟩ s
    | _ => .bad
  | _ => .bad
def itemsI (d : D) : M Wk := fun s => match d with
  | .cell n => match s.vh[n]? with
    | some (.dctL o us kvs) => .ok ⟨kvs.map fun kv => .pr (dK kv.1) kv.2, fun s' => s'.vh[n]? = some (.dctL o us kvs)⟩ s
    | _ => .bad
  | _ => .bad
theorem RepK.at2 {K : PySem.W.Frag} {w : Wd} {us : List (Key × V)} {kvs : List (Key × D)} (h : RepK K w us kvs) : ∀ {i : Nat} {k : Key} {d : D}, kvs[i]? = some (k, d) → ∃ v, us[i]? = some (k, v) ∧ Rep K w v d := by
  induction h with
  | nil => intro i k d h; simp at h
  | cons r t ih =>
    intro i k d h
    cases i with
    | zero => cases h; exact ⟨_, rfl, r⟩
    | succ i => exact ih h
theorem pI_vals {K : PySem.W.Frag} {w0 : Wd} {a : Addr} {n : Nat} {o : Obj} {us : List (Key × V)} {kvs : List (Key × D)} (r : w0.ρ[n]? = some a) : wkI K w0 (Itd a o us) ⟨kvs.map fun kv => kv.2, fun s' => s'.vh[n]? = some (.dctL o us kvs)⟩ := by
  intro w H σ s l R hok i
  obtain ⟨h1, h2⟩ := R.cells n a _ (l.1 _ _ r) hok
  have hl := RepK.length h2
  refine ⟨fun hi => ⟨h1, by rw [List.length_map] at hi; omega⟩, fun hi => ⟨h1, by rw [List.length_map] at hi; omega⟩, fun x H' hy d hd => ?_⟩
  obtain ⟨rfl, k, hu⟩ := hy
  rw [List.getElem?_map] at hd
  cases e : kvs[i]? with
  | none => rw [e] at hd; cases hd
  | some kv =>
    rw [e] at hd
    cases hd
    obtain ⟨v, h3, h4⟩ := h2.at2 (k := kv.1) (d := kv.2) e
    rw [hu] at h3
    cases h3
    exact ⟨w, Le.refl _ _, R, h4⟩
theorem pI_items {K : PySem.W.Frag} {w0 : Wd} {a : Addr} {n : Nat} {o : Obj} {us : List (Key × V)} {kvs : List (Key × D)} (r : w0.ρ[n]? = some a) : wkI K w0 (Iti a o us) ⟨kvs.map fun kv => .pr (dK kv.1) kv.2, fun s' => s'.vh[n]? = some (.dctL o us kvs)⟩ := by
  intro w H σ s l R hok i
  obtain ⟨h1, h2⟩ := R.cells n a _ (l.1 _ _ r) hok
  have hl := RepK.length h2
  refine ⟨fun hi => ⟨h1, by rw [List.length_map] at hi; omega⟩, fun hi => ⟨h1, by rw [List.length_map] at hi; omega⟩, fun x H' hy d hd => ?_⟩
  obtain ⟨T, k, v, hu, rfl, hn, rfl⟩ := hy
  rw [List.getElem?_map] at hd
  cases e : kvs[i]? with
  | none => rw [e] at hd; cases hd
  | some kv =>
    rw [e] at hd
    cases hd
    obtain ⟨v', h3, h4⟩ := h2.at2 (k := kv.1) (d := kv.2) e
    rw [hu] at h3
    cases h3
    obtain ⟨l2, R2, r2⟩ := R.newP hn (rep_key kv.1) h4
    exact ⟨_, l2, R2, r2⟩
theorem di_vals {tg e : Expr} {f : M D} {apos cpos : Pos} (h : DE X W e f) (hbase : attributeBase e "values" X.env (eval e X.env) = eval e X.env := by rfl) (hline : (apos.endLine == cpos.line) = true := by rfl) : DI X W tg (.Call (.Attribute e "values" apos) [] [] cpos) (bnd f valsI) := by
  obtain ⟨t, p, r⟩ := h
  refine ⟨_, pi_values p hbase hline, fun w H σ s R0 R z => ?_⟩
  refine r.bnd R z fun d s1 w1 H1 v l1 R1 r1 p1 => ?_
  unfold valsI at p1
  split at p1
  · next n =>
    split at p1
    · next o us kvs hvh =>
      cases r1 with
      | @cell a n hr =>
        obtain ⟨h1, h2⟩ := R1.cells n a _ hr hvh
        exact ⟨a, o, us, rfl, h1, p1 w1 H1 _ (Le.refl _ _) R1 (pI_vals hr)⟩
    · exact p1.elim
  · exact p1.elim
theorem di_items {es : List Expr} {kk : Nat} {tpos : Pos} {e : Expr} {f : M D} {apos cpos : Pos} (h : DE X W e f) (hbase : attributeBase e "items" X.env (eval e X.env) = eval e X.env := by rfl) (hline : (apos.endLine == cpos.line) = true := by rfl) : DI X W (.Tuple es kk tpos) (.Call (.Attribute e "items" apos) [] [] cpos) (bnd f itemsI) := by
  obtain ⟨t, p, r⟩ := h
  refine ⟨_, pi_items p hbase hline, fun w H σ s R0 R z => ?_⟩
  refine r.bnd R z fun d s1 w1 H1 v l1 R1 r1 p1 => ?_
  unfold itemsI at p1
  split at p1
  · next n =>
    split at p1
    · next o us kvs hvh =>
      cases r1 with
      | @cell a n hr =>
        obtain ⟨h1, h2⟩ := R1.cells n a _ hr hvh
        exact ⟨a, o, us, rfl, h1, p1 w1 H1 _ (Le.refl _ _) R1 (pI_items hr)⟩
    · exact p1.elim
  · exact p1.elim
/-! ### equations -/
theorem dctR_at {s : S} {n : Nat} {kvs : List (Key × D)} (h : s.vh[n]? = some (.dct kvs)) : dctR s (.cell n) = some kvs := by
  unfold dctR
  dsimp only
  rw [h]
section
variable {fo fk fx fe : M D} {s : S}
theorem x_onD {F : D → M D} : onD fo F s = (fo s).then' fun d s => if (dctR s d).isSome = true then F d s else .bad := nr rfl
theorem x_getE1 : getE1 fo fk s = onD fo (fun d => bnd fk fun e => getM d e .non) s := nr rfl
theorem x_getE2 : getE2 fo fk fx s = onD fo (fun d => bnd fk fun e => bnd fx fun x => getM d e x) s := nr rfl
theorem x_popE1 : popE1 fo fk s = onD fo (fun d => bnd fk fun e => popDM d e none) s := nr rfl
theorem x_popE2 : popE2 fo fk fx s = onD fo (fun d => bnd fk fun e => bnd fx fun x => popDM d e (some x)) s := nr rfl
theorem x_updE : updE fo fe s = onD fo (fun d => bnd fe fun e => updM d e) s := nr rfl
theorem keyD_int {i : Int} : keyD (.int i) = some (.inl i) := rfl
theorem keyD_str {x : Str} : keyD (.str x) = some (.inr x) := rfl
theorem x_getM {n : Nat} {e x : D} {kvs : List (Key × D)} {k : Key} (h : s.vh[n]? = some (.dct kvs)) (hk : keyD e = some k) : getM (.cell n) e x s = .ok ((valA kvs k).getD x) s := by
  unfold getM
  rw [dctR_at h, hk]
theorem x_popM {n : Nat} {e v : D} {xo : Option D} {kvs : List (Key × D)} {k : Key} (h : s.vh[n]? = some (.dct kvs)) (hk : keyD e = some k) (hv : valA kvs k = some v) : popDM (.cell n) e xo s = .ok v ⟨s.loc, s.vh.set n (.dct (dropA kvs k))⟩ := by
  unfold popDM
  rw [hk]
  dsimp only
  rw [h]
  dsimp only
  rw [hv]
theorem x_popN {n : Nat} {e x : D} {kvs : List (Key × D)} {k : Key} (h : s.vh[n]? = some (.dct kvs)) (hk : keyD e = some k) (hv : valA kvs k = none) : popDM (.cell n) e (some x) s = .ok x s := by
  unfold popDM
  rw [hk]
  dsimp only
  rw [h]
  dsimp only
  rw [hv]
theorem x_updM {n m : Nat} {kvs more : List (Key × D)} (h : s.vh[n]? = some (.dct kvs)) (h2 : s.vh[m]? = some (.dct more)) (hn : m ≠ n) (hl : kvs.length + more.length ≤ 16777216) : updM (.cell n) (.cell m) s = .ok .non ⟨s.loc, s.vh.set n (.dct (mergeA kvs more))⟩ := by
  unfold updM
  rw [dctR_at h2]
  dsimp only
  rw [h]
  dsimp only
  rw [if_pos (by rw [lenOk_of hl, show isC n (.cell m) = false from beq_eq_false_iff_ne.mpr hn]; rfl)]
theorem onD_at {n : Nat} {F : D → M D} {kvs : List (Key × D)} {s1 : S} (h0 : fo s = .ok (.cell n) s1) (h : s1.vh[n]? = some (.dct kvs)) : onD fo F s = F (.cell n) s1 := by
  unfold onD bnd
  rw [h0]
  dsimp only
  rw [dctR_at h]
  rfl
theorem x_dictD {n : Nat} {kvs : List (Key × D)} (h : s.vh[n]? = some (.dct kvs)) : dictN [.cell n] s = .ok (.dct kvs) s := by
  unfold dictN
  dsimp only
  rw [dctR_at h]
theorem x_dictT {ds : List D} {kvs : List (Key × D)} (h : pairsD ds = some kvs) : dictN [.tup ds] s = .ok (.dct (mergeA [] kvs)) s := by
  unfold dictN
  dsimp only
  rw [show dctR s (.tup ds) = none from rfl]
  dsimp only
  rw [h]
theorem x_dictL {ds : List D} {kvs : List (Key × D)} (h : pairsD ds = some kvs) : dictN [.lst ds] s = .ok (.dct (mergeA [] kvs)) s := by
  unfold dictN
  dsimp only
  rw [show dctR s (.lst ds) = none from rfl]
  dsimp only
  rw [show lstOf s (.lst ds) = some ds from rfl]
  dsimp only
  rw [h]
theorem x_listD {n : Nat} {kvs : List (Key × D)} (h : s.vh[n]? = some (.dct kvs)) : listDN [.cell n] s = .ok (.lst (kvs.map fun kv => dK kv.1)) s := by
  unfold listDN
  dsimp only
  rw [dctR_at h]
theorem x_revT {ds : List D} : revI (.tup ds) s = .ok ⟨ds.reverse, fun _ => True⟩ s := nr rfl
theorem x_revL {ds : List D} : revI (.lst ds) s = .ok ⟨ds.reverse, fun _ => True⟩ s := by
  have h : (fun s' : S => lstOf s' (.lst ds) = some ds) = fun _ => True := funext fun s' => propext ⟨fun _ => trivial, fun _ => rfl⟩
  show Res.ok (Wk.mk _ (fun s' : S => lstOf s' (.lst ds) = some ds)) s = _
  rw [h]
theorem x_revC {n : Nat} {ds : List D} (h : s.vh[n]? = some (.lst ds)) : revI (.cell n) s = .ok ⟨ds.reverse, fun s' => lstOf s' (.cell n) = some ds⟩ s := by
  unfold revI
  dsimp only
  rw [show lstOf s (.cell n) = some ds by unfold lstOf; dsimp only; rw [h]]
theorem x_valsI {n : Nat} {o : Obj} {us : List (Key × V)} {kvs : List (Key × D)} (h : s.vh[n]? = some (.dctL o us kvs)) : valsI (.cell n) s = .ok ⟨kvs.map fun kv => kv.2, fun s' => s'.vh[n]? = some (.dctL o us kvs)⟩ s := by
  unfold valsI
  dsimp only
  rw [h]
theorem x_itemsI {n : Nat} {o : Obj} {us : List (Key × V)} {kvs : List (Key × D)} (h : s.vh[n]? = some (.dctL o us kvs)) : itemsI (.cell n) s = .ok ⟨kvs.map fun kv => .pr (dK kv.1) kv.2, fun s' => s'.vh[n]? = some (.dctL o us kvs)⟩ s := by
  unfold itemsI
  dsimp only
  rw [h]
theorem x_unpP {i j : Nat} {a b : D} : unp2 i j (.pr a b) s = .ok .nx ⟨(s.loc.set i (some a)).set j (some b), s.vh⟩ := nr rfl
end
/-! ### methods that ask themselves -/
section
variable {P : Program} {wd : World} {K : PySem.W.Frag} {mg : Str → Option Value} {base : Heap} {x m q : Str} {st : Stmt} {ps : List Str} {k : Nat}
theorem TopM.nilP (T : TopM K x m q st ps) : Met P wd K mg base x m k (SpP K ps.length fun _ _ => none) :=
  let ⟨C, f, fd, a, F, M, b⟩ := T.ex
  ⟨C, f, fd, ps, a, M, b, fun _ _ _ _ h => h.1, fun _ _ _ _ _ _ _ _ _ _ _ _ _ h => by obtain ⟨_, _, _, _, _, _, _, _, e, _⟩ := h; cases e⟩
theorem TopM.nilN (T : TopM K x m q st ps) : Met P wd K mg base x m k (SpN K ps.length fun _ _ => none) :=
  let ⟨C, f, fd, a, F, M, b⟩ := T.ex
  ⟨C, f, fd, ps, a, M, b, fun _ _ _ _ h => h.1, fun _ _ _ _ _ _ _ _ _ _ _ _ _ h => by obtain ⟨_, _, _, _, _, _, _, _, e, _⟩ := h; cases e⟩
end
/-! ### isinstance(x, (T, U)), own classes -/
section
variable {X : Cx} {W : WX}
theorem de_iso2 {x T U : Str} {b1 b2 b : Bool} {e : Expr} {f : M D} {p pa pb tpos pos : Pos} {kk : Nat} (hc : ClsP X.K x) (I : IsoP X.K X.mg x T b1) (J : IsoP X.K X.mg x U b2) (hi : X.mg "isinstance" = none) (h : DE X W e f) (hb : (b1 || b2) = b := by rfl) (hg : Gl X "isinstance" := by rfl) (hgA : Gl X T := by rfl) (hgB : Gl X U := by rfl)
    (hdA : (T == ("__debug__" : Str)) = false := by decide) (hdB : (U == ("__debug__" : Str)) = false := by decide)
    (hst : starEach [e, .Tuple [.Name T pa, .Name U pb] kk tpos] X.env = (false, eval e X.env) :: starEach [.Tuple [.Name T pa, .Name U pb] kk tpos] X.env := by rfl)
    (hst2 : starEach [.Tuple [.Name T pa, .Name U pb] kk tpos] X.env = (false, eval (.Tuple [.Name T pa, .Name U pb] kk tpos) X.env) :: starEach [] X.env := by rfl)
    (hst3 : starEach [.Name T pa, .Name U pb] X.env = (false, eval (.Name T pa) X.env) :: starEach [.Name U pb] X.env := by rfl) (hst4 : starEach [.Name U pb] X.env = (false, eval (.Name U pb) X.env) :: starEach [] X.env := by rfl)
    (hpl : (backTo pos (starEach [.Tuple [.Name T pa, .Name U pb] kk tpos] X.env)).any (·.1) = false := by rfl) :
    DE X W (.Call (.Name "isinstance" p) [e, .Tuple [.Name T pa, .Name U pb] kk tpos] [] pos) (bnd f (isoM x b)) := by
  subst hb
  obtain ⟨C, CT, hC, hm, k1, k2, k3, k4, k5⟩ := I.ex
  obtain ⟨C', CU, hC', hm', _, _, _, _, k5'⟩ := J.ex
  cases hC.eq hC'
  obtain ⟨t, q, k⟩ := h
  refine ⟨_, pe_callB call_isiT hg hi (by decide +kernel) (pa_cons q (pa_cons (pe_tup (pa_cons (pe_glob (v := .ref CT) hgA hm rfl hdA) (pa_cons (pe_glob (v := .ref CU) hgB hm' rfl hdB) pa_nil hst4) hst3)) pa_nil hst2) hst) (by decide) (by decide) hst hpl, fun w H σ s Q R z => ?_⟩
  refine k.bnd R z fun d s1 w1 H1 v l1 R1 r1 p1 => ?_
  unfold isoM at p1
  cases ho : objOf s1 x d with
  | none => rw [ho] at p1; exact p1.elim
  | some gs =>
    rw [ho] at p1
    obtain ⟨n, a, C', dx, vs, e0, e1, h1, h2, h3, h4, h5⟩ := R1.obj r1 ho
    cases hC.eq h3
    have kkk : PySem.W.kitAny X.K (.ref C) [.ref CT, .ref CU] = some (b1 || b2) := by
      unfold PySem.W.kitAny
      rw [k5]
      cases b1 with
      | true => rfl
      | false =>
        dsimp only
        unfold PySem.W.kitAny
        rw [k5']
        cases b2 <;> rfl
    refine ⟨by show 2 ≤ sizeLine; decide, fun tp htp => ?_⟩
    have R2 : RS X.K w1 (upd H1 tp (.tup [.ref CT, .ref CU])) σ s1 := R1.laid htp
    have h4' : (upd H1 tp (.tup [.ref CT, .ref CU])) a = some (.ins C dx vs) := by rw [upd_ne (ne_of_none h4 htp)]; exact h4
    refine ⟨v, tp, [.ref CT, .ref CU], .ref C, [.ref CT, .ref CU], b1 || b2, rfl, upd_same, .cons (.own CT) (.cons (.own CU) .nil), by rw [e1]; exact .base (.ins h4' (hc C hC) k1 k2 k3 k4), kkk, ?_⟩
    exact p1 w1 _ _ (Le.laid htp) R2 (Rep.bl _)
end
/-! ### the least of a list of ints -/
section
variable {X : Cx} {W : WX}
def minZ : List Int → Int
  | [] => 0
  | [a] => a
  | a :: b :: r => min a (minZ (b :: r))
theorem minZ_in : ∀ {ns : List Int}, ns ≠ [] → minZ ns ∈ ns ∧ ∀ y ∈ ns, minZ ns ≤ y
  | [a], _ => by simp [minZ]
  | a :: b :: r, _ => by
    obtain ⟨h1, h2⟩ := minZ_in (ns := b :: r) (by simp)
    have e : minZ (a :: b :: r) = min a (minZ (b :: r)) := rfl
    rw [e]
    refine ⟨?_, fun y hy => ?_⟩
    · rcases Int.le_total a (minZ (b :: r)) with h | h
      · rw [Int.min_eq_left h]; exact List.mem_cons_self
      · rw [Int.min_eq_right h]; exact List.mem_cons_of_mem _ h1
    · rcases List.mem_cons.mp hy with q | q
      · rw [q]; exact Int.min_le_left _ _
      · exact Int.le_trans (Int.min_le_right _ _) (h2 y q)
theorem minZ_eq {ns : List Int} {m : Int} (h : m ∈ ns) (k : ∀ y ∈ ns, m ≤ y) : m = minZ ns := by
  have hn : ns ≠ [] := fun z => by rw [z] at h; cases h
  obtain ⟨h1, h2⟩ := minZ_in hn
  have := k _ h1
  have := h2 _ h
  omega
def minlM : List D → M D
  | [d] => fun s => match lstOf s d with
    | some ds => match intsOf ds with
      | some ns => if ns = [] then .bad else .ok (.int (minZ ns)) s
      | none => .bad
    | none => .bad
  | _ => fail
theorem rc_minl : RCal X (rMin X.K) minlM := by
  intro W w H σ s vs ds Q R r p
  unfold minlM at p
  split at p
  · next d =>
    obtain ⟨v, rfl, rv⟩ := one_of r
    split at p
    · next es he =>
      split at p
      · next ns hn =>
        split at p
        · exact p.elim
        · next hne =>
          obtain ⟨a, us, rfl, h1, h2⟩ := R.list rv he
          rw [ints_rep' h2 hn] at h1
          refine ⟨a, ns, rfl, h1, List.length_pos_iff.mpr hne, fun m hm hk => ?_⟩
          rw [minZ_eq hm hk]
          exact Post.here p R (Rep.int _)
      · exact p.elim
    · exact p.elim
  · exact p.elim
theorem de_minl {e : Expr} {fs : M (List D)} {p pos : Pos} (hm : X.mg "min" = none) (ha : DA X W [e] fs) (hc : X.calm = true := by rfl) (hg : Gl X "min" := by rfl) (he : starEach [e] X.env = (false, eval e X.env) :: starEach [] X.env := by rfl) (hpl : (backTo pos (starEach [] X.env)).any (·.1) = false := by rfl) :
    DE X W (.Call (.Name "min" p) [e] [] pos) (bnd fs minlM) := de_callB (cr_min hc) rc_minl hm ha (by decide +kernel) hg (by decide) (by decide) he hpl
theorem x_minl {ns : List Int} {s : S} (h : ns ≠ []) : minlM [.lst (ns.map D.int)] s = .ok (.int (minZ ns)) s := by
  unfold minlM lstOf
  dsimp only
  rw [intsOf_map]
  dsimp only
  rw [if_neg h]
end
end Fx

/-! Fx: defs that may raise -/
namespace Fx
open PySem PySem.Spec PyProof.Rows L2
inductive Rz where
  | ok (d : D) (vh : List Cell)
  | exc (e : Ex) (vh : List Cell)
  | bad
abbrev Xf := List D → List Cell → Rz
/-- what a raise of e asks, where W' is wished of the exceptions as they stand in the heap -/
def LW (K : PySem.W.Frag) (mg : Str → Option Value) (W' : L2.WX) : WX := fun e w H σ => ∀ C, mg e.cls = some (.ref C) →
  (e.fs = [] → W' (.ref C) none σ H) ∧ (e.fs ≠ [] → ∀ d vs, H d = none → RepF K w vs e.fs → W' (.ref C) (some d) σ (upd H d (.xd vs)))
/-- the same, whatever the slots -/
def LE (K : PySem.W.Frag) (mg : Str → Option Value) (E : XK) : WX := LW K mg fun c d _ H => E c d H
def SpX (K : PySem.W.Frag) (mg : Str → Option Value) (n : Nat) (F : Xf) : Sp := fun vs H Q E => vs.length = n ∧ ∃ w σ s ds, RS K w H σ s ∧ RepL K w vs ds ∧ match F ds s.vh with
  | .ok d vh => ∀ w' H' v, Le w H w' H' → RS K w' H' σ ⟨s.loc, vh⟩ → Rep K w' v d → Q v H'
  | .exc e vh => ∀ w' H', Le w H w' H' → RS K w' H' σ ⟨s.loc, vh⟩ → LE K mg E e w' H' σ
  | .bad => False
noncomputable def runXS (n : Nat) (g : M Out) : Xf := fun ds vh => match g (initS n ds vh) with
  | .ok (.rt d) s => .ok d s.vh
  | .ok .nx s => .ok .non s.vh
  | .exc e s => .exc e s.vh
  | _ => .bad
def okP (o : Option D) (vh : List Cell) : Rz := match o with
  | some d => .ok d vh
  | none => .bad
open Classical in
noncomputable def runXP (n : Nat) (g : M Out) : Xf := fun ds vh => match g (initS n ds vh) with
  | .ok (.rt d) s => okP (fin vh s d) vh
  | .ok .nx s => okP (fin vh s .non) vh
  | .exc e s => if s.vh.take vh.length = vh ∧ (e.fs.all fun kv => nc vh.length kv.2) = true then .exc e vh else .bad
  | _ => .bad
def okW (o : Option (D × List Cell)) : Rz := match o with
  | some (d, vh) => .ok d vh
  | none => .bad
noncomputable def runXW (n : Nat) (g : M Out) : Xf := fun ds vh => match g (initS n ds vh) with
  | .ok (.rt d) s => okW (finW vh.length s d)
  | .ok .nx s => okW (finW vh.length s .non)
  | .exc e s => match finW vh.length s .non with
    | some (_, vh') => if (e.fs.all fun kv => nc vh.length kv.2) = true then .exc e vh' else .bad
    | none => .bad
  | _ => .bad
section
variable {P : Program} {wd : World} {K : PySem.W.Frag} {mg : Str → Option Value} {base : Heap} {x qual : Str} {st : Stmt} {f : Addr} {fd : FuncData} {N ps : List Str} {k : Nat} {g : M Out}
theorem fnX_S (F : Fun K x qual st f fd) (Sc : FnScope N ps (defScope st)) (hle : ps.length ≤ N.length)
    (body : ∀ (cdv : Value) (A : Around) (outer : List Env) (s : Shared) (H : Hp) (E : XK), Room k (A.deeper (envOfC qual (defScope st) s.heap.objs.size f cdv)) →
      DSs (cxOf (L2.CX P wd) P wd K mg base N qual (defScope st) f cdv A outer s H E) (LE K mg E) (defBody st) g) : FnOk P wd K mg base (L2.CX P wd) (k + 1) f fd ps (SpX K mg ps.length (runXS N.length g)) := by
  refine F.okX Sc (fun vs H Q E h => h.1) fun cdv A outer s H vs Q E hr h => ?_
  obtain ⟨t, p, r⟩ := body cdv A outer s H E hr
  obtain ⟨hl, w, σ, z, ds, R, rv, m⟩ := h
  refine ⟨t, p, r w H _ (initS N.length ds z.vh) _ (start_ok (ps := ps) R rv) ?_⟩
  show PostS K (LE K mg E) w H (g (initS N.length ds z.vh)) _
  unfold runXS at m
  have back : ∀ {s1 : S} {w' H' σ'}, Le w H w' H' → RS K w' H' σ' s1 → RS K w' H' σ ⟨z.loc, s1.vh⟩ := fun {s1 w' H' σ'} l R' => R'.other (l := z.loc) R.len fun i d hi => by
    obtain ⟨v, h1, h2⟩ := R.loc i d hi
    exact ⟨v, h1, Rep.up l h2⟩
  cases hg : g (initS N.length ds z.vh) with
  | bad => rw [hg] at m; exact m.elim
  | exc e s1 => rw [hg] at m; exact fun w' H' σ' l R' => m w' H' l (back l R')
  | ok o s1 =>
    rw [hg] at m
    cases o with
    | brk => exact m.elim
    | cnt => exact m.elim
    | rt d0 => exact fun w' H' σ' v l R' rv => m w' H' v l (back l R') rv
    | nx => exact fun w' H' σ' l R' => m w' H' .non l (back l R') .non
theorem nc_fields {b : Nat} {w : Wd} {H : Hp} : ∀ {vs : List (Str × V)} {ds : List (Str × D)}, RepF K w vs ds → (ds.all fun kv => nc b kv.2) = true → RepF K (w.fall b H) vs ds
  | _, _, .nil, _ => .nil
  | _, _, .cons h t, c => by
    rw [List.all_cons, Bool.and_eq_true] at c
    exact .cons (nc_rep h c.1) (nc_fields t c.2)
theorem cut_fields {b : Nat} {w : Wd} : ∀ {vs : List (Str × V)} {ds : List (Str × D)}, RepF K w vs ds → (ds.all fun kv => nc b kv.2) = true → RepF K (w.cut b) vs ds := fun h c => cut_repF h c
theorem fnX_P (F : Fun K x qual st f fd) (Sc : FnScope N ps (defScope st)) (hle : ps.length ≤ N.length)
    (body : ∀ (cdv : Value) (A : Around) (outer : List Env) (s : Shared) (H : Hp) (E : XK), Room k (A.deeper (envOfC qual (defScope st) s.heap.objs.size f cdv)) →
      DSs (cxOf (L2.CX P wd) P wd K mg base N qual (defScope st) f cdv A outer s H E) (LE K mg E) (defBody st) g) : FnOk P wd K mg base (L2.CX P wd) (k + 1) f fd ps (SpX K mg ps.length (runXP N.length g)) := by
  refine F.okX Sc (fun vs H Q E h => h.1) fun cdv A outer s H vs Q E hr h => ?_
  obtain ⟨t, p, r⟩ := body cdv A outer s H E hr
  obtain ⟨hl, w, σ, z, ds, R, rv, m⟩ := h
  refine ⟨t, p, r w H _ (initS N.length ds z.vh) _ (start_ok (ps := ps) R rv) ?_⟩
  show PostS K (LE K mg E) w H (g (initS N.length ds z.vh)) _
  unfold runXP at m
  have fin_ok : ∀ {d0 : D} {s1 : S}, (match okP (fin z.vh s1 d0) z.vh with
      | .ok d vh => ∀ w' H' v, Le w H w' H' → RS K w' H' σ ⟨z.loc, vh⟩ → Rep K w' v d → Q v H'
      | .exc e vh => ∀ w' H', Le w H w' H' → RS K w' H' σ ⟨z.loc, vh⟩ → LE K mg E e w' H' σ
      | .bad => False) → ∀ w' H' σ' v, Le w H w' H' → RS K w' H' σ' s1 → Rep K w' v d0 → Q v H' := fun {d0 s1} e w' H' σ' v l R' rv => by
    cases hf : fin z.vh s1 d0 with
    | none => rw [hf] at e; exact e.elim
    | some d =>
      rw [hf] at e
      unfold fin at hf
      split at hf
      · next hp =>
        obtain ⟨l2, R2⟩ := RS.back R l R' hp rfl
        exact e _ _ _ l2 R2 (thaw_rep R' 8 rv hf)
      · cases hf
  cases hg : g (initS N.length ds z.vh) with
  | bad => rw [hg] at m; exact m.elim
  | exc e s1 =>
    rw [hg] at m
    dsimp only at m
    intro w' H' σ' l R'
    by_cases hp : s1.vh.take z.vh.length = z.vh ∧ (e.fs.all fun kv => nc z.vh.length kv.2) = true
    · rw [if_pos hp] at m
      obtain ⟨h1, h2⟩ := hp
      obtain ⟨l2, R2⟩ := RS.back R l R' h1 rfl
      have := m _ _ l2 R2
      intro C hC
      exact ⟨(this C hC).1, fun hne d vs hd rf => (this C hC).2 hne d vs hd (nc_fields rf h2)⟩
    · rw [if_neg hp] at m; exact m.elim
  | ok o s1 =>
    rw [hg] at m
    cases o with
    | brk => exact m.elim
    | cnt => exact m.elim
    | rt d0 => exact fun w' H' σ' v l R' rv => fin_ok m w' H' σ' v l R' rv
    | nx => exact fun w' H' σ' l R' => fin_ok m w' H' σ' .non l R' .non
theorem fnX_W (F : Fun K x qual st f fd) (Sc : FnScope N ps (defScope st)) (hle : ps.length ≤ N.length)
    (body : ∀ (cdv : Value) (A : Around) (outer : List Env) (s : Shared) (H : Hp) (E : XK), Room k (A.deeper (envOfC qual (defScope st) s.heap.objs.size f cdv)) →
      DSs (cxOf (L2.CX P wd) P wd K mg base N qual (defScope st) f cdv A outer s H E) (LE K mg E) (defBody st) g) : FnOk P wd K mg base (L2.CX P wd) (k + 1) f fd ps (SpX K mg ps.length (runXW N.length g)) := by
  refine F.okX Sc (fun vs H Q E h => h.1) fun cdv A outer s H vs Q E hr h => ?_
  obtain ⟨t, p, r⟩ := body cdv A outer s H E hr
  obtain ⟨hl, w, σ, z, ds, R, rv, m⟩ := h
  refine ⟨t, p, r w H _ (initS N.length ds z.vh) _ (start_ok (ps := ps) R rv) ?_⟩
  show PostS K (LE K mg E) w H (g (initS N.length ds z.vh)) _
  unfold runXW at m
  have cut : ∀ {d0 : D} {s1 : S} {d : D} {vh : List Cell}, finW z.vh.length s1 d0 = some (d, vh) → ∀ w' H' σ', Le w H w' H' → RS K w' H' σ' s1 → (∀ v, Rep K w' v d0 → Rep K (w'.cut z.vh.length) v d) ∧ Le w H (w'.cut z.vh.length) H' ∧ RS K (w'.cut z.vh.length) H' σ ⟨z.loc, vh⟩ := fun {d0 s1 d vh} e w' H' σ' l R' => by
    unfold finW at e
    split at e
    · next h1 =>
      split at e
      · next h2 =>
        split at e
        · next h3 =>
          cases e
          rw [List.all_eq_true] at h2
          obtain ⟨l2, R2⟩ := RS.cut R l R' rfl h1 h2
          exact ⟨fun v rv => cut_rep rv h3, l2, R2⟩
        · cases e
      · cases e
    · cases e
  have fin_ok : ∀ {d0 : D} {s1 : S}, (match okW (finW z.vh.length s1 d0) with
      | .ok d vh => ∀ w' H' v, Le w H w' H' → RS K w' H' σ ⟨z.loc, vh⟩ → Rep K w' v d → Q v H'
      | .exc e vh => ∀ w' H', Le w H w' H' → RS K w' H' σ ⟨z.loc, vh⟩ → LE K mg E e w' H' σ
      | .bad => False) → ∀ w' H' σ' v, Le w H w' H' → RS K w' H' σ' s1 → Rep K w' v d0 → Q v H' := fun {d0 s1} e w' H' σ' v l R' rv => by
    cases hf : finW z.vh.length s1 d0 with
    | none => rw [hf] at e; exact e.elim
    | some p =>
      obtain ⟨d, vh⟩ := p
      rw [hf] at e
      obtain ⟨a, b, c⟩ := cut hf w' H' σ' l R'
      exact e _ _ _ b c (a v rv)
  cases hg : g (initS N.length ds z.vh) with
  | bad => rw [hg] at m; exact m.elim
  | exc e s1 =>
    rw [hg] at m
    dsimp only at m
    intro w' H' σ' l R'
    cases hf : finW z.vh.length s1 .non with
    | none => rw [hf] at m; exact m.elim
    | some p =>
      obtain ⟨d, vh⟩ := p
      rw [hf] at m
      dsimp only at m
      by_cases h2 : (e.fs.all fun kv => nc z.vh.length kv.2) = true
      · rw [if_pos h2] at m
        obtain ⟨a, b, c⟩ := cut hf w' H' σ' l R'
        have := m _ _ b c
        intro C hC
        exact ⟨(this C hC).1, fun hne d vs hd rf => (this C hC).2 hne d vs hd (cut_fields rf h2)⟩
      · rw [if_neg h2] at m; exact m.elim
  | ok o s1 =>
    rw [hg] at m
    cases o with
    | brk => exact m.elim
    | cnt => exact m.elim
    | rt d0 => exact fun w' H' σ' v l R' rv => fin_ok m w' H' σ' v l R' rv
    | nx => exact fun w' H' σ' l R' => fin_ok m w' H' σ' .non l R' .non
end
/-! ### calls of such defs -/
structure FnX (P : Program) (wd : World) (K : PySem.W.Frag) (mg : Str → Option Value) (base : Heap) (x : Str) (n k : Nat) (F : Xf) : Prop where
  ex : ∃ (f : Addr) (fd : FuncData) (ps : List Str), mg x = some (.ref f) ∧ PySem.W.keepIn K (.ref f) = true ∧ Binds K fd ps [] ∧ FnOk P wd K mg base (L2.CX P wd) k f fd ps (SpX K mg n F)
structure MetX (P : Program) (wd : World) (K : PySem.W.Frag) (mg : Str → Option Value) (base : Heap) (x m : Str) (n k : Nat) (F : Xf) : Prop where
  ex : ∃ (C f : Addr) (fd : FuncData) (ps : List Str), clsIn K x C ∧ Meth K C m f ∧ Binds K fd ps [] ∧ FnOk P wd K mg base (L2.CX P wd) k f fd ps (SpX K mg n F)
def rzM (r : Rz) : M D := fun s => match r with
  | .ok d vh => .ok d ⟨s.loc, vh⟩
  | .exc e vh => .exc e ⟨s.loc, vh⟩
  | .bad => .bad
def callX (n : Nat) (F : Xf) (ds : List D) : M D := fun s => if ds.length = n then rzM (F ds s.vh) s else .bad
section
variable {X : Cx} {W' : L2.WX} {n k : Nat} {F : Xf} {x m : Str} {e o : Expr} {es : List Expr} {fo : M D} {fs : M (List D)} {p pos apos : Pos}
theorem ansX {w : Wd} {H : Hp} {σ : L2.St} {s : S} {vs : List V} {ds : List D} {Q : V → Hp → Prop} (R : RS X.K w H σ s) (r : RepL X.K w vs ds) (z : Post X.K (LW X.K X.mg W') (pD X.K) w H σ (callX n F ds s) Q) : SpX X.K X.mg n F vs H Q (WE W' σ) := by
  unfold callX at z
  split at z
  · next hl =>
    refine ⟨(RepL.length r).trans hl, w, σ, s, ds, R, r, ?_⟩
    unfold rzM at z
    cases hF : F ds s.vh with
    | ok d vh => rw [hF] at z; exact fun w' H' v l R' r' => z w' H' v l R' r'
    | exc e vh => rw [hF] at z; exact fun w' H' l R' => z w' H' l R'
    | bad => rw [hF] at z; exact z.elim
  · exact z.elim
theorem de_callX (h : FnX X.prog X.w X.K X.mg X.base x n k F) (tk : L2.Takes X W') (hr : Room k X.A) (ha : DA X (LW X.K X.mg W') (e :: es) fs) (hg : Gl X x := by rfl) (hdb : (x == ("__debug__" : Str)) = false := by decide)
    (he : starEach (e :: es) X.env = (false, eval e X.env) :: starEach es X.env := by rfl) (hpl : (backTo pos (starEach es X.env)).any (·.1) = false := by rfl) : DE X (LW X.K X.mg W') (.Call (.Name x p) (e :: es) [] pos) (bnd fs (callX n F)) := by
  obtain ⟨f, fd, ps, hm, hk, hb, G⟩ := h.ex
  obtain ⟨t, q, r⟩ := ha
  exact ⟨_, pe_callS G hr hg hm hk hb (fun σ => passAt tk σ) q hdb he hpl, fun w H σ s Q R z => r.bnd R z fun ds s1 w1 H1 vs l1 R1 r1 p1 => ansX R1 r1 p1⟩
/-- o.m(e, ..), what is let out told by the slots -/
def tMethS (C : Addr) (m : Str) (sp : Sp) (E : L2.St → XK) (ta : TE) (t : TA) : TE := fun σ H Q => ta σ H fun x H1 => ∃ a dx fs, x = .ref a ∧ H1 a = some (.ins C dx fs) ∧ fs.lookup m = none ∧ t σ H1 fun vs H2 => sp (.ref a :: vs) H2 Q (E σ)
theorem pe_methS {CX : CXT} {f C : Addr} {fd : FuncData} {ps : List Str} {sp : Sp} {E : L2.St → XK} {ta : TE} {t : TA} {pl : Sem Bool} (he : PE X o ta) (c : Cls X.K C) (hm : Meth X.K C m f) (G : FnOk X.prog X.w X.K X.mg X.base CX k f fd ps sp) (hr : Room k X.A) (hb : Binds X.K fd ps []) (hx : ∀ σ, PassesAt CX X σ (E σ)) (ha : PA X (e :: es) t)
    (hst : starEach (e :: es) X.env = (false, eval e X.env) :: starEach es X.env := by rfl) (hpl : (backTo pos (starEach es X.env)).any (·.1) = false := by rfl)
    (ht : eval (.Call (.Attribute o m apos) (e :: es) [] pos) X.env = (do
      let ov ← eval o X.env
      standAt apos.atName
      let (f, first) ← holding [ov] (getMethod ov m pl)
      callWith pos f first (backTo pos (starEach (e :: es) X.env)) (backToKw pos (keywordEach [] X.env))) := by rfl) :
    PE X (.Call (.Attribute o m apos) (e :: es) [] pos) (tMethS C m sp E ta t) := by
  refine ⟨fun pins s σ H Q I h => PySem.W.methodCall_KW (pl := pl) (thn (he.run pins s σ H _ I h) fun u s1 ⟨x, H1, I1, rx, a, dx, fs, ex, ea, l, q⟩ => ?_) ht⟩
  subst ex
  obtain rfl : u = Value.ref a := rx
  exact getmeth_ok I1 ea c hm l (PySem.W.callWith_K (first := [.ref a]) (h₀ := X.base) I.ok.mod.kin hm.kp (thn (ha.run pos pins s1 σ H1 _ I1 q) fun us s2 ⟨vs, H2, I2, r, q2⟩ => ⟨I2.kIn, run_fnS (us := .ref a :: us) (vs := .ref a :: vs) G hr hb (hx σ) I2 (.cons rfl r) q2⟩) hst hpl)
theorem pe_methS0 {CX : CXT} {f C : Addr} {fd : FuncData} {ps : List Str} {sp : Sp} {E : L2.St → XK} {ta : TE} {pl : Sem Bool} (he : PE X o ta) (c : Cls X.K C) (hm : Meth X.K C m f) (G : FnOk X.prog X.w X.K X.mg X.base CX k f fd ps sp) (hr : Room k X.A) (hb : Binds X.K fd ps []) (hx : ∀ σ, PassesAt CX X σ (E σ))
    (ht : eval (.Call (.Attribute o m apos) [] [] pos) X.env = (do
      let ov ← eval o X.env
      standAt apos.atName
      let (f, first) ← holding [ov] (getMethod ov m pl)
      callWith pos f first (backTo pos (starEach [] X.env)) (backToKw pos (keywordEach [] X.env))) := by rfl) :
    PE X (.Call (.Attribute o m apos) [] [] pos) (tMethS C m sp E ta tNil) := by
  refine ⟨fun pins s σ H Q I h => PySem.W.methodCall_KW (pl := pl) (thn (he.run pins s σ H _ I h) fun u s1 ⟨x, H1, I1, rx, a, dx, fs, ex, ea, l, q⟩ => ?_) ht⟩
  subst ex
  obtain rfl : u = Value.ref a := rx
  exact getmeth_ok I1 ea c hm l (PySem.W.callWith_K0 (first := [.ref a]) I1.kIn hm.kp (run_fnS (us := [.ref a]) (vs := [.ref a]) G hr hb (hx σ) I1 (.cons rfl .nil) q))
theorem de_metX (hc : ClsP X.K x) (h : MetX X.prog X.w X.K X.mg X.base x m n k F) (tk : L2.Takes X W') (hr : Room k X.A) (ho : DE X (LW X.K X.mg W') o fo) (ha : DA X (LW X.K X.mg W') (e :: es) fs) {pl : Sem Bool}
    (hst : starEach (e :: es) X.env = (false, eval e X.env) :: starEach es X.env := by rfl) (hpl : (backTo pos (starEach es X.env)).any (·.1) = false := by rfl)
    (ht : eval (.Call (.Attribute o m apos) (e :: es) [] pos) X.env = (do
      let ov ← eval o X.env
      standAt apos.atName
      let (f, first) ← holding [ov] (getMethod ov m pl)
      callWith pos f first (backTo pos (starEach (e :: es) X.env)) (backToKw pos (keywordEach [] X.env))) := by rfl) :
    DE X (LW X.K X.mg W') (.Call (.Attribute o m apos) (e :: es) [] pos) (metM x m fo fs (callX n F)) := by
  obtain ⟨C, f, fd, ps, hC, hm, hb, G⟩ := h.ex
  obtain ⟨to, po, ro⟩ := ho
  obtain ⟨t, q, r⟩ := ha
  refine ⟨_, pe_methS (pl := pl) po (hc C hC) hm G hr hb (fun σ => passAt tk σ) q hst hpl ht, fun w H σ s Q R z => ?_⟩
  refine ro.bnd R z fun d s1 w1 H1 v l1 R1 r1 p1 => ?_
  split at p1
  · next gs hgs =>
    split at p1
    · next hl =>
      obtain ⟨n, a, C', dx, vs, e0, e1, h1, h2, h3, h4, h5⟩ := R1.obj r1 hgs
      cases hC.eq h3
      refine ⟨a, dx, vs, e1, h4, RepF.lookN h5 hl, ?_⟩
      refine r.bnd R1 p1 fun ds s2 w2 H2 us l2 R2 r2 p2 => ?_
      rw [← e1]
      exact ansX R2 (.cons (r1.up l2) r2) p2
    · exact p1.elim
  · exact p1.elim
theorem de_metX0 (hc : ClsP X.K x) (h : MetX X.prog X.w X.K X.mg X.base x m n k F) (tk : L2.Takes X W') (hr : Room k X.A) (ho : DE X (LW X.K X.mg W') o fo) {pl : Sem Bool}
    (ht : eval (.Call (.Attribute o m apos) [] [] pos) X.env = (do
      let ov ← eval o X.env
      standAt apos.atName
      let (f, first) ← holding [ov] (getMethod ov m pl)
      callWith pos f first (backTo pos (starEach [] X.env)) (backToKw pos (keywordEach [] X.env))) := by rfl) :
    DE X (LW X.K X.mg W') (.Call (.Attribute o m apos) [] [] pos) (metM0 x m fo (callX n F)) := by
  obtain ⟨C, f, fd, ps, hC, hm, hb, G⟩ := h.ex
  obtain ⟨to, po, ro⟩ := ho
  refine ⟨_, pe_methS0 (pl := pl) po (hc C hC) hm G hr hb (fun σ => passAt tk σ) ht, fun w H σ s Q R z => ?_⟩
  refine ro.bnd R z fun d s1 w1 H1 v l1 R1 r1 p1 => ?_
  split at p1
  · next gs hgs =>
    split at p1
    · next hl =>
      obtain ⟨n, a, C', dx, vs, e0, e1, h1, h2, h3, h4, h5⟩ := R1.obj r1 hgs
      cases hC.eq h3
      refine ⟨a, dx, vs, e1, h4, RepF.lookN h5 hl, ?_⟩
      rw [← e1]
      exact ansX R1 (.cons r1 .nil) p1
    · exact p1.elim
  · exact p1.elim
end
end Fx

/-! Fx: raise -/
namespace Fx
open PySem PySem.Spec PyProof.Rows L2
/-- a class of errors without an own __init__ -/
structure Xc0 (K : PySem.W.Frag) (mg : Str → Option Value) (x : Str) : Prop where
  ex : ∃ C, mg x = some (.ref C) ∧ PySem.W.excIn K C [.type "ValueError", .type "Exception", .type "BaseException", .type "object"] "ValueError.__new__" = true ∧ PySem.W.keepIn K (.ref C) = true ∧
    PySem.W.subIn K (.ref C) (.type "BaseException") = some true ∧ PySem.W.typeIn K (.ref C) = some (.type "type")
section
variable {X : Cx} {W' : L2.WX} {x : Str} {C : Addr} {p pos pos' : Pos}
theorem pmk_own0 (q : PySem.W.excIn X.K C [.type "ValueError", .type "Exception", .type "BaseException", .type "object"] "ValueError.__new__" = true) (gC : X.mg x = some (.ref C)) (kC : PySem.W.keepIn X.K (.ref C) = true) (r : Raises X (.ref C)) (hg : Gl X x)
    (hdb : (x == ("__debug__" : Str)) = false := by decide) : PMk X (.Call (.Name x p) [] [] pos) (fun _ H Q => Q (.ref C) none H) := by
  intro pins s σ H Q I h
  refine wpAny_Call_Name_kw (ld_glob I hg gC ?_ hdb)
  refine PySem.W.callWith_K0 (first := []) I.kIn kC ?_
  show wpAny _ _ (call (.ref C) []) _ _ _
  obtain ⟨bm, N, nm, qn, bs, hdct, sn, sub, ab, col, dd, k0, k1, k2, k3, k5, mN, hC, hN, hni, T⟩ := exc_obj I.kIn q
  exact wpAny_call_exc_subT PySem.F.excBase_ValueError T hC hN hni (fun h' e hm => mk_of I hm r h (I.hok.gone hm.new)) (by show 0 ≤ sizeLine; omega)
def raiseM (x : Str) (ns : List Str) (ds : List D) : M Out := fun s => if ds.length = ns.length then .exc ⟨x, (ns.zip ds).reverse⟩ s else .bad
theorem ds_raise0 (q : Xc0 X.K X.mg x) (tk : L2.Takes X W') (hc : X.calm = true := by rfl) (hg : Gl X x := by rfl) (hdb : (x == ("__debug__" : Str)) = false := by decide) : DS X (LW X.K X.mg W') (.Raise (some (.Call (.Name x p) [] [] pos)) none pos') (raiseM x [] []) := by
  obtain ⟨C, gC, e1, e2, e3, e4⟩ := q.ex
  refine ⟨_, ps_raise hc tk (pmk_own0 e1 gC e2 (raises_own e3 e4) hg hdb), fun w H σ s D R z => ?_⟩
  have z : PostS X.K (LW X.K X.mg W') w H (.exc ⟨x, []⟩ s) D := z
  exact (z w H σ (Le.refl w H) R C gC).1 rfl
end
/-! ### errors that keep what they are made of -/
def SpE (K : PySem.W.Frag) (ns : List Str) : Sp := fun vs H Q _ => ∃ (a C : Addr) (us : List V), vs = .ref a :: us ∧ us.length = ns.length ∧ H a = some (exo a C none) ∧ OexC K C ∧ (∀ f ∈ ns, PySem.W.findIn K (.ref C) f = some none) ∧
  ∀ d, H d = none → d ≠ a → Q .non (upd (upd H d (exd d (ns.zip us).reverse)) a (exo a C (some d)))
structure Xc1 (P : Program) (wd : World) (K : PySem.W.Frag) (mg : Str → Option Value) (base : Heap) (x : Str) (ns : List Str) (k : Nat) : Prop where
  ex : ∃ (C fI : Addr) (fd : FuncData) (ps : List Str), mg x = some (.ref C) ∧ OexC K C ∧ (∀ f ∈ ns, PySem.W.findIn K (.ref C) f = some none) ∧ PySem.W.findIn K (.ref C) "__init__" = some (some (.ref fI)) ∧ PySem.W.typeIn K (.ref fI) = some (.type "function") ∧ Binds K fd ps [] ∧
    FnOk P wd K mg base CX0 k fI fd ps (SpE K ns)
section
variable {P : Program} {wd : World} {K : PySem.W.Frag} {mg : Str → Option Value} {base : Heap} {qual n m : Str} {st : Stmt} {f : Addr} {fd : FuncData} {N ps : List Str} {k : Nat}
theorem sv {us : List V} {N : List Str} {i : Nat} {v : V} (h : us[i]? = some v) : (start N us)[i]? = some (some v) := by
  have hi := (List.getElem?_eq_some_iff.mp h).1
  show (us.map some ++ _)[i]? = _
  rw [List.getElem?_append_left (by rw [List.length_map]; exact hi), List.getElem?_map, h]
  rfl
theorem init1 (F : Fun K "__init__" qual st f fd) (Sc : FnScope N ps (defScope st)) (h2 : ps.length = 2)
    (body : ∀ (cdv : Value) (A : Around) (outer : List Env) (s : Shared) (H : Hp) (E : XK), PSs (cxOf CX0 P wd K mg base N qual (defScope st) f cdv A outer s H E).nox (defBody st) (tOst K n (tVar 0) (tVar 1))) : FnOk P wd K mg base CX0 (k + 1) f fd ps (SpE K [n]) := by
  refine F.ok Sc (fun vs H Q E h => ?_) fun cdv A outer s H vs Q E hr h => ?_
  · obtain ⟨a, C, us, e, l, _⟩ := h
    rw [e, List.length_cons, l, h2]; rfl
  · obtain ⟨a, C, us, e, l, ea, T, hf, q⟩ := h
    subst e
    cases us with
    | nil => cases l
    | cons y r =>
      cases r with
      | cons _ _ => cases l
      | nil =>
        exact ⟨_, body cdv A outer s H E, y, sv rfl, .ref a, sv rfl, a, C, rfl, T, hf n List.mem_cons_self, .inl ⟨ea, fun dx hd hne => q dx hd hne⟩⟩
theorem init2 (F : Fun K "__init__" qual st f fd) (Sc : FnScope N ps (defScope st)) (h2 : ps.length = 3)
    (body : ∀ (cdv : Value) (A : Around) (outer : List Env) (s : Shared) (H : Hp) (E : XK), PSs (cxOf CX0 P wd K mg base N qual (defScope st) f cdv A outer s H E).nox (defBody st) (tSeq (tOst K n (tVar 0) (tVar 1)) (tOst K m (tVar 0) (tVar 2)))) : FnOk P wd K mg base CX0 (k + 1) f fd ps (SpE K [n, m]) := by
  refine F.ok Sc (fun vs H Q E h => ?_) fun cdv A outer s H vs Q E hr h => ?_
  · obtain ⟨a, C, us, e, l, _⟩ := h
    rw [e, List.length_cons, l, h2]; rfl
  · obtain ⟨a, C, us, e, l, ea, T, hf, q⟩ := h
    subst e
    cases us with
    | nil => cases l
    | cons y r =>
      cases r with
      | nil => cases l
      | cons y2 r =>
        cases r with
        | cons _ _ => cases l
        | nil =>
          refine ⟨_, body cdv A outer s H E, y, sv rfl, .ref a, sv rfl, a, C, rfl, T, hf n List.mem_cons_self, .inl ⟨ea, fun dx hd hne => ?_⟩⟩
          refine ⟨y2, sv rfl, .ref a, sv rfl, a, C, rfl, T, hf m (List.mem_cons_of_mem _ List.mem_cons_self), .inr ⟨dx, [(n, y)], upd_same, ?_, (by show 1 ≤ 900; decide), ?_⟩⟩
          · rw [upd_ne hne, upd_same]
          · have := q dx hd hne
            have e : upd (upd (upd H dx (exd dx [(n, y)])) a (exo a C (some dx))) dx (exd dx [(m, y2), (n, y)]) = upd (upd H dx (exd dx [(m, y2), (n, y)])) a (exo a C (some dx)) := by
              funext b
              by_cases h1 : b = dx
              · subst h1; rw [upd_same, upd_ne hne, upd_same]
              · rw [upd_ne h1]
                by_cases h3 : b = a
                · subst h3; rw [upd_same, upd_same]
                · rw [upd_ne h3, upd_ne h3, upd_ne h1, upd_ne h1]
            show Q .non (upd (upd (upd H dx (exd dx [(n, y)])) a (exo a C (some dx))) dx (exd dx [(m, y2), (n, y)]))
            rw [e]
            exact this
end
section
variable {X : Cx} {W' : L2.WX} {x : Str} {ns : List Str} {k : Nat} {e : Expr} {es : List Expr} {fs : M (List D)} {p pos pos' : Pos}
theorem repF_zip {K : PySem.W.Frag} {w : Wd} : ∀ {ns : List Str} {vs : List V} {ds : List D}, RepL K w vs ds → RepF K w (ns.zip vs) (ns.zip ds)
  | [], _, _, _ => .nil
  | _ :: _, _, _, .nil => .nil
  | _ :: ns, _, _, .cons h t => .cons h (repF_zip t)
theorem repF_app {K : PySem.W.Frag} {w : Wd} : ∀ {vs us : List (Str × V)} {ds es : List (Str × D)}, RepF K w vs ds → RepF K w us es → RepF K w (vs ++ us) (ds ++ es)
  | _, _, _, _, .nil, s => s
  | _, _, _, _, .cons h t, s => .cons h (repF_app t s)
theorem repF_rev {K : PySem.W.Frag} {w : Wd} : ∀ {vs : List (Str × V)} {ds : List (Str × D)}, RepF K w vs ds → RepF K w vs.reverse ds.reverse
  | _, _, .nil => .nil
  | _, _, .cons h t => by
    rw [List.reverse_cons, List.reverse_cons]
    exact repF_app (repF_rev t) (.cons h .nil)
theorem ds_raise1 (q : Xc1 X.prog X.w X.K X.mg X.base x ns k) (hn : ns ≠ []) (hn2 : ns.length ≤ 10) (tk : L2.Takes X W') (hr : Room (k + 1) X.A) (ha : DA X (LW X.K X.mg W') (e :: es) fs) (hc : X.calm = true := by rfl) (hg : Gl X x := by rfl) (hdb : (x == ("__debug__" : Str)) = false := by decide)
    (he : starEach (e :: es) X.env = (false, eval e X.env) :: starEach es X.env := by rfl) (hpl : (backTo pos (starEach es X.env)).any (·.1) = false := by rfl) : DS X (LW X.K X.mg W') (.Raise (some (.Call (.Name x p) (e :: es) [] pos)) none pos') (bnd fs (raiseM x ns)) := by
  obtain ⟨C, fI, fd, ps, gC, T, hno, iC, tI, hb, G⟩ := q.ex
  obtain ⟨t, qa, r⟩ := ha
  refine ⟨_, ps_raise hc tk (pmk_oex T iC tI G hr hb .nil pass0 hg gC qa hdb he hpl), fun w H σ s D R z => ?_⟩
  refine r.bndS R z fun ds s1 w1 H1 vs l1 R1 r1 p1 => ?_
  unfold raiseM at p1
  split at p1
  · next hl =>
    have hv : vs.length = ns.length := (RepL.length r1).trans hl
    refine ⟨by omega, fun a ha => ⟨a, C, vs, by rw [List.append_nil], hv, upd_same, T, hno, fun d hd hne => ?_⟩⟩
    have hd1 : H1 d = none := by rw [upd_ne hne] at hd; exact hd
    refine ⟨rfl, d, (ns.zip vs).reverse, upd_same, by rw [upd_ne hne, upd_same], hd1, ?_⟩
    have eH : upd (del (upd (upd (upd H1 a (exo a C none)) d (exd d (ns.zip vs).reverse)) a (exo a C (some d))) a) d (.xd (ns.zip vs).reverse) = upd H1 d (.xd (ns.zip vs).reverse) := by
      funext b
      by_cases h1 : b = d
      · subst h1; rw [upd_same, upd_same]
      · rw [upd_ne h1, upd_ne h1]
        by_cases h2 : b = a
        · subst h2; rw [del_same, ha]
        · rw [del_ne h2, upd_ne h2, upd_ne h1, upd_ne h2]
    rw [eH]
    have hne : (⟨x, (ns.zip ds).reverse⟩ : Ex).fs ≠ [] := fun z => by
      have z : (ns.zip ds).reverse = [] := z
      have z2 := congrArg List.length z
      rw [List.length_reverse, List.length_zip, hl, Nat.min_self] at z2
      exact hn (List.length_eq_zero_iff.mp z2)
    have p1 : PostS X.K (LW X.K X.mg W') w1 H1 (.exc ⟨x, (ns.zip ds).reverse⟩ s1) D := p1
    exact (p1 w1 H1 σ (Le.refl w1 H1) R1 C gC).2 hne d _ hd1 (repF_rev (repF_zip r1))
  · exact p1.elim
end
end Fx

/-! Fx: try .. except -/
namespace Fx
open PySem PySem.Spec PyProof.Rows L2
/-- the caught error, as the world knows it -/
structure XAt (K : PySem.W.Frag) (mg : Str → Option Value) (cls : Value) (d : Option Addr) (e : Ex) (w : Wd) : Prop where
  cl : ∃ C, mg e.cls = some (.ref C) ∧ cls = .ref C
  fs : (e.fs = [] ∧ d = none) ∨ ∃ dd vs, d = some dd ∧ w.F dd = some (.xd vs) ∧ RepF K w vs e.fs
theorem XAt.up {K : PySem.W.Frag} {mg : Str → Option Value} {cls : Value} {d : Option Addr} {e : Ex} {w w' : Wd} {H H' : Hp} (h : XAt K mg cls d e w) (l : Le w H w' H') : XAt K mg cls d e w' :=
  ⟨h.cl, h.fs.imp id fun ⟨dd, vs, a, b, c⟩ => ⟨dd, vs, a, l.le.2 _ _ b, c.upW l.le⟩⟩
/-- what an own class of errors must say, so that isinstance asks its instances rightly -/
structure ExcQ (K : PySem.W.Frag) (C : Addr) : Prop where
  cl : (PySem.W.clsIn K C).isSome = true
  hg : PySem.W.findIn K (.ref C) "__getattribute__" = some (some (.builtin "BaseException.__getattribute__"))
  hk : PySem.W.findIn K (.ref C) "__getattr__" = some none
  hs : PySem.W.subIn K (.ref C) (.type "BaseException") = some true
  ha : PySem.W.findIn K (.ref C) "__class__" = some (some (.builtin "object.__class__"))
  hn : PySem.W.specialIn K (.builtin "object.__class__") "__get__" = some (some (.builtin "getset_descriptor.__get__"))
  ht : PySem.W.takesIn K (.builtin "object.__class__") = some true
  hm : PySem.W.mroIn K C (.type "object") = some true
def rIsX (K : PySem.W.Frag) (C a : Addr) (d : Option Addr) : List V → Hp → VK → Prop := fun xs H Q => ∃ (c : V) (cv : Value) (b : Bool), xs = [.ref a, c] ∧ (∀ u, RelV c u → u = cv) ∧ PySem.W.kitOne K (.ref C) cv = some b ∧ (d = none ∨ ∃ dd vs, d = some dd ∧ H dd = some (.xd vs)) ∧ Q (.bl b) H
theorem call_isX {X : Cx} {a C : Addr} {d : Option Addr} {oe : Obj} {pn : List (Addr × Obj)} (T : ExcQ X.K C) (hz : Zc (.ref C) d oe) (hf : ∃ vs, oe.data = .fields vs) : CallR (X.suite a ((a, oe) :: pn)) (.builtin "isinstance") (rIsX X.K C a d) := by
  intro pins s σ H xs us Q I r h
  obtain ⟨c, cv, b, rfl, hcv, e, hd, q⟩ := h
  cases r with
  | cons rx rr =>
    cases rr with
    | cons rt rr =>
      cases rr
      cases rx
      have ec := hcv _ rt
      subst ec
      obtain ⟨hget, _⟩ := I.pin (a, oe) (List.mem_append.mpr (.inl List.mem_cons_self))
      obtain ⟨vs, hv⟩ := hf
      have key : ∃ od, PySem.W.InstAt s.heap a oe C od := by
        rcases hd with rfl | ⟨dd, us, rfl, ea⟩
        · refine ⟨none, ?_⟩
          obtain ⟨oc, od, oda, osl⟩ := oe
          obtain ⟨h1, h2⟩ := hz
          dsimp only at h1 h2 hv
          subst h1 h2 hv
          exact ⟨hget, rfl, rfl, trivial⟩
        · have hx : ObjOk X.prog X.w H s.heap dd (.xd us) := I.hok dd _ ea
          obtain ⟨mA, hns, hr⟩ := hx
          obtain ⟨od, ho, hl⟩ := lookIn_ns hns
          exact ⟨some od, hget, hz.1, by unfold PySem.W.notCls; rw [hv] <;> rfl, by rw [hz.2]; exact ho⟩
      obtain ⟨od, J⟩ := key
      exact PySem.W.kia_one (PySem.W.kitx_exc T.cl T.hg T.hk T.hs T.ha T.hn T.ht T.hm) I.kIn J e (fun z => nomatch z) fun tk => ⟨.bl b, H, I.kept (t' := tk) fun _ _ z => z, rfl, q⟩
/-- an expression of an except suite, a the caught error in slot i -/
def DX (X : Cx) (a : Addr) (cls : Value) (d : Option Addr) (e : Ex) (i : Nat) (ex : Expr) (v : S → Option D) : Prop :=
  ∃ t, PE X ex t ∧ ∀ w H σ s Q x, RS X.K w H σ s → XAt X.K X.mg cls d e w → σ[i]? = some (some (.ref a)) → v s = some x → (∀ w' H' u, Le w H w' H' → RS X.K w' H' σ s → Rep X.K w' u x → Q u H') → t σ H Q
def DXL (X : Cx) (a : Addr) (cls : Value) (d : Option Addr) (e : Ex) (i : Nat) (es : List Expr) (v : S → Option (List D)) : Prop :=
  ∃ t, PA X es t ∧ ∀ w H σ s Q x, RS X.K w H σ s → XAt X.K X.mg cls d e w → σ[i]? = some (some (.ref a)) → v s = some x → (∀ w' H' u, Le w H w' H' → RS X.K w' H' σ s → RepL X.K w' u x → Q u H') → t σ H Q
/-- e.f, errors of the class x -/
structure XcF (K : PySem.W.Frag) (mg : Str → Option Value) (x f : Str) : Prop where
  ex : ∃ C, mg x = some (.ref C) ∧ XfC K C ∧ PySem.W.findIn K (.ref C) f = some none
/-- isinstance(e, T), errors of the class x -/
structure XcI (K : PySem.W.Frag) (mg : Str → Option Value) (x T : Str) (b : Bool) : Prop where
  ex : ∃ C CT, mg x = some (.ref C) ∧ mg T = some (.ref CT) ∧ ExcQ K C ∧ PySem.W.kitOne K (.ref C) (.ref CT) = some b
/-- .. T a class of the language -/
structure XcB (K : PySem.W.Frag) (mg : Str → Option Value) (x : Str) (T : String) (b : Bool) : Prop where
  ex : ∃ C, mg x = some (.ref C) ∧ ExcQ K C ∧ PySem.W.kitOne K (.ref C) (.type T) = some b
/-- except T, errors of the class x -/
structure XcP (K : PySem.W.Frag) (mg : Str → Option Value) (x T : Str) (b : Bool) : Prop where
  ex : ∃ C CT, mg x = some (.ref C) ∧ mg T = some (.ref CT) ∧ PySem.W.exmOne K (.ref C) (.ref CT) = some b
inductive Tab (P : Str → Bool → Prop) : List (Str × Bool) → Prop
  | nil : Tab P []
  | cons {x : Str} {b : Bool} {r : List (Str × Bool)} (h : P x b) (t : Tab P r) : Tab P ((x, b) :: r)
theorem Tab.at {P : Str → Bool → Prop} : ∀ {r : List (Str × Bool)} {x : Str} {b : Bool}, Tab P r → r.lookup x = some b → P x b
  | _, _, _, .nil, e => by cases e
  | _, x, b, .cons (x := y) (b := c) (r := r) h t, e => by
    rw [List.lookup_cons] at e
    by_cases k : x = y
    · subst k
      rw [beq_self_eq_true] at e
      cases e
      exact h
    · rw [beq_eq_false_iff_ne.mpr k] at e
      exact Tab.at t e
section
variable {X : Cx} {a : Addr} {oe : Obj} {cls : Value} {d : Option Addr} {e : Ex} {pn : List (Addr × Obj)} {i : Nat} {ex b : Expr} {es rest : List Expr} {p p2 pos : Pos} {n : Str} {v u : S → Option D} {vs : S → Option (List D)}
theorem dx_bad : DX X a cls d e i ex fun _ => none := ⟨fun _ _ _ => False, ⟨fun pins s σ H Q I h => h.elim⟩, fun w H σ s Q x R xa hs hv k => nomatch hv⟩
theorem dx_de {f : M D} (h : DE X W0 ex f) (hf : ∀ s x, v s = some x → f s = .ok x s) : DX X a cls d e i ex v := by
  obtain ⟨t, q, r⟩ := h
  refine ⟨t, q, fun w H σ s Q x R xa hs hv k => r w H σ s Q R ?_⟩
  rw [hf s x hv]
  exact fun w' H' u l R' ru => k w' H' u l R' ru
theorem dx_fld {x f : Str} (hx : XcF X.K X.mg x f) (hz : Zc cls d oe) (hf : ∃ vs, oe.data = .fields vs) (hN : X.N[i]? = some n := by rfl) (hv : Vis X.env.scope n := by first | exact Or.inl rfl | exact Or.inr (Or.inl rfl) | exact Or.inr (Or.inr rfl)) (hd : (n == ("__debug__" : Str)) = false := by decide) (hcd : (n == ("__classdict__" : Str)) = false := by decide)
    (hb : attributeBase (.Name n p) f X.env (eval (.Name n p) X.env) = eval (.Name n p) X.env := by rfl) : DX (X.suite a ((a, oe) :: pn)) a cls d e i (.Attribute (.Name n p) f pos) fun _ => if e.cls = x then e.fs.lookup f else none := by
  obtain ⟨C, hC, T, hno⟩ := hx.ex
  refine ⟨_, pe_xf T hno hz hf (pe_var (X := X.suite a ((a, oe) :: pn)) (i := i) hN hv hd hcd) hb, fun w H σ s Q y R xa hs hv k => ?_⟩
  by_cases hc : e.cls = x
  · rw [if_pos hc] at hv
    obtain ⟨C', c1, c2⟩ := xa.cl
    rw [hc] at c1
    have c1 : X.mg x = some (.ref C') := c1
    rw [hC] at c1
    cases c1
    rcases xa.fs with ⟨h1, _⟩ | ⟨dd, vs, h1, h2, h3⟩
    · rw [h1] at hv; cases hv
    · obtain ⟨u, l1, l2⟩ := RepF.lookup h3 hv
      exact ⟨.ref a, hs, rfl, c2, dd, vs, u, h1, R.sub _ _ h2, l1, k w H u (Le.refl w H) R l2⟩
  · rw [if_neg hc] at hv; cases hv
theorem dx_is {T : Str} {tab : List (Str × Bool)} (hT : Tab (fun x b => XcI X.K X.mg x T b) tab) (hz : Zc cls d oe) (hf : ∃ vs, oe.data = .fields vs) (hi : X.mg "isinstance" = none) (hg : Gl X "isinstance" := by rfl) (hg2 : Gl X T := by rfl) (hdT : (T == ("__debug__" : Str)) = false := by decide)
    (hN : X.N[i]? = some n := by rfl) (hv : Vis X.env.scope n := by first | exact Or.inl rfl | exact Or.inr (Or.inl rfl) | exact Or.inr (Or.inr rfl)) (hd : (n == ("__debug__" : Str)) = false := by decide) (hcd : (n == ("__classdict__" : Str)) = false := by decide)
    (hst : starEach [.Name n p2, .Name T p] X.env = (false, eval (.Name n p2) X.env) :: starEach [.Name T p] X.env := by rfl) (hst2 : starEach [.Name T p] X.env = (false, eval (.Name T p) X.env) :: starEach [] X.env := by rfl)
    (hpl : (backTo pos (starEach [.Name T p] X.env)).any (·.1) = false := by rfl) {p3 : Pos} :
    DX (X.suite a ((a, oe) :: pn)) a cls d e i (.Call (.Name "isinstance" p3) [.Name n p2, .Name T p] [] pos) fun _ => (tab.lookup e.cls).map .bl := by
  cases ht : tab.lookup e.cls with
  | none => exact dx_bad
  | some b =>
    obtain ⟨C, CT, hC, hCT, TQ, hk⟩ := (hT.at ht).ex
    by_cases hcls : cls = .ref C
    · subst hcls
      refine ⟨_, pe_callB (X := X.suite a ((a, oe) :: pn)) (call_isX TQ hz hf) hg hi (by decide +kernel) (pa_cons (pe_var (X := X.suite a ((a, oe) :: pn)) (i := i) hN hv hd hcd) (pa_cons (pe_glob (X := X.suite a ((a, oe) :: pn)) (v := .ref CT) hg2 hCT rfl hdT) pa_nil hst2) hst) (by decide) (by decide) hst hpl, fun w H σ s Q y R xa hs hv k => ?_⟩
      cases hv
      refine ⟨.ref a, hs, .ref CT, .ref CT, b, rfl, fun _ h => h, hk, ?_, k w H (.bl b) (Le.refl w H) R (.bl b)⟩
      rcases xa.fs with ⟨_, h2⟩ | ⟨dd, vs, h1, h2, h3⟩
      · exact .inl h2
      · exact .inr ⟨dd, vs, h1, R.sub _ _ h2⟩
    · refine ⟨fun _ _ _ => False, ⟨fun pins s σ H Q I h => h.elim⟩, fun w H σ s Q x R xa hs hv k => ?_⟩
      obtain ⟨C', c1, c2⟩ := xa.cl
      have c1 : X.mg e.cls = some (.ref C') := c1
      rw [hC] at c1
      cases c1
      exact hcls c2
theorem dx_isB {T : String} {tab : List (Str × Bool)} (hT : Tab (fun x b => XcB X.K X.mg x T b) tab) (hz : Zc cls d oe) (hf : ∃ vs, oe.data = .fields vs) (hi : X.mg "isinstance" = none) (hm : X.mg (Str.ofString T) = none) (hv0 : bootBuiltins (Str.ofString T) = some (.type T)) (hg : Gl X "isinstance" := by rfl) (hg2 : Gl X (Str.ofString T) := by rfl) (hn : Str.ofString T ≠ "__name__" := by decide) (hdT : (Str.ofString T == ("__debug__" : Str)) = false := by decide)
    (hN : X.N[i]? = some n := by rfl) (hv : Vis X.env.scope n := by first | exact Or.inl rfl | exact Or.inr (Or.inl rfl) | exact Or.inr (Or.inr rfl)) (hd : (n == ("__debug__" : Str)) = false := by decide) (hcd : (n == ("__classdict__" : Str)) = false := by decide)
    (hst : starEach [.Name n p2, .Name (Str.ofString T) p] X.env = (false, eval (.Name n p2) X.env) :: starEach [.Name (Str.ofString T) p] X.env := by rfl) (hst2 : starEach [.Name (Str.ofString T) p] X.env = (false, eval (.Name (Str.ofString T) p) X.env) :: starEach [] X.env := by rfl)
    (hpl : (backTo pos (starEach [.Name (Str.ofString T) p] X.env)).any (·.1) = false := by rfl) {p3 : Pos} :
    DX (X.suite a ((a, oe) :: pn)) a cls d e i (.Call (.Name "isinstance" p3) [.Name n p2, .Name (Str.ofString T) p] [] pos) fun _ => (tab.lookup e.cls).map .bl := by
  cases ht : tab.lookup e.cls with
  | none => exact dx_bad
  | some b =>
    obtain ⟨C, hC, TQ, hk⟩ := (hT.at ht).ex
    by_cases hcls : cls = .ref C
    · subst hcls
      refine ⟨_, pe_callB (X := X.suite a ((a, oe) :: pn)) (call_isX TQ hz hf) hg hi (by decide +kernel) (pa_cons (pe_var (X := X.suite a ((a, oe) :: pn)) (i := i) hN hv hd hcd) (pa_cons (pe_bltn (X := X.suite a ((a, oe) :: pn)) (v := .ty T) hg2 hm hv0 rfl hn hdT) pa_nil hst2) hst) (by decide) (by decide) hst hpl, fun w H σ s Q y R xa hs hv k => ?_⟩
      cases hv
      refine ⟨.ref a, hs, (.ty T : V), (.type T : Value), b, rfl, fun _ h => h, hk, ?_, k w H (.bl b) (Le.refl w H) R (.bl b)⟩
      rcases xa.fs with ⟨_, h2⟩ | ⟨dd, vs, h1, h2, h3⟩
      · exact .inl h2
      · exact .inr ⟨dd, vs, h1, R.sub _ _ h2⟩
    · refine ⟨fun _ _ _ => False, ⟨fun pins s σ H Q I h => h.elim⟩, fun w H σ s Q x R xa hs hv k => ?_⟩
      obtain ⟨C', c1, c2⟩ := xa.cl
      have c1 : X.mg e.cls = some (.ref C') := c1
      rw [hC] at c1
      cases c1
      exact hcls c2
theorem dx_one {op} (h : DX X a cls d e i ex v) : DX X a cls d e i (.BoolOp op [ex] pos) v := let ⟨t, p, r⟩ := h; ⟨t, pe_one p, r⟩
def andX (v u : S → Option D) : S → Option D := fun s => match v s with
  | some (.bl true) => u s
  | some (.bl false) => some (.bl false)
  | _ => none
theorem dx_and (h : DX X a cls d e i ex v) (h2 : DX X a cls d e i (.BoolOp .And (b :: rest) pos) u) : DX X a cls d e i (.BoolOp .And (ex :: b :: rest) pos) (andX v u) := by
  obtain ⟨t, p, r⟩ := h
  obtain ⟨t2, p2, r2⟩ := h2
  refine ⟨_, pe_and p p2, fun w H σ s Q y R xa hs hv k => ?_⟩
  unfold andX at hv
  cases h1 : v s with
  | none => rw [h1] at hv; cases hv
  | some x =>
    rw [h1] at hv
    refine r w H σ s _ x R xa hs h1 fun w' H' w1 l R' ru => ?_
    cases ru with
    | bl c =>
      refine ⟨c, rfl, ?_⟩
      cases c with
      | true => exact r2 w' H' σ s Q y R' (xa.up l) hs hv fun w2 H2 u l2 R2 ru => k w2 H2 u (l.trans l2) R2 ru
      | false => cases hv; exact k w' H' (.bl false) l R' (.bl false)
    | _ => cases hv
def notX (v : S → Option D) : S → Option D := fun s => match v s with
  | some (.bl c) => some (.bl (!c))
  | _ => none
theorem dx_not (h : DX X a cls d e i ex v) : DX X a cls d e i (.UnaryOp .Not ex pos) (notX v) := by
  obtain ⟨t, p, r⟩ := h
  refine ⟨_, pe_not p, fun w H σ s Q y R xa hs hv k => ?_⟩
  unfold notX at hv
  cases h1 : v s with
  | none => rw [h1] at hv; cases hv
  | some x =>
    rw [h1] at hv
    refine r w H σ s _ x R xa hs h1 fun w' H' w1 l R' ru => ?_
    cases ru with
    | bl c => cases hv; exact ⟨c, rfl, k w' H' (.bl (!c)) l R' (.bl _)⟩
    | _ => cases hv
theorem dxl_nil : DXL X a cls d e i [] fun _ => some [] := ⟨_, pa_nil, fun w H σ s Q y R xa hs hv k => by cases hv; exact k w H [] (Le.refl w H) R .nil⟩
def consX (v : S → Option D) (vs : S → Option (List D)) : S → Option (List D) := fun s => match v s, vs s with
  | some x, some xs => some (x :: xs)
  | _, _ => none
theorem dxl_cons (h : DX X a cls d e i ex v) (h2 : DXL X a cls d e i es vs) (hst : starEach (ex :: es) X.env = (false, eval ex X.env) :: starEach es X.env := by rfl) : DXL X a cls d e i (ex :: es) (consX v vs) := by
  obtain ⟨t, p, r⟩ := h
  obtain ⟨t2, p2, r2⟩ := h2
  refine ⟨_, pa_cons p p2 hst, fun w H σ s Q y R xa hs hv k => ?_⟩
  unfold consX at hv
  cases h1 : v s with
  | none => rw [h1] at hv; cases hv
  | some x =>
    cases h2 : vs s with
    | none => rw [h1, h2] at hv; cases hv
    | some xs =>
      rw [h1, h2] at hv
      cases hv
      refine r w H σ s _ x R xa hs h1 fun w' H' u l R' ru => ?_
      refine r2 w' H' σ s _ xs R' (xa.up l) hs h2 fun w2 H2 us l2 R2 rus => ?_
      exact k w2 H2 (u :: us) (l.trans l2) R2 (.cons (ru.up l2) rus)
def tupX (vs : S → Option (List D)) : S → Option D := fun s => match vs s with
  | some xs => if xs.length ≤ 16777216 then some (.tup xs) else none
  | none => none
theorem dx_tup {x1} (h : DXL X a cls d e i es vs) : DX X a cls d e i (.Tuple es x1 pos) (tupX vs) := by
  obtain ⟨t, p, r⟩ := h
  refine ⟨_, pe_tupC p, fun w H σ s Q y R xa hs hv k => ?_⟩
  unfold tupX at hv
  cases h1 : vs s with
  | none => rw [h1] at hv; cases hv
  | some xs =>
    rw [h1] at hv
    dsimp only at hv
    split at hv
    · next hl =>
      cases hv
      refine r w H σ s _ xs R xa hs h1 fun w' H' us l R' ru => ?_
      refine ⟨by rw [RepL.length ru]; exact hl, fun q o ho hq => ?_⟩
      obtain ⟨l2, R2, r2⟩ := R'.newT hq ru ho
      exact k _ _ _ (l.trans l2) R2 r2
    · cases hv
end
/-! ### the statement -/
def suM (i j : Nat) (v : Ex → S → Option D) (e : Ex) : M Out := fun s => if i < s.loc.length then (match v e ⟨s.loc.set i none, s.vh⟩ with
  | some x => .ok .nx ⟨(s.loc.set i none).set j (some x), s.vh⟩
  | none => .bad) else .bad
def tryM (f : M Out) (tab : List (Str × Bool)) (su : Ex → M Out) : M Out := fun s => match f s with
  | .exc e s' => match tab.lookup e.cls with
    | some true => su e s'
    | some false => .exc e s'
    | none => .bad
  | r => r
def noX (m : M Out) : M Out := fun s => match m s with
  | .exc _ _ => .bad
  | r => r
/-- what is let out, told to the machine -/
def OutW (K : PySem.W.Frag) (mg : Str → Option Value) (W : WX) (Wout : L2.WX) : Prop := ∀ e w H σ C, mg e.cls = some (.ref C) → W e w H σ →
  (e.fs = [] → Wout (.ref C) none σ H) ∧ (e.fs ≠ [] → ∀ d vs, H d = none → RepF K w vs e.fs → Wout (.ref C) (some d) σ (upd H d (.xd vs)))
theorem outW0 {K : PySem.W.Frag} {mg : Str → Option Value} {Wout : L2.WX} : OutW K mg W0 Wout := fun _ _ _ _ _ _ h => h.elim
theorem outLW {K : PySem.W.Frag} {mg : Str → Option Value} {W' : L2.WX} : OutW K mg (LW K mg W') W' := fun _ _ _ _ C hC h => h C hC
section
variable {X : Cx} {W : WX} {Wout : L2.WX} {body : List Stmt} {f : M Out} {T n y : Str} {tab : List (Str × Bool)} {i j : Nat} {ex : Expr} {v : Ex → S → Option D} {np p' p2 pos pos' : Pos}
theorem ds_try_as (hW : OutW X.K X.mg W Wout) (tk : L2.Takes X Wout) (hT : Tab (fun x b => XcP X.K X.mg x T b) tab) (hTn : ∃ C, X.mg T = some (.ref C)) (hij : i ≠ j)
    (hb : ∀ (W' : L2.WX) (pn : List (Addr × Obj)) (xe : Value → Shared → Prop), L2.Takes (X.tr pn xe) W' → PassesOwn (model X.prog X.w) X.A X.env xe → DSs (X.tr pn xe) (LW X.K X.mg W') body f)
    (hsu : ∀ (a : Addr) (oe : Obj) (cls : Value) (d : Option Addr) (pn : List (Addr × Obj)) (e : Ex), Zc cls d oe → (∃ vs, oe.data = .fields vs) → DX (X.suite a ((a, oe) :: pn)) a cls d e i ex (v e))
    (hN : X.N.Nodup) (hs : X.stack = X.env :: X.outer := by rfl) (hf : X.env.frame = some X.env.locals := by rfl) (hi : X.N[i]? = some n := by rfl) (hln : X.env.kindOf n = some .local := by rfl) (hg : Gl X T := by rfl) (hdT : (T == ("__debug__" : Str)) = false := by decide)
    (hj : X.N[j]? = some y := by rfl) (hx : Loc X.env.scope y := by first | exact Or.inl rfl | exact Or.inr rfl) (hf2 : X.fn y = true ∨ X.env.scope.names.lookup y = some .local := by first | exact .inl rfl | exact .inr rfl) (hsw : swapsWith ex (some (.Name y p')) p2.line X.env = pure false := by rfl) :
    DS X W (.Try body [.ExceptHandler (some (.Name T np)) (some n) [.Assign [.Name y p'] ex p2] pos'] [] [] pos) (tryM f tab (suM i j v)) := by
  obtain ⟨CT, hCT⟩ := hTn
  let tF : L2.WX → TS := fun W' D σ H => ∃ w s, RS X.K w H σ s ∧ PostS X.K (LW X.K X.mg W') w H (f s) D
  let ts : Addr → Value → Option Addr → TS := fun a cls d D σ H => ∃ w s e x, RS X.K w H σ s ∧ XAt X.K X.mg cls d e w ∧ σ[i]? = some (some (.ref a)) ∧ v e s = some x ∧ ∀ w' H' u, Le w H w' H' → RS X.K w' H' σ s → Rep X.K w' u x → D.nx (σ.set j (some u)) H'
  refine ⟨_, ps_try_as (tb := tF) (ts := ts) (c := .ref CT) (i := i) hs hf hN hi hln ⟨hg, hdT, .inl hCT⟩ tk (fun W' pn xe t po => ?_) (fun a oe cls d pn hz hfl => ?_), fun w H σ s D R z => ?_⟩
  · obtain ⟨t2, p, r⟩ := hb W' pn xe t po
    exact ⟨fun pins s σ H D I ⟨w, z, R, P⟩ => p.run pins s σ H D I (r w H σ z D R P)⟩
  · refine ⟨fun pins s σ H D I ⟨w, z, e, x, R, xa, h1, h2, k⟩ => ?_⟩
    obtain ⟨t, p, r⟩ := hsu a oe cls d pn e hz hfl
    exact (pss_one (ps_set (X := X.suite a ((a, oe) :: pn)) (i := j) hN hj hx p hsw hf2)).run pins s σ H D I (r w H σ z _ x R xa h1 h2 k)
  · refine ⟨w, s, R, ?_⟩
    unfold tryM at z
    cases hfs : f s with
    | bad => rw [hfs] at z; exact z.elim
    | ok o s1 => rw [hfs] at z; cases o <;> exact z
    | exc e s1 =>
      rw [hfs] at z
      dsimp only at z
      intro w' H' σ' l R' C hC
      cases ht : tab.lookup e.cls with
      | none => rw [ht] at z; exact z.elim
      | some b =>
        rw [ht] at z
        obtain ⟨C2, CT2, c1, c2, hex⟩ := (hT.at ht).ex
        rw [hC] at c1; cases c1
        rw [hCT] at c2; cases c2
        cases b with
        | false =>
          have := hW e w' H' σ' C hC (z w' H' σ' l R')
          exact ⟨fun h0 => ⟨false, hex, (fun h => nomatch h), fun _ => this.1 h0⟩, fun h0 d vs hd rf => ⟨false, hex, (fun h => nomatch h), fun _ => this.2 h0 d vs hd rf⟩⟩
        | true =>
          dsimp only at z
          unfold suM at z
          by_cases hil0 : i < s1.loc.length
          rotate_left
          · rw [if_neg hil0] at z; exact z.elim
          rw [if_pos hil0] at z
          cases hv : v e ⟨s1.loc.set i none, s1.vh⟩ with
          | none => rw [hv] at z; exact z.elim
          | some x =>
            rw [hv] at z
            have key : ∀ (w2 : Wd) (H2 : Hp) (d : Option Addr) (a : Addr), Le w H w2 H2 → RS X.K w2 H2 σ' s1 → XAt X.K X.mg (.ref C) d e w2 → H2 a = none →
                ts a (.ref C) d { nx := fun σ' H' => D.nx (σ'.set i none) H', rt := D.rt, bk := fun σ' H' => D.bk (σ'.set i none) H', ct := fun σ' H' => D.ct (σ'.set i none) H' } (σ'.set i (some (.ref a))) H2 := fun w2 H2 d a l2 R2 xa ha => by
              have R3 : RS X.K w2 H2 (σ'.set i (some (.ref a))) ⟨s1.loc.set i none, s1.vh⟩ := R2.other (l := s1.loc.set i none) (by rw [List.length_set, List.length_set]; exact R2.len) fun k dd hk => by
                by_cases hik : k = i
                · subst hik
                  rw [List.getElem?_set_self'] at hk
                  cases h5 : s1.loc[k]? with
                  | none => rw [h5] at hk; cases hk
                  | some _ => rw [h5] at hk; cases hk
                · rw [List.getElem?_set_ne (fun z => hik z.symm)] at hk
                  rw [List.getElem?_set_ne (fun z => hik z.symm)]
                  exact R2.loc k dd hk
              have hil : i < σ'.length := by rw [R2.len]; exact hil0
              refine ⟨w2, ⟨s1.loc.set i none, s1.vh⟩, e, x, R3, xa, by rw [List.getElem?_set_self hil], hv, fun w4 H4 u l4 R4 ru => ?_⟩
              refine z w4 H4 _ (l2.trans l4) ?_
              have R5 := R4.set (i := j) ru
              refine R5.other (l := (s1.loc.set i none).set j (some x)) (by rw [List.length_set]; exact R5.len) fun k dd hk => ?_
              by_cases hik : k = i
              · subst hik
                rw [List.getElem?_set_ne (fun z => hij z.symm), List.getElem?_set_self'] at hk
                cases h5 : s1.loc[k]? with
                | none => rw [h5] at hk; cases hk
                | some _ => rw [h5] at hk; cases hk
              · rw [List.getElem?_set_ne (fun z => hik z.symm)]
                exact R5.loc k dd hk
            refine ⟨fun h0 => ⟨true, hex, fun _ a ha => key w' H' none a l R' ⟨⟨C, hC, rfl⟩, .inl ⟨h0, rfl⟩⟩ ha, fun h => nomatch h⟩, fun h0 d vs hd rf => ⟨true, hex, fun _ a ha => ?_, fun h => nomatch h⟩⟩
            have fr := R'.fresh hd
            have ll := Le.lay (w := w') (o := .xd vs) hd fr.1
            exact key _ _ (some d) a (l.trans ll) (R'.lay hd) ⟨⟨C, hC, rfl⟩, .inr ⟨d, vs, rfl, upd_same, rf.upW ll.le⟩⟩ ha
theorem ds_try_only {b₀ : Stmt} {suite : List Stmt} {su : M Out} (hW : OutW X.K X.mg W Wout) (tk : L2.Takes X Wout) (hT : Tab (fun x b => XcP X.K X.mg x T b) tab) (hTn : ∃ C, X.mg T = some (.ref C))
    (hb : ∀ (W' : L2.WX) (pn : List (Addr × Obj)) (xe : Value → Shared → Prop), L2.Takes (X.tr pn xe) W' → PassesOwn (model X.prog X.w) X.A X.env xe → DSs (X.tr pn xe) (LW X.K X.mg W') body f)
    (hsu : ∀ (a : Addr) (oe : Obj) (cls : Value) (d : Option Addr) (pn : List (Addr × Obj)), Zc cls d oe → (∃ vs, oe.data = .fields vs) → DSs (X.suite a ((a, oe) :: pn)) W0 (b₀ :: suite) su)
    (hs : X.stack = X.env :: X.outer := by rfl) (hf : X.env.frame = some X.env.locals := by rfl) (hg : Gl X T := by rfl) (hdT : (T == ("__debug__" : Str)) = false := by decide) :
    DS X W (.Try body [.ExceptHandler (some (.Name T np)) none (b₀ :: suite) pos'] [] [] pos) (tryM f tab fun _ => noX su) := by
  obtain ⟨CT, hCT⟩ := hTn
  let tF : L2.WX → TS := fun W' D σ H => ∃ w s, RS X.K w H σ s ∧ PostS X.K (LW X.K X.mg W') w H (f s) D
  let ts : Addr → Value → Option Addr → TS := fun a cls d D σ H => ∃ w s, RS X.K w H σ s ∧ PostS X.K W0 w H (su s) D
  refine ⟨_, ps_try_only (tb := tF) (ts := ts) (c := .ref CT) hs hf ⟨hg, hdT, .inl hCT⟩ tk (fun W' pn xe t po => ?_) (fun a oe cls d pn hz hfl => ?_), fun w H σ s D R z => ?_⟩
  · obtain ⟨t2, p, r⟩ := hb W' pn xe t po
    exact ⟨fun pins s σ H D I ⟨w, z, R, P⟩ => p.run pins s σ H D I (r w H σ z D R P)⟩
  · obtain ⟨t2, p, r⟩ := hsu a oe cls d pn hz hfl
    exact ⟨fun pins s σ H D I ⟨w, z, R, P⟩ => p.run pins s σ H D I (r w H σ z D R P)⟩
  · refine ⟨w, s, R, ?_⟩
    unfold tryM at z
    cases hfs : f s with
    | bad => rw [hfs] at z; exact z.elim
    | ok o s1 => rw [hfs] at z; cases o <;> exact z
    | exc e s1 =>
      rw [hfs] at z
      dsimp only at z
      intro w' H' σ' l R' C hC
      cases ht : tab.lookup e.cls with
      | none => rw [ht] at z; exact z.elim
      | some b =>
        rw [ht] at z
        obtain ⟨C2, CT2, c1, c2, hex⟩ := (hT.at ht).ex
        rw [hC] at c1; cases c1
        rw [hCT] at c2; cases c2
        cases b with
        | false =>
          have := hW e w' H' σ' C hC (z w' H' σ' l R')
          exact ⟨fun h0 => ⟨false, hex, (fun h => nomatch h), fun _ => this.1 h0⟩, fun h0 d vs hd rf => ⟨false, hex, (fun h => nomatch h), fun _ => this.2 h0 d vs hd rf⟩⟩
        | true =>
          dsimp only at z
          have key : ∀ (w2 : Wd) (H2 : Hp) (d : Option Addr) (a : Addr), Le w H w2 H2 → RS X.K w2 H2 σ' s1 → ts a (.ref C) d D σ' H2 := fun w2 H2 d a l2 R2 => by
            refine ⟨w2, s1, R2, ?_⟩
            unfold noX at z
            have z := PostS.up l2 z
            cases hq : su s1 with
            | bad => rw [hq] at z; exact z.elim
            | exc e2 s2 => rw [hq] at z; exact z.elim
            | ok o s2 => rw [hq] at z; cases o <;> exact z
          refine ⟨fun h0 => ⟨true, hex, fun _ a ha => key w' H' none a l R', fun h => nomatch h⟩, fun h0 d vs hd rf => ⟨true, hex, fun _ a ha => ?_, fun h => nomatch h⟩⟩
          have fr := R'.fresh hd
          have ll := Le.lay (w := w') (o := .xd vs) hd fr.1
          exact key _ _ (some d) a (l.trans ll) (R'.lay hd)
end
end Fx

/-! Fx: defs that may raise, by the text; the classes of errors -/
namespace Fx
open PySem PySem.Spec PyProof.Rows L2
section
variable {P : Program} {wd : World} {K : PySem.W.Frag} {mg : Str → Option Value} {base : Heap} {x m q : Str} {st : Stmt} {N ps : List Str} {k : Nat} {g : M Out}
theorem Top.fnXS (T : Top K mg x st ps) (Sc : FnScope N ps (defScope st)) (hle : ps.length ≤ N.length)
    (body : ∀ (f : Addr) (cdv : Value) (A : Around) (outer : List Env) (s : Shared) (H : Hp) (E : XK), Room k (A.deeper (envOfC x (defScope st) s.heap.objs.size f cdv)) →
      DSs (cxOf (L2.CX P wd) P wd K mg base N x (defScope st) f cdv A outer s H E) (LE K mg E) (defBody st) g) : FnX P wd K mg base x ps.length (k + 1) (runXS N.length g) :=
  let ⟨f, fd, F, m, b, _⟩ := T.ex
  ⟨f, fd, ps, m, F.kp, b, fnX_S F Sc hle fun cdv A outer s H E hr => body f cdv A outer s H E hr⟩
theorem Top.fnXP (T : Top K mg x st ps) (Sc : FnScope N ps (defScope st)) (hle : ps.length ≤ N.length)
    (body : ∀ (f : Addr) (cdv : Value) (A : Around) (outer : List Env) (s : Shared) (H : Hp) (E : XK), Room k (A.deeper (envOfC x (defScope st) s.heap.objs.size f cdv)) →
      DSs (cxOf (L2.CX P wd) P wd K mg base N x (defScope st) f cdv A outer s H E) (LE K mg E) (defBody st) g) : FnX P wd K mg base x ps.length (k + 1) (runXP N.length g) :=
  let ⟨f, fd, F, m, b, _⟩ := T.ex
  ⟨f, fd, ps, m, F.kp, b, fnX_P F Sc hle fun cdv A outer s H E hr => body f cdv A outer s H E hr⟩
theorem Top.fnXW (T : Top K mg x st ps) (Sc : FnScope N ps (defScope st)) (hle : ps.length ≤ N.length)
    (body : ∀ (f : Addr) (cdv : Value) (A : Around) (outer : List Env) (s : Shared) (H : Hp) (E : XK), Room k (A.deeper (envOfC x (defScope st) s.heap.objs.size f cdv)) →
      DSs (cxOf (L2.CX P wd) P wd K mg base N x (defScope st) f cdv A outer s H E) (LE K mg E) (defBody st) g) : FnX P wd K mg base x ps.length (k + 1) (runXW N.length g) :=
  let ⟨f, fd, F, m, b, _⟩ := T.ex
  ⟨f, fd, ps, m, F.kp, b, fnX_W F Sc hle fun cdv A outer s H E hr => body f cdv A outer s H E hr⟩
theorem TopM.fnXS (T : TopM K x m q st ps) (Sc : FnScope N ps (defScope st)) (hle : ps.length ≤ N.length)
    (body : ∀ (f : Addr) (cdv : Value) (A : Around) (outer : List Env) (s : Shared) (H : Hp) (E : XK), Room k (A.deeper (envOfC q (defScope st) s.heap.objs.size f cdv)) →
      DSs (cxOf (L2.CX P wd) P wd K mg base N q (defScope st) f cdv A outer s H E) (LE K mg E) (defBody st) g) : MetX P wd K mg base x m ps.length (k + 1) (runXS N.length g) :=
  let ⟨C, f, fd, a, F, M, b⟩ := T.ex
  ⟨C, f, fd, ps, a, M, b, fnX_S F Sc hle fun cdv A outer s H E hr => body f cdv A outer s H E hr⟩
theorem TopM.fnXP (T : TopM K x m q st ps) (Sc : FnScope N ps (defScope st)) (hle : ps.length ≤ N.length)
    (body : ∀ (f : Addr) (cdv : Value) (A : Around) (outer : List Env) (s : Shared) (H : Hp) (E : XK), Room k (A.deeper (envOfC q (defScope st) s.heap.objs.size f cdv)) →
      DSs (cxOf (L2.CX P wd) P wd K mg base N q (defScope st) f cdv A outer s H E) (LE K mg E) (defBody st) g) : MetX P wd K mg base x m ps.length (k + 1) (runXP N.length g) :=
  let ⟨C, f, fd, a, F, M, b⟩ := T.ex
  ⟨C, f, fd, ps, a, M, b, fnX_P F Sc hle fun cdv A outer s H E hr => body f cdv A outer s H E hr⟩
theorem TopM.fnXW (T : TopM K x m q st ps) (Sc : FnScope N ps (defScope st)) (hle : ps.length ≤ N.length)
    (body : ∀ (f : Addr) (cdv : Value) (A : Around) (outer : List Env) (s : Shared) (H : Hp) (E : XK), Room k (A.deeper (envOfC q (defScope st) s.heap.objs.size f cdv)) →
      DSs (cxOf (L2.CX P wd) P wd K mg base N q (defScope st) f cdv A outer s H E) (LE K mg E) (defBody st) g) : MetX P wd K mg base x m ps.length (k + 1) (runXW N.length g) :=
  let ⟨C, f, fd, a, F, M, b⟩ := T.ex
  ⟨C, f, fd, ps, a, M, b, fnX_W F Sc hle fun cdv A outer s H E hr => body f cdv A outer s H E hr⟩
end
section
variable {P : Program} {wd : World} {K : PySem.W.Frag} {mg : Str → Option Value} {base : Heap} {x m q : Str} {st : Stmt} {ps : List Str} {n j k : Nat} {F : Xf}
theorem FnX.mono (h : FnX P wd K mg base x n j F) (l : j ≤ k) : FnX P wd K mg base x n k F := let ⟨f, fd, ps, a, b, c, d⟩ := h.ex; ⟨f, fd, ps, a, b, c, d.mono l⟩
theorem MetX.mono (h : MetX P wd K mg base x m n j F) (l : j ≤ k) : MetX P wd K mg base x m n k F := let ⟨C, f, fd, ps, a, b, c, d⟩ := h.ex; ⟨C, f, fd, ps, a, b, c, d.mono l⟩
theorem Top.nilX (T : Top K mg x st ps) : FnX P wd K mg base x ps.length k (fun _ _ => .bad) :=
  let ⟨f, fd, F, m, b, _⟩ := T.ex
  ⟨f, fd, ps, m, F.kp, b, fun _ _ _ _ h => h.1, fun _ _ _ _ _ _ _ _ _ _ _ _ _ h => by obtain ⟨_, _, _, _, _, _, _, e⟩ := h; exact e.elim⟩
theorem Top.nilN (T : Top K mg x st ps) : FnQ P wd K mg base x k (SpN K ps.length fun _ _ => none) :=
  let ⟨f, fd, F, m, b, _⟩ := T.ex
  ⟨f, fd, ps, m, F.kp, b, fun _ _ _ _ h => h.1, fun _ _ _ _ _ _ _ _ _ _ _ _ _ h => by obtain ⟨_, _, _, _, _, _, _, _, e, _⟩ := h; cases e⟩
theorem TopM.nilX (T : TopM K x m q st ps) : MetX P wd K mg base x m ps.length k (fun _ _ => .bad) :=
  let ⟨C, f, fd, a, F, M, b⟩ := T.ex
  ⟨C, f, fd, ps, a, M, b, fun _ _ _ _ h => h.1, fun _ _ _ _ _ _ _ _ _ _ _ _ _ h => by obtain ⟨_, _, _, _, _, _, _, e⟩ := h; exact e.elim⟩
end
/-- an own class of errors with an __init__ that keeps ns -/
structure TopE (K : PySem.W.Frag) (mg : Str → Option Value) (x q : Str) (st : Stmt) (ps ns : List Str) : Prop where
  ex : ∃ (C f : Addr) (fd : FuncData), mg x = some (.ref C) ∧ OexC K C ∧ (∀ n ∈ ns, PySem.W.findIn K (.ref C) n = some none) ∧ PySem.W.findIn K (.ref C) "__init__" = some (some (.ref f)) ∧ PySem.W.typeIn K (.ref f) = some (.type "function") ∧ Fun K "__init__" q st f fd ∧ Binds K fd ps []
section
variable {P : Program} {wd : World} {K : PySem.W.Frag} {mg : Str → Option Value} {base : Heap} {x q n m : Str} {st : Stmt} {N ps : List Str}
theorem TopE.mk1 (T : TopE K mg x q st ps [n]) (Sc : FnScope N ps (defScope st)) (h2 : ps.length = 2)
    (body : ∀ (f : Addr) (cdv : Value) (A : Around) (outer : List Env) (s : Shared) (H : Hp) (E : XK), PSs (cxOf CX0 P wd K mg base N q (defScope st) f cdv A outer s H E).nox (defBody st) (tOst K n (tVar 0) (tVar 1))) : Xc1 P wd K mg base x [n] 1 :=
  let ⟨C, f, fd, a, O, hn, hi, ht, F, b⟩ := T.ex
  ⟨C, f, fd, ps, a, O, hn, hi, ht, b, init1 F Sc h2 fun cdv A outer s H E => body f cdv A outer s H E⟩
theorem TopE.mk2 (T : TopE K mg x q st ps [n, m]) (Sc : FnScope N ps (defScope st)) (h2 : ps.length = 3)
    (body : ∀ (f : Addr) (cdv : Value) (A : Around) (outer : List Env) (s : Shared) (H : Hp) (E : XK), PSs (cxOf CX0 P wd K mg base N q (defScope st) f cdv A outer s H E).nox (defBody st) (tSeq (tOst K n (tVar 0) (tVar 1)) (tOst K m (tVar 0) (tVar 2)))) : Xc1 P wd K mg base x [n, m] 1 :=
  let ⟨C, f, fd, a, O, hn, hi, ht, F, b⟩ := T.ex
  ⟨C, f, fd, ps, a, O, hn, hi, ht, b, init2 F Sc h2 fun cdv A outer s H E => body f cdv A outer s H E⟩
theorem xc0_mk {h : Heap} (X : K.In h) (G : h.Ns mainGlobals mg) {C : Addr} (a : PySem.W.nsIn K mainGlobals x = some (some (.ref C))) (e1 : PySem.W.excIn K C [.type "ValueError", .type "Exception", .type "BaseException", .type "object"] "ValueError.__new__" = true) (e2 : PySem.W.keepIn K (.ref C) = true)
    (e3 : PySem.W.subIn K (.ref C) (.type "BaseException") = some true) (e4 : PySem.W.typeIn K (.ref C) = some (.type "type")) : Xc0 K mg x := ⟨C, PySem.W.mg_of X G a, e1, e2, e3, e4⟩
theorem topE_mk {h : Heap} (X : K.In h) (G : h.Ns mainGlobals mg) {ns : List Str} {C f : Addr} {nm : Str} {qn : Str} {Nn : Addr} {bs bm : List Value} {sn : List Str} {sub : List Value} {ab : Bool} {col : Option Bool} {dd : Option Addr} {m0 m1 m2 m3 m5 : Option Value} {oc : Value} {od an : Option Addr} {osl : Array (Option Value)} {kV doc pm cdv ct : Value}
    (a : PySem.W.nsIn K mainGlobals x = some (some (.ref C))) (xL : K.lookup C = some (excClassObj nm qn C Nn bs bm true sn sub ab col dd m0 m1 m2 m3 m5 "ValueError.__new__")) (rv : PySem.HandSPX.refsVE bm = true) (sa : PySem.W.findIn K (.ref C) "__setattr__" = some (some (.builtin "object.__setattr__")))
    (e3 : PySem.W.subIn K (.ref C) (.type "BaseException") = some true) (e4 : PySem.W.typeIn K (.ref C) = some (.type "type")) (e2 : PySem.W.keepIn K (.ref C) = true) (hn : ∀ n ∈ ns, PySem.W.findIn K (.ref C) n = some none) (fi : PySem.W.findIn K (.ref C) "__init__" = some (some (.ref f))) (ft : PySem.W.typeIn K (.ref f) = some (.type "function"))
    (l : K.lookup f = some ⟨oc, od, .func (PySem.W.fnOf "__init__" q (defArgs st) (defBody st) (defScope st) .none kV doc pm an cdv ct), osl⟩) (c : PySem.W.codeIn K cdv q = true) (k : PySem.W.keepIn K (.ref f) = true)
    (b : ∀ (kV doc pm : Value) (an : Option Addr) (cdv ct : Value) (us : List Value), us.length = ps.length → bindArgs (PySem.W.fnOf "__init__" q (defArgs st) (defBody st) (defScope st) .none kV doc pm an cdv ct) ⟨us, []⟩ = pure (ps.zip us)) : TopE K mg x q st ps ns :=
  have F := fun_mk (st := st) l c k
  ⟨C, f, _, PySem.W.mg_of X G a, ⟨⟨_, _, _, _, _, _, _, _, _, _, _, _, _, _, _, xL, rv⟩, sa, e3, e4, e2⟩, hn, fi, ft, F, F.binds b⟩
theorem xcF_mk {h : Heap} (X : K.In h) (G : h.Ns mainGlobals mg) {f : Str} {C : Addr} (a : PySem.W.nsIn K mainGlobals x = some (some (.ref C))) (ga : PySem.W.findIn K (.ref C) "__getattribute__" = some (some (.builtin "BaseException.__getattribute__"))) (gg : PySem.W.findIn K (.ref C) "__getattr__" = some none)
    (e3 : PySem.W.subIn K (.ref C) (.type "BaseException") = some true) (hd : PySem.W.hasDictIn K C = true) (hf : PySem.W.findIn K (.ref C) f = some none) : XcF K mg x f := ⟨C, PySem.W.mg_of X G a, ⟨ga, gg, e3, hd⟩, hf⟩
theorem excQ_mk {C : Addr} (ga : PySem.W.findIn K (.ref C) "__getattribute__" = some (some (.builtin "BaseException.__getattribute__"))) (gg : PySem.W.findIn K (.ref C) "__getattr__" = some none) (e3 : PySem.W.subIn K (.ref C) (.type "BaseException") = some true) (hd : PySem.W.hasDictIn K C = true)
    (k1 : PySem.W.findIn K (.ref C) "__class__" = some (some (.builtin "object.__class__"))) (k2 : PySem.W.specialIn K (.builtin "object.__class__") "__get__" = some (some (.builtin "getset_descriptor.__get__"))) (k3 : PySem.W.takesIn K (.builtin "object.__class__") = some true) (k4 : PySem.W.mroIn K C (.type "object") = some true) : ExcQ K C :=
  ⟨by obtain ⟨cd, hc, _⟩ := PySem.W.any_some hd; rw [hc]; rfl, ga, gg, e3, k1, k2, k3, k4⟩
theorem xcI_mk {h : Heap} (X : K.In h) (G : h.Ns mainGlobals mg) {T : Str} {b : Bool} {C CT : Addr} (a : PySem.W.nsIn K mainGlobals x = some (some (.ref C))) (aT : PySem.W.nsIn K mainGlobals T = some (some (.ref CT))) (Q : ExcQ K C) (k : PySem.W.kitOne K (.ref C) (.ref CT) = some b) : XcI K mg x T b := ⟨C, CT, PySem.W.mg_of X G a, PySem.W.mg_of X G aT, Q, k⟩
theorem xcB_mk {h : Heap} (X : K.In h) (G : h.Ns mainGlobals mg) {T : String} {b : Bool} {C : Addr} (a : PySem.W.nsIn K mainGlobals x = some (some (.ref C))) (Q : ExcQ K C) (k : PySem.W.kitOne K (.ref C) (.type T) = some b) : XcB K mg x T b := ⟨C, PySem.W.mg_of X G a, Q, k⟩
theorem xcP_mk {h : Heap} (X : K.In h) (G : h.Ns mainGlobals mg) {T : Str} {b : Bool} {C CT : Addr} (a : PySem.W.nsIn K mainGlobals x = some (some (.ref C))) (aT : PySem.W.nsIn K mainGlobals T = some (some (.ref CT))) (e3 : PySem.W.subIn K (.ref CT) (.type "BaseException") = some true) (hd : PySem.W.hasDictIn K CT = true)
    (e4 : PySem.W.typeIn K (.ref CT) = some (.type "type")) (s : PySem.W.subIn K (.ref C) (.ref CT) = some b) : XcP K mg x T b := ⟨C, CT, PySem.W.mg_of X G a, PySem.W.mg_of X G aT, PySem.W.exm_ref e3 hd e4 s⟩
end
/-! ### equations -/
section
variable {α : Type} {n i j : Nat} {F : Xf} {ds : List D} {s : S} {e : Ex} {d : D} {vh : List Cell} {x : Str} {fo : M D} {fs : M (List D)}
def rzR (r : Rz) (s : S) : Res D := rzM r s
theorem x_callX : callX n F ds s = if ds.length = n then rzR (F ds s.vh) s else .bad := nr rfl
theorem x_rzO : rzR (.ok d vh) s = .ok d ⟨s.loc, vh⟩ := nr rfl
theorem x_rzE : rzR (.exc e vh) s = .exc e ⟨s.loc, vh⟩ := nr rfl
theorem x_raise {ns : List Str} : raiseM x ns ds s = if ds.length = ns.length then .exc ⟨x, (ns.zip ds).reverse⟩ s else .bad := nr rfl
def tryR (tab : List (Str × Bool)) (su : Ex → M Out) : Res Out → Res Out
  | .exc e s' => match tab.lookup e.cls with
    | some true => su e s'
    | some false => .exc e s'
    | none => .bad
  | r => r
theorem x_try {f : M Out} {tab : List (Str × Bool)} {su : Ex → M Out} : tryM f tab su s = tryR tab su (f s) := by
  unfold tryM tryR
  cases f s <;> rfl
theorem x_tryO {tab : List (Str × Bool)} {su : Ex → M Out} {o : Out} : tryR tab su (.ok o s) = .ok o s := nr rfl
theorem x_tryE {tab : List (Str × Bool)} {su : Ex → M Out} (h : tab.lookup e.cls = some true) : tryR tab su (.exc e s) = su e s := by unfold tryR; dsimp only; rw [h]
theorem x_tryF {tab : List (Str × Bool)} {su : Ex → M Out} (h : tab.lookup e.cls = some false) : tryR tab su (.exc e s) = .exc e s := by unfold tryR; dsimp only; rw [h]
theorem x_su {v : Ex → S → Option D} {y : D} (hi : i < s.loc.length) (h : v e ⟨s.loc.set i none, s.vh⟩ = some y) : suM i j v e s = .ok .nx ⟨(s.loc.set i none).set j (some y), s.vh⟩ := by unfold suM; rw [if_pos hi, h]
end
theorem runXS_ok {n : Nat} {g : M Out} {ds : List D} {vh vh2 : List Cell} {d : D} (h : ∃ l, g (initS n ds vh) = .ok (.rt d) ⟨l, vh2⟩) : runXS n g ds vh = .ok d vh2 := by
  obtain ⟨l, h⟩ := h
  unfold runXS
  rw [h]
theorem runXS_nx {n : Nat} {g : M Out} {ds : List D} {vh vh2 : List Cell} (h : ∃ l, g (initS n ds vh) = .ok .nx ⟨l, vh2⟩) : runXS n g ds vh = .ok .non vh2 := by
  obtain ⟨l, h⟩ := h
  unfold runXS
  rw [h]
theorem runXS_ex {n : Nat} {g : M Out} {ds : List D} {vh vh2 : List Cell} {e : Ex} (h : ∃ l, g (initS n ds vh) = .exc e ⟨l, vh2⟩) : runXS n g ds vh = .exc e vh2 := by
  obtain ⟨l, h⟩ := h
  unfold runXS
  rw [h]
theorem runXP_ex {n : Nat} {g : M Out} {ds : List D} {vh more : List Cell} {e : Ex} (h : ∃ l, g (initS n ds vh) = .exc e ⟨l, vh ++ more⟩) (hn : (e.fs.all fun kv => nc vh.length kv.2) = true) : runXP n g ds vh = .exc e vh := by
  obtain ⟨l, h⟩ := h
  unfold runXP
  rw [h]
  dsimp only
  rw [if_pos ⟨by rw [List.take_left'] ; rfl, hn⟩]
end Fx

/-! Fx: list * int -/
namespace Fx
open PySem PySem.Spec PyProof.Rows L2
variable {X : Cx} {W : WX}
def rMulR (K : PySem.W.Frag) : R2 := fun x y H Q => ∃ l xs n, x = .ref l ∧ y = .int n ∧ SqL K H l xs ∧ 0 ≤ n ∧ n ≤ 1000 ∧ xs.length * n.toNat ≤ 256 ∧ ∀ p, H p = none → Q (.ref p) (upd H p (.lst (List.replicate n.toNat xs).flatten))
theorem op_mulR : OpR X (binaryOp .Mult) (rMulR X.K) := by
  intro pins s σ H x y v u Q I rx ry h
  obtain ⟨l, xs, n, rfl, rfl, hH, h0, h1, hz, q⟩ := h
  cases rx
  obtain ⟨tk, rfl⟩ := ry
  obtain ⟨its, r, ⟨⟨cls, dd, data, sl⟩, k, ho, hc, hdd, hd⟩, _⟩ := I.list hH
  simp only at hc hd
  subst hc hd
  have hl := r.length
  have hsz : its.toArray.size * n.toNat ≤ 256 := by rw [List.size_toArray, ← hl]; exact hz
  refine wpAny_binaryOp_repeat_ref (T := "list") (U := "int") (by decide) ⟨_, ho, rfl⟩ (fun s' => typeIs_int s' n tk) noFill_list_mul PySem.F.fills_int_mul PySem.F.slot_int_rmul repeat_list PySem.F.slot_int_index.lookup
    (call_meets PySem.F.slot_int_rmul (typeIs_int s n tk) PySem.F.entry_int_rmul (PySem.F.args_int_rmul_2 _ _) (lm_int_rmul_list_any n tk l its.toArray k dd sl)
      ⟨ho, rfl, ⟨_, ho, rfl⟩, call_meets PySem.F.slot_list_mul ⟨_, ho, rfl⟩ PySem.F.entry_list_mul (PySem.F.args_list_mul_2 _ _)
        (lm_list_mul_any l its.toArray k dd sl n tk (by simp [Builtin.List.listFitsIndex]; omega) (by omega) (by rw [show Builtin.List.listTooLong (its.toArray.size * n.toNat) = false from decide_eq_false (by unfold sizeLine; omega)]; simp))
        ⟨ho, ?_⟩⟩)
  rw [listMul_foldl_if]
  have rr : ∀ j : Nat, Vals (List.replicate j xs).flatten (List.replicate j its).flatten := fun j => by
    induction j with
    | zero => exact .nil
    | succ j ih => rw [List.replicate_succ, List.replicate_succ, List.flatten_cons, List.flatten_cons]; exact r.append ih
  have ln : (List.replicate n.toNat xs).flatten.length ≤ sizeLine := by
    rw [List.length_flatten, List.map_replicate, List.sum_replicate_nat]
    have : n.toNat * xs.length = xs.length * n.toNat := Nat.mul_comm _ _
    unfold sizeLine
    omega
  exact ⟨.ref _, _, I.lnew (t' := s.toks) (rr _) ln, rfl, q _ I.fresh⟩
def mulLN : D → D → M Cell := fun d e s => match lstOf s d, e with
  | some xs, .int n => if 0 ≤ n ∧ n ≤ 1000 ∧ xs.length * n.toNat ≤ 256 then .ok (.lst (List.replicate n.toNat xs).flatten) s else .bad
  | _, _ => .bad
theorem RepL.rep {K : PySem.W.Frag} {w : Wd} {vs : List V} {ds : List D} (h : RepL K w vs ds) : ∀ n : Nat, RepL K w (List.replicate n vs).flatten (List.replicate n ds).flatten
  | 0 => .nil
  | n + 1 => by rw [List.replicate_succ, List.replicate_succ, List.flatten_cons, List.flatten_cons]; exact RepL.append h (RepL.rep h n)
theorem dn_mulL {a b : Expr} {fa fb : M D} {pos : Pos} (ha : DE X W a fa) (hb : DE X W b fb) : DN X W (.BinOp a .Mult b pos) (bnd fa fun d => bnd fb fun e => mulLN d e) := by
  obtain ⟨ta, pa, ra⟩ := ha
  obtain ⟨tb, pb, rb⟩ := hb
  refine ⟨tOp (rMulR X.K) ta tb, pe_op op_mulR pa pb, fun w H σ s Q R p => ?_⟩
  refine ra.bnd R p fun d s1 w1 H1 v1 l1 R1 r1 p1 => ?_
  refine rb.bnd R1 p1 fun e s2 w2 H2 v2 l2 R2 r2 p2 => ?_
  unfold mulLN at p2
  split at p2
  · next xs n hx =>
    split at p2
    · next k =>
      obtain ⟨l, vs, rfl, h1, h2⟩ := R2.list (Rep.up l2 r1) hx
      cases r2
      refine ⟨l, vs, n, rfl, rfl, h1, k.1, k.2.1, by rw [RepL.length h2]; exact k.2.2, fun p hp => ?_⟩
      exact p2 w2 _ _ (Le.laid hp) (R2.laid hp) ⟨p, rfl, (R2.fresh hp).1, (R2.fresh hp).2, ⟨_, upd_same, RepL.rep h2 _⟩, hp⟩
    · exact p2.elim
  · exact p2.elim
theorem x_mulL {xs : List D} {n : Int} {s : S} {d : D} (h : lstOf s d = some xs) (h0 : 0 ≤ n ∧ n ≤ 1000 ∧ xs.length * n.toNat ≤ 256) : mulLN d (.int n) s = .ok (.lst (List.replicate n.toNat xs).flatten) s := by
  unfold mulLN
  rw [h]
  exact if_pos h0
/-! ### sorted(d), a dict with ints as keys, any number of them -/
def rSortedDA (K : PySem.W.Frag) : List V → Hp → VK → Prop := fun vs H Q =>
  ∃ (d : Addr) (pairs : List (Key × V)) (ns : List Int), vs = [V.ref d] ∧ Rd H d (.dK pairs) ∧ pairs.map Prod.fst = ns.map Sum.inl ∧ ns.length ≤ 1000000 ∧
    ∀ p, H p = none → Q (.ref p) (upd H p (.lst ((sortZ ns).map V.int)))
theorem cr_sortedDA (calm : X.calm = true) : CallR X (.builtin "sorted") (rSortedDA X.K) := by
  intro pins s σ H vs us Q I r h
  obtain ⟨d, pairs, ns, rfl, hd, keys, many, q⟩ := h
  rw [Vals.ref1 r]
  obtain ⟨z, low, cells, same, dc⟩ := dk_rd I.hok hd
  obtain ⟨ep, at1⟩ := dc.dictAt
  have keys2 : cells.map Prod.fst = ns.map Sum.inl := same.keys.symm.trans keys
  have size : cells.length = ns.length := by
    simpa using congrArg List.length keys2
  have fits : cells.length ≤ sizeLine := by
    rw [size, sizeLine_eq]; omega
  refine Calls.call_function_entry kind_sorted plain_sorted entry_sorted
    (args_sorted1 _) ?_
  unfold Builtin.«sorted»
  refine wpAny_bind
    (m := checkCount "sorted" 1 1 _)
    (wpAny_pure ?_)
  refine wpAny_bind
    (PySem.W.kdu_collect (A := X.A.in1)
      (PySem.W.kdl_dict (knd := mixKind X.prog X.w)
        (kvs := cells) (ep := ep) low)
      (I.ok.hd calm) at1 fits
      fun heap tk acc kept got => ?_)
  have lenA : acc.toList.length = ns.length := by
    rw [Array.length_toList, got.1, size]
  have hI : IntsAre acc.toList ns := ints_each lenA fun j v e => by
    have e : acc[j]? = some v := by rw [← Array.getElem?_toList]; exact e
    obtain ⟨k, x, e1, e2⟩ := got.2 j v e
    have e3 := congrArg (fun l => l[j]?) keys2
    simp only [List.getElem?_map, e1, Option.map_some] at e3
    cases e4 : ns[j]? with
    | none => rw [e4] at e3; cases e3
    | some y =>
      rw [e4] at e3
      cases e3
      rcases keyIs_shape (show keyIs (Sum.inl y) v = true from e2) with ⟨i, t, ek, ev⟩ | ⟨z, t, ek, ev⟩
      · cases ek
        exact ⟨y, t, rfl, ev⟩
      · cases ek
  have I1 : Inv X pins σ H { s with heap := heap, toks := tk } := I.kept kept
  refine wpAny_bind (wpAny_newList ?_
    (by rw [lenA, sizeLine_eq]; omega))
  obtain ⟨a, ha⟩ : ∃ a, a = heap.objs.size := ⟨_, rfl⟩
  have obj : (heap.push (seqObj "list" acc.toList.toArray 0)).get? a =
      some (seqObj "list" acc.toList.toArray 0) := by
    rw [ha]; exact Heap.get?_push_size _ rfl
  rw [← ha]
  show wpAny _ _ _ _ _ { s with
    heap := heap.push (seqObj "list" acc.toList.toArray 0), toks := tk }
  refine wpAny_bind (wpAny_holding (wpAny_call_entry slot_list_sort ⟨_, obj, rfl⟩
    entry_list_sort
    (SrtO.list_sort_ord SrtO.swo_int obj (by rw [lenA, sizeLine_eq]; omega)
      (fun h2 => SrtO.ints_sortable hI h2)
      fun out h1 h2 => ⟨.none, rfl, ?_⟩) (args_list_sort _)))
  obtain ⟨k1, k2, k3⟩ := SrtO.ints_out hI h1 h2
  obtain ⟨e', he'⟩ := sortedHeap_at (vs := acc.toList) (out := out.toArray) obj
  have same2 : out.map SrtO.iv = sortZ ns := eq_sortZ k2 k3
  have short : ((sortZ ns).map V.int).length ≤ sizeLine := by
    rw [List.length_map, (sortZ_perm ns).length_eq, sizeLine_eq]; omega
  rw [same2] at k1
  refine wpAny_pure ⟨_, rfl, .ref a, upd H a (.lst ((sortZ ns).map V.int)), ?_, rfl,
    q _ (by rw [ha]; exact I1.hok.fresh (Nat.le_refl _))⟩
  rw [ha]
  refine I1.laid (t' := tk) (fun b u e => ?_) (Nat.le_refl _)
    (show ObjOk X.prog X.w _ _ _ (.lst ((sortZ ns).map V.int)) from
      ⟨short, out, e', vals_of_ints k1, by rw [← ha]; exact he'⟩)
  have hb : b < heap.objs.size := Heap.lt_size e
  have hb2 : b < a := by rw [ha]; exact hb
  rw [← ha, sortedHeap_old (Nat.ne_of_lt hb2) (by
    rw [size_push', ← ha]; exact Nat.lt_succ_of_lt hb2)]
  exact Heap.get?_push_of_some _ e
def sortDM : List D → M Cell
  | [d] => fun s => match dctR s d with
    | some kvs => match intKs kvs with
      | some ns => if ns.length ≤ 1000000 then .ok (.lst ((sortZ ns).map D.int)) s else .bad
      | none => .bad
    | none => .bad
  | _ => fail
theorem rc_sortD : RCalN X (rSortedDA X.K) sortDM := by
  intro W w H σ s vs ds Q R r p
  unfold sortDM at p
  split at p
  · next d =>
    obtain ⟨v, rfl, rv⟩ := one_of r
    split at p
    · next kvs he =>
      split at p
      · next ns hn =>
        split at p
        · next hl =>
          obtain ⟨a, us, rfl, h1, h2⟩ := R.dictR rv he
          exact ⟨a, us, ns, rfl, h1, by rw [RepK.keys h2]; exact intKs_of hn, hl, fun q hq => R.giveL (repInts _) p hq⟩
        · exact p.elim
      · exact p.elim
    · exact p.elim
  · exact p.elim
theorem dn_sortDA {e : Expr} {fs : M (List D)} {p pos : Pos} (hm : X.mg "sorted" = none) (ha : DA X W [e] fs) (hc : X.calm = true := by rfl) (hg : Gl X "sorted" := by rfl) (he : starEach [e] X.env = (false, eval e X.env) :: starEach [] X.env := by rfl) (hpl : (backTo pos (starEach [] X.env)).any (·.1) = false := by rfl) :
    DN X W (.Call (.Name "sorted" p) [e] [] pos) (bnd fs sortDM) :=
  dn_callB (cr_sortedDA hc) rc_sortD hm ha (by decide +kernel) hg (by decide) (by decide) he hpl
theorem x_sortDA {n : Nat} {kvs : List (Key × D)} {ns : List Int} {s : S} (h : dctR s (.cell n) = some kvs) (hk : intKs kvs = some ns) (hl : ns.length ≤ 1000000) : sortDM [.cell n] s = .ok (.lst ((sortZ ns).map D.int)) s := by
  unfold sortDM
  dsimp only
  rw [h]
  dsimp only
  rw [hk]
  exact if_pos hl
end Fx

/-! Fx: data that differ are unequal -/
namespace Fx
open PySem PySem.Spec PyProof.Rows L2
mutual
/-- data without truths -/
def nbD : D → Bool
  | .non => true
  | .bl _ => false
  | .int _ => true
  | .str _ => true
  | .tup xs => nbL xs
  | .lst xs => nbL xs
  | .cell _ => false
  | .ref _ => false
  | .pr _ _ => false
def nbL : List D → Bool
  | [] => true
  | x :: r => nbD x && nbL r
end
mutual
theorem dq_ne : ∀ (d e : D) (p q : PyData), nbD d = true → nbD e = true → pyT d = some p → pyT e = some q → d ≠ e → PyData.eqv p q = false
  | .non, .non, _, _, _, _, _, _, n => absurd rfl n
  | .non, .int _, _, _, _, _, h1, h2, _ => by cases h1; cases h2; rfl
  | .non, .str _, _, _, _, _, h1, h2, _ => by cases h1; cases h2; rfl
  | .non, .tup xs, p, q, _, _, h1, h2, _ => by
    cases h1
    unfold pyT at h2
    cases e : pyL xs with
    | none => rw [e] at h2; cases h2
    | some y => rw [e] at h2; cases h2; rfl
  | .non, .lst xs, p, q, _, _, h1, h2, _ => by
    cases h1
    unfold pyT at h2
    cases e : pyL xs with
    | none => rw [e] at h2; cases h2
    | some y => rw [e] at h2; cases h2; rfl
  | .int _, .non, _, _, _, _, h1, h2, _ => by cases h1; cases h2; rfl
  | .int i, .int j, _, _, _, _, h1, h2, n => by
    cases h1; cases h2
    have : i ≠ j := fun e => n (by rw [e])
    simp [PyData.eqv, this]
  | .int _, .str _, _, _, _, _, h1, h2, _ => by cases h1; cases h2; rfl
  | .int _, .tup xs, p, q, _, _, h1, h2, _ => by
    cases h1
    unfold pyT at h2
    cases e : pyL xs with
    | none => rw [e] at h2; cases h2
    | some y => rw [e] at h2; cases h2; rfl
  | .int _, .lst xs, p, q, _, _, h1, h2, _ => by
    cases h1
    unfold pyT at h2
    cases e : pyL xs with
    | none => rw [e] at h2; cases h2
    | some y => rw [e] at h2; cases h2; rfl
  | .str _, .non, _, _, _, _, h1, h2, _ => by cases h1; cases h2; rfl
  | .str _, .int _, _, _, _, _, h1, h2, _ => by cases h1; cases h2; rfl
  | .str x, .str y, _, _, _, _, h1, h2, n => by
    cases h1; cases h2
    have : x ≠ y := fun e => n (by rw [e])
    simp [PyData.eqv, this]
  | .str _, .tup xs, p, q, _, _, h1, h2, _ => by
    cases h1
    unfold pyT at h2
    cases e : pyL xs with
    | none => rw [e] at h2; cases h2
    | some y => rw [e] at h2; cases h2; rfl
  | .str _, .lst xs, p, q, _, _, h1, h2, _ => by
    cases h1
    unfold pyT at h2
    cases e : pyL xs with
    | none => rw [e] at h2; cases h2
    | some y => rw [e] at h2; cases h2; rfl
  | .tup xs, e, p, q, a, b, h1, h2, n => by
    unfold pyT at h1
    cases hx : pyL xs with
    | none => rw [hx] at h1; cases h1
    | some y =>
      rw [hx] at h1
      cases h1
      cases e with
      | non => cases h2; rfl
      | int _ => cases h2; rfl
      | str _ => cases h2; rfl
      | bl _ => cases b
      | cell _ => cases b
      | ref _ => cases b
      | pr _ _ => cases b
      | lst zs =>
        unfold pyT at h2
        cases hz : pyL zs with
        | none => rw [hz] at h2; cases h2
        | some w => rw [hz] at h2; cases h2; rfl
      | tup zs =>
        unfold pyT at h2
        cases hz : pyL zs with
        | none => rw [hz] at h2; cases h2
        | some w =>
          rw [hz] at h2
          cases h2
          exact dq_neL xs zs y w a b hx hz fun e => n (by rw [e])
  | .lst xs, e, p, q, a, b, h1, h2, n => by
    unfold pyT at h1
    cases hx : pyL xs with
    | none => rw [hx] at h1; cases h1
    | some y =>
      rw [hx] at h1
      cases h1
      cases e with
      | non => cases h2; rfl
      | int _ => cases h2; rfl
      | str _ => cases h2; rfl
      | bl _ => cases b
      | cell _ => cases b
      | ref _ => cases b
      | pr _ _ => cases b
      | tup zs =>
        unfold pyT at h2
        cases hz : pyL zs with
        | none => rw [hz] at h2; cases h2
        | some w => rw [hz] at h2; cases h2; rfl
      | lst zs =>
        unfold pyT at h2
        cases hz : pyL zs with
        | none => rw [hz] at h2; cases h2
        | some w =>
          rw [hz] at h2
          cases h2
          exact dq_neL xs zs y w a b hx hz fun e => n (by rw [e])
  | .bl _, _, _, _, a, _, _, _, _ => by cases a
  | .cell _, _, _, _, a, _, _, _, _ => by cases a
  | .ref _, _, _, _, a, _, _, _, _ => by cases a
  | .pr _ _, _, _, _, a, _, _, _, _ => by cases a
  | .non, .bl _, _, _, _, b, _, _, _ => by cases b
  | .non, .cell _, _, _, _, b, _, _, _ => by cases b
  | .non, .ref _, _, _, _, b, _, _, _ => by cases b
  | .non, .pr _ _, _, _, _, b, _, _, _ => by cases b
  | .int _, .bl _, _, _, _, b, _, _, _ => by cases b
  | .int _, .cell _, _, _, _, b, _, _, _ => by cases b
  | .int _, .ref _, _, _, _, b, _, _, _ => by cases b
  | .int _, .pr _ _, _, _, _, b, _, _, _ => by cases b
  | .str _, .bl _, _, _, _, b, _, _, _ => by cases b
  | .str _, .cell _, _, _, _, b, _, _, _ => by cases b
  | .str _, .ref _, _, _, _, b, _, _, _ => by cases b
  | .str _, .pr _ _, _, _, _, b, _, _, _ => by cases b
theorem dq_neL : ∀ (xs ys : List D) (ps qs : List PyData), nbL xs = true → nbL ys = true → pyL xs = some ps → pyL ys = some qs → xs ≠ ys → PyData.eqvAll ps qs = false
  | [], [], _, _, _, _, _, _, n => absurd rfl n
  | [], y :: ys, ps, qs, _, _, h1, h2, _ => by
    cases h1
    unfold pyL at h2
    split at h2
    · cases h2; rfl
    · cases h2
  | x :: xs, [], ps, qs, _, _, h1, h2, _ => by
    cases h2
    unfold pyL at h1
    split at h1
    · cases h1; rfl
    · cases h1
  | x :: xs, y :: ys, ps, qs, a, b, h1, h2, n => by
    have a : (nbD x && nbL xs) = true := a
    have b : (nbD y && nbL ys) = true := b
    rw [Bool.and_eq_true] at a b
    unfold pyL at h1 h2
    split at h1
    · next p1 ps1 e1 e2 =>
      cases h1
      split at h2
      · next q1 qs1 e3 e4 =>
        cases h2
        show (PyData.eqv p1 q1 && PyData.eqvAll ps1 qs1) = false
        rcases Classical.em (x = y) with z | z
        · have : xs ≠ ys := fun e => n (by rw [z, e])
          rw [dq_neL xs ys ps1 qs1 a.2 b.2 e2 e4 this, Bool.and_false]
        · rw [dq_ne x y p1 q1 a.1 b.1 e1 e3 z, Bool.false_and]
      · cases h2
    · cases h1
end
theorem eqD_ne {d e : D} {s : S} (h : Eqd 64 d) (k : Eqd 64 e) (a : nbD d = true) (b : nbD e = true) (n : d ≠ e) : eqD d e s = .ok (.bl false) s ∧ neD d e s = .ok (.bl true) s := by
  obtain ⟨p, h1, h2, h3, h4⟩ := dq_self d h.1
  obtain ⟨q, k1, k2, k3, k4⟩ := dq_self e k.1
  have h5 : pyD s d = some p := by
    cases d with
    | cell n => cases h1
    | _ => exact h1
  have k5 : pyD s e = some q := by
    cases e with
    | cell n => cases k1
    | _ => exact k1
  have h6 : SeqAt.shaped p = true := by
    unfold SeqAt.shaped
    rw [h2, h4]
    exact decide_eq_true h.2
  have k6 : SeqAt.shaped q = true := by
    unfold SeqAt.shaped
    rw [k2, k4]
    exact decide_eq_true k.2
  unfold eqD neD
  rw [h5, k5]
  dsimp only
  rw [h6, k6, dq_ne d e p q a b h1 k1 n]
  exact ⟨rfl, rfl⟩
theorem x_eqNe {d e : D} {s : S} (h : Eqd 64 d) (k : Eqd 64 e) (a : nbD d = true) (b : nbD e = true) (n : d ≠ e) : eqM d e s = .ok (.bl false) s := by
  unfold eqM
  split
  · next x y =>
    show Res.ok _ _ = _
    rw [decide_eq_false fun e => n (by rw [e])]
  · exact (eqD_ne h k a b n).1
theorem x_neNe {d e : D} {s : S} (h : Eqd 64 d) (k : Eqd 64 e) (a : nbD d = true) (b : nbD e = true) (n : d ≠ e) : neM d e s = .ok (.bl true) s := by
  unfold neM
  split
  · next x y =>
    show Res.ok _ _ = _
    rw [decide_eq_false fun e => n (by rw [e])]
    rfl
  · exact (eqD_ne h k a b n).2
theorem x_eqCNe {n : Nat} {ds es : List D} {s : S} (h : s.vh[n]? = some (.lst ds)) (k : Eqd 64 (.lst ds)) (k2 : Eqd 64 (.lst es)) (a : nbD (.lst ds) = true) (b : nbD (.lst es) = true) (q : D.lst ds ≠ .lst es) : eqM (.cell n) (.lst es) s = .ok (.bl false) s := by
  show eqD (.cell n) (.lst es) s = _
  have := (eqD_ne (s := s) k k2 a b q).1
  unfold eqD at this ⊢
  rw [pyD_cellL h]
  exact this
theorem x_neCNe {n : Nat} {ds es : List D} {s : S} (h : s.vh[n]? = some (.lst ds)) (k : Eqd 64 (.lst ds)) (k2 : Eqd 64 (.lst es)) (a : nbD (.lst ds) = true) (b : nbD (.lst es) = true) (q : D.lst ds ≠ .lst es) : neM (.cell n) (.lst es) s = .ok (.bl true) s := by
  show neD (.cell n) (.lst es) s = _
  have := (eqD_ne (s := s) k k2 a b q).2
  unfold neD at this ⊢
  rw [pyD_cellL h]
  exact this
theorem nbL_all : ∀ {ds : List D}, (∀ d ∈ ds, nbD d = true) → nbL ds = true
  | [], _ => rfl
  | d :: ds, h => by unfold nbL; rw [h d List.mem_cons_self, nbL_all fun e he => h e (List.mem_cons_of_mem _ he)]; rfl
/-! a, b, c, d = t -/
section
variable {X : Cx}
def unp4 (i j k l : Nat) (d : D) : M Out := fun s => match d with
  | .tup [x, y, z, v] => .ok .nx { s with loc := (((s.loc.set i (some x)).set j (some y)).set k (some z)).set l (some v) }
  | _ => .bad
theorem dg_four {i j k l : Nat} {x y z v : Str} {kk : Nat} {p1 p2 p3 p4 pos : Pos} (hc : X.calm = true) (hN : X.N.Nodup) (hi : X.N[i]? = some x := by rfl) (hj : X.N[j]? = some y := by rfl) (hk : X.N[k]? = some z := by rfl) (hl : X.N[l]? = some v := by rfl)
    (hx : Loc X.env.scope x := by first | exact Or.inl rfl | exact Or.inr rfl) (hy : Loc X.env.scope y := by first | exact Or.inl rfl | exact Or.inr rfl) (hz : Loc X.env.scope z := by first | exact Or.inl rfl | exact Or.inr rfl) (hv : Loc X.env.scope v := by first | exact Or.inl rfl | exact Or.inr rfl)
    (hfx : X.fn x = true ∨ X.env.scope.names.lookup x = some .local := by first | exact .inl rfl | exact .inr rfl) (hfy : X.fn y = true ∨ X.env.scope.names.lookup y = some .local := by first | exact .inl rfl | exact .inr rfl) (hfz : X.fn z = true ∨ X.env.scope.names.lookup z = some .local := by first | exact .inl rfl | exact .inr rfl) (hfv : X.fn v = true ∨ X.env.scope.names.lookup v = some .local := by first | exact .inl rfl | exact .inr rfl)
    (hn : (assignEach [.Name x p1, .Name y p2, .Name z p3, .Name v p4] X.env).length = 4 := by rfl) (hst : (assignEach [.Name x p1, .Name y p2, .Name z p3, .Name v p4] X.env).findIdx? (·.1) = none := by rfl)
    (hs1 : (assignEach [.Name x p1, .Name y p2, .Name z p3, .Name v p4] X.env).map (·.2) = assign (.Name x p1) X.env :: (assignEach [.Name y p2, .Name z p3, .Name v p4] X.env).map (·.2) := by rfl)
    (hs2 : (assignEach [.Name y p2, .Name z p3, .Name v p4] X.env).map (·.2) = assign (.Name y p2) X.env :: (assignEach [.Name z p3, .Name v p4] X.env).map (·.2) := by rfl)
    (hs3 : (assignEach [.Name z p3, .Name v p4] X.env).map (·.2) = assign (.Name z p3) X.env :: (assignEach [.Name v p4] X.env).map (·.2) := by rfl)
    (hs4 : (assignEach [.Name v p4] X.env).map (·.2) = assign (.Name v p4) X.env :: (assignEach [] X.env).map (·.2) := by rfl) :
    DG X (.Tuple [.Name x p1, .Name y p2, .Name z p3, .Name v p4] kk pos) (unp4 i j k l) := by
  refine ⟨_, pg_tup hc (pgs_cons (pg_name hN hi hx hfx) (pgs_cons (pg_name hN hj hy hfy) (pgs_cons (pg_name hN hk hz hfz) (pgs_cons (pg_name hN hl hv hfv) pgs_nil hs4) hs3) hs2) hs1) hn hst, fun w H σ s v d Q R r p => ?_⟩
  unfold unp4 at p
  split at p
  · next d1 d2 d3 d4 =>
    obtain ⟨a, vs, rfl, h1, h2⟩ := R.tuple r (ds := [d1, d2, d3, d4]) rfl
    cases h2 with
    | cons r1 t1 =>
      cases t1 with
      | cons r2 t2 =>
        cases t2 with
        | cons r3 t3 =>
          cases t3 with
          | cons r4 t4 =>
            cases t4
            exact ⟨a, _, rfl, h1, rfl, _, _, rfl, _, _, rfl, _, _, rfl, _, _, rfl, rfl, p w H _ (Le.refl _ _) ((((R.set r1).set r2).set r3).set r4)⟩
  · exact p.elim
theorem unp4_ok {i j k l : Nat} (d : D) (s : S) : (∃ s', unp4 i j k l d s = .ok .nx s') ∨ unp4 i j k l d s = .bad := by
  unfold unp4
  split
  · exact .inl ⟨_, rfl⟩
  · exact .inr rfl
theorem x_unp4 {i j k l : Nat} {x y z v : D} {s : S} : unp4 i j k l (.tup [x, y, z, v]) s = .ok .nx ⟨(((s.loc.set i (some x)).set j (some y)).set k (some z)).set l (some v), s.vh⟩ := nr rfl
end
end Fx

/-! lists of instances: the same ones at every place make equal lists -/
namespace L2
open PySem PySem.Spec
section
variable {X : Cx}
def rEqS (K : PySem.W.Frag) : R2 := fun x y H Q => ∃ a b xs, x = .ref a ∧ y = .ref b ∧ SqL K H a xs ∧ SqL K H b xs ∧ (∀ v ∈ xs, ∃ c, v = V.ref c) ∧ Q (.bl true) H
theorem valsRefs : ∀ {vs : List V} {us ws : List Value}, (∀ v ∈ vs, ∃ c, v = V.ref c) → Vals vs us → Vals vs ws → us = ws
  | [], _, _, _, r, q => by cases r; cases q; rfl
  | v :: vs, _, _, h, r, q => by
    cases r with
    | cons r1 r2 =>
      cases q with
      | cons q1 q2 =>
        obtain ⟨c, e⟩ := h v List.mem_cons_self
        subst e
        cases r1
        cases q1
        rw [valsRefs (fun v hv => h v (List.mem_cons_of_mem _ hv)) r2 q2]
theorem op_eqS (hu : X.A.units + 64 < cLine) : OpR X (compareOp .Eq) (rEqS X.K) := by
  intro pins s σ H x y v u Q I rx ry h
  obtain ⟨a, b, xs, rfl, rfl, h1, h2, h3, q⟩ := h
  cases rx
  cases ry
  obtain ⟨its, rv, hl, _⟩ := I.list h1
  obtain ⟨its', rv', hl', _⟩ := I.list h2
  have e := valsRefs h3 rv rv'
  subst e
  have k := SeqAt.RcAt.lists (A := X.A) hl.isList hl'.isList rfl (by omega) (e := fun _ => true) fun j _ _ => SeqAt.EqAt.same _
  rw [show (List.range its.toArray.size).all (fun _ => true) = true by simp] at k
  exact k _ _ _ _ ⟨.bl _, H, I, rfl, q⟩
def rNeS (K : PySem.W.Frag) : R2 := fun x y H Q => ∃ a b xs, x = .ref a ∧ y = .ref b ∧ SqL K H a xs ∧ SqL K H b xs ∧ (∀ v ∈ xs, ∃ c, v = V.ref c) ∧ Q (.bl false) H
theorem op_neS (hu : X.A.units + 64 < cLine) : OpR X (compareOp .NotEq) (rNeS X.K) := by
  intro pins s σ H x y v u Q I rx ry h
  obtain ⟨a, b, xs, rfl, rfl, h1, h2, h3, q⟩ := h
  cases rx
  cases ry
  obtain ⟨its, rv, hl, _⟩ := I.list h1
  obtain ⟨its', rv', hl', _⟩ := I.list h2
  have e := valsRefs h3 rv rv'
  subst e
  have k := SeqAt.RcNeAt.lists (A := X.A) hl.isList hl'.isList rfl (by omega) (e := fun _ => true) fun j _ _ => SeqAt.EqAt.same _
  rw [show (List.range its.toArray.size).all (fun _ => true) = true by simp] at k
  exact k _ _ _ _ ⟨.bl _, H, I, rfl, q⟩
end
end L2
namespace Fx
open PySem PySem.Spec L2
def idsOf : List D → Option (List Nat)
  | [] => some []
  | .cell n :: r => (idsOf r).map (n :: ·)
  | _ => none
def lstIds (s : S) : D → Option (List Nat)
  | .lst xs => idsOf xs
  | .cell n => match s.vh[n]? with
    | some (.lst xs) => idsOf xs
    | _ => none
  | _ => none
def eqSM (d e : D) : M D := fun s => match lstIds s d, lstIds s e with
  | some xs, some ys => if xs = ys then .ok (.bl true) s else .bad
  | _, _ => .bad
section
variable {X : Cx} {K : PySem.W.Frag} {w : Wd} {H : Hp} {σ : L2.St} {s : S}
theorem idsOf_rep : ∀ {ds es : List D} {ns : List Nat} {vs us : List V}, idsOf ds = some ns → idsOf es = some ns → RepL K w vs ds → RepL K w us es → vs = us ∧ ∀ v ∈ vs, ∃ c, v = V.ref c
  | [], [], _, _, _, _, _, r, q => by cases r; cases q; exact ⟨rfl, fun v hv => (by cases hv)⟩
  | [], e :: es, ns, _, _, h1, h2, _, _ => by
    unfold idsOf at h1
    cases h1
    cases e <;> (unfold idsOf at h2; first | cases h2 | (cases k : idsOf es <;> rw [k] at h2 <;> cases h2))
  | d :: ds, [], ns, _, _, h1, h2, _, _ => by
    unfold idsOf at h2
    cases h2
    cases d <;> (unfold idsOf at h1; first | cases h1 | (cases k : idsOf ds <;> rw [k] at h1 <;> cases h1))
  | d :: ds, e :: es, ns, _, _, h1, h2, r, q => by
    obtain ⟨m, ms, e1, k1, hn⟩ : ∃ m ms, d = .cell m ∧ idsOf ds = some ms ∧ ns = m :: ms := by
      cases d <;> (unfold idsOf at h1; first | cases h1 | skip)
      cases k : idsOf ds with
      | none => rw [k] at h1; cases h1
      | some ms => rw [k] at h1; cases h1; exact ⟨_, ms, rfl, rfl, rfl⟩
    subst e1 hn
    obtain ⟨e2, k2⟩ : e = .cell m ∧ idsOf es = some ms := by
      cases e <;> (unfold idsOf at h2; first | cases h2 | skip)
      cases k : idsOf es with
      | none => rw [k] at h2; cases h2
      | some ms => rw [k] at h2; cases h2; exact ⟨rfl, rfl⟩
    subst e2
    cases r with
    | cons r1 r2 =>
      cases q with
      | cons q1 q2 =>
        cases r1 with
        | cell r1 =>
          cases q1 with
          | cell q1 =>
            rw [r1] at q1
            cases q1
            obtain ⟨a1, a2⟩ := idsOf_rep k1 k2 r2 q2
            subst a1
            refine ⟨rfl, fun v hv => ?_⟩
            rcases List.mem_cons.mp hv with z | z
            · exact ⟨_, z⟩
            · exact a2 v z
theorem lstIds_rep (R : RS K w H σ s) {v : V} {d : D} {ns : List Nat} (r : Rep K w v d) (h : lstIds s d = some ns) : ∃ a vs ds, v = .ref a ∧ SqL K H a vs ∧ RepL K w vs ds ∧ idsOf ds = some ns := by
  cases r with
  | @cell a n h1 =>
    obtain ⟨c, e, hc⟩ := R.cellOf h1
    unfold lstIds at h
    simp only [e] at h
    cases c with
    | lst ds =>
      obtain ⟨vs, h3, h4⟩ := hc
      exact ⟨_, vs, ds, rfl, SqL.of h3, h4, h⟩
    | _ => cases h
  | lst h1 t => exact ⟨_, _, _, rfl, sqL_up R.sub h1, t, h⟩
  | _ => cases h
theorem rop_eqS : ROp X (rEqS X.K) eqSM := by
  intro W w H σ s x y d e Q R rx ry p
  unfold eqSM at p
  split at p
  · next p1 q1 h1 h2 =>
    split at p
    · next k =>
      subst k
      obtain ⟨a, vs, ds, e1, s1, r1, k1⟩ := lstIds_rep R rx h1
      obtain ⟨b, us, es, e2, s2, r2, k2⟩ := lstIds_rep R ry h2
      obtain ⟨e3, al⟩ := idsOf_rep k1 k2 r1 r2
      subst e3
      exact ⟨a, b, vs, e1, e2, s1, s2, al, Post.here p R (Rep.bl _)⟩
    · exact p.elim
  · exact p.elim
end
def neSM (d e : D) : M D := fun s => match lstIds s d, lstIds s e with
  | some xs, some ys => if xs = ys then .ok (.bl false) s else .bad
  | _, _ => .bad
theorem rop_neS {X : Cx} : ROp X (rNeS X.K) neSM := by
  intro W w H σ s x y d e Q R rx ry p
  unfold neSM at p
  split at p
  · next p1 q1 h1 h2 =>
    split at p
    · next k =>
      subst k
      obtain ⟨a, vs, ds, e1, s1, r1, k1⟩ := lstIds_rep R rx h1
      obtain ⟨b, us, es, e2, s2, r2, k2⟩ := lstIds_rep R ry h2
      obtain ⟨e3, al⟩ := idsOf_rep k1 k2 r1 r2
      subst e3
      exact ⟨a, b, vs, e1, e2, s1, s2, al, Post.here p R (Rep.bl _)⟩
    · exact p.elim
  · exact p.elim
theorem idsOf_map : ∀ ns : List Nat, idsOf (ns.map D.cell) = some ns
  | [] => rfl
  | n :: ns => by rw [List.map_cons]; unfold idsOf; rw [idsOf_map ns]; rfl
theorem x_eqS1 {ns : List Nat} {n : Nat} {s : S} (h : s.vh[n]? = some (.lst (ns.map D.cell))) : eqSM (.lst (ns.map D.cell)) (.cell n) s = .ok (.bl true) s := by
  unfold eqSM lstIds
  simp only [h, idsOf_map, if_true]
theorem x_eqS2 {ns : List Nat} {s : S} : eqSM (.lst (ns.map D.cell)) (.lst (ns.map D.cell)) s = .ok (.bl true) s := by
  unfold eqSM lstIds
  simp only [idsOf_map, if_true]
theorem x_neS1 {ns : List Nat} {n : Nat} {s : S} (h : s.vh[n]? = some (.lst (ns.map D.cell))) : neSM (.lst (ns.map D.cell)) (.cell n) s = .ok (.bl false) s := by
  unfold neSM lstIds
  simp only [h, idsOf_map, if_true]
theorem x_neS2 {ns : List Nat} {s : S} : neSM (.lst (ns.map D.cell)) (.lst (ns.map D.cell)) s = .ok (.bl false) s := by
  unfold neSM lstIds
  simp only [idsOf_map, if_true]
end Fx

/-! Fx: zip of a tuple and a list -/
namespace Fx
open PySem PySem.Spec PyProof.Rows L2
variable {X : Cx} {W : WX}
/-- a tuple at a, a list at b, their items in new pairs -/
def ItzM (K : PySem.W.Frag) (a b : Addr) : It where
  go i H := ∃ (ps qs : List V) (p q : V), (SqT K H a ps ∧ ps[i]? = some p) ∧ SqL K H b qs ∧ qs[i]? = some q
  yld i H v H' := ∃ T p q, (v = .ref T ∧ H T = none) ∧ H' = upd H T (.tup [p, q]) ∧ (∀ ps, SqT K H a ps → ps[i]? = some p) ∧ ∀ qs, SqL K H b qs → qs[i]? = some q
  stop i H := ∃ ps qs : List V, (SqT K H a ps ∧ SqL K H b qs) ∧ (ps.length ≤ i ∨ qs.length ≤ i)
theorem sepM {z TI TO i1 i2 a b : Addr} (D : ZipApart z TI TO i1 i2 a b) : ZipSep2 z TI TO i1 i2 [i1, a] [i2, b] := by
  have two : ∀ {x y w : Addr}, x ≠ y → x ≠ w → x ∉ [y, w] := fun h h2 hm => by
    rcases List.mem_cons.mp hm with e | e
    · exact h e
    · exact h2 (List.mem_singleton.mp e)
  exact { TIz := D.TIz, TOz := D.TOz, TITO := D.TITO, TIi1 := D.TIi1, TIi2 := D.TIi2, mem1 := List.mem_cons_self, mem2 := List.mem_cons_self,
          zf1 := two (Ne.symm D.i1z) (Ne.symm D.l1z), Tf1 := two D.TOi1 (Ne.symm D.l1TO), zf2 := two (Ne.symm D.i2z) (Ne.symm D.l2z), Tf2 := two D.TOi2 (Ne.symm D.l2TO),
          sep1_2 := two D.i12 (Ne.symm D.l2i1), sep2_1 := two (Ne.symm D.i12) (Ne.symm D.l1i2) }
/-- iterators that have come to their end, wherever -/
theorem endT {prog : Program} {w : World} {A : Around} (hh : A.handled = none) {it t : Addr} {items : Array Value} {i : Nat} (hx : items[i]? = none) :
    Draws prog w A it [it, t] i (fun _ _ => True) (fun j h => j = i ∧ h.IsTupleIter it t i ∧ h.IsTuple t items) := by
  refine ⟨fun _ _ st => ?_, fun _ _ _ st k => ⟨st.1, st.2.1.at fun o e => k it (by simp) o e, st.2.2.at fun o e => k t (by simp) o e⟩, fun j s Q E hj st _ => absurd st.1 (Nat.ne_of_lt hj), fun s Q E st hE => wpAny_nextOf_tuple_end hh st.2.1 st.2.2 hx hE⟩
  obtain ⟨o, ho, _⟩ := st.2.1
  exact ⟨o, ho⟩
theorem endL {prog : Program} {w : World} {A : Around} (hh : A.handled = none) {it l : Addr} {items : Array Value} {i : Nat} (hx : items[i]? = none) :
    Draws prog w A it [it, l] i (fun _ _ => True) (fun j h => j = i ∧ h.IsListIter it l i ∧ h.IsList l items) := by
  refine ⟨fun _ _ st => ?_, fun _ _ _ st k => ⟨st.1, st.2.1.at fun o e => k it (by simp) o e, st.2.2.at fun o e => k l (by simp) o e⟩, fun j s Q E hj st _ => absurd st.1 (Nat.ne_of_lt hj), fun s Q E st hE => wpAny_nextOf_list_end hh st.2.1 st.2.2 hx hE⟩
  obtain ⟨o, ho, _⟩ := st.2.1
  exact ⟨o, ho⟩
/-- the cells of such a zip at turn i -/
structure ZipMAt (z TI TO i1 i2 a b : Addr) (i : Nat) (h : Heap) : Prop where
  zp : IsZip h z TI TO .none
  ti : IsTupOf2 h TI (.ref i1) (.ref i2)
  to : ∃ x y, IsTupOf2 h TO x y
  t1 : h.IsTupleIter i1 a i
  t2 : h.IsListIter i2 b i
theorem five {c z TI TO i1 i2 : Addr} (h : c ∈ [z, TI, TO, i1, i2]) : c = z ∨ c = TI ∨ c = TO ∨ c = i1 ∨ c = i2 := by simpa using h
theorem turn_zipM {P : Program} {w : World} {K : PySem.W.Frag} {elts : List Expr} {kk : Nat} {tpos : Pos} {a b z TI TO i1 i2 : Addr} (D : ZipApart z TI TO i1 i2 a b) :
    Turn P w K (.Tuple elts kk tpos) (ItzM K a b) [z, TI, TO, i1, i2] z (ZipMAt z TI TO i1 i2 a b) := by
  have S := sepM D
  have out : ∀ {s h' : Heap}, (∀ c o, c ≠ z → c ≠ TO → c ≠ i1 → c ≠ i2 → s.get? c = some o → h'.get? c = some o) → ∀ c o, c ∉ [z, TI, TO, i1, i2] → s.get? c = some o → h'.get? c = some o := fun k c o hc e =>
    k c o (fun x => hc (by rw [x]; simp)) (fun x => hc (by rw [x]; simp)) (fun x => hc (by rw [x]; simp)) (fun x => hc (by rw [x]; simp)) e
  refine ⟨by simp, fun i h st c hc => ?_, fun i h h' st k => ?_, ?_, ?_, fun A i s Q E st h => wpAny_pyIter_zip st.zp h⟩
  · obtain ⟨⟨x, y, hTO⟩, ⟨o1, e1, _, d1⟩, ⟨o2, e2, _, d2⟩⟩ := And.intro st.to (And.intro st.t1 st.t2)
    rcases five hc with e | e | e | e | e <;> subst e
    · exact ⟨_, st.zp, fun v q => nomatch q⟩
    · exact ⟨_, st.ti, fun v q => nomatch q⟩
    · exact ⟨_, hTO, fun v q => nomatch q⟩
    · exact ⟨o1, e1, fun v q => by rw [d1] at q; cases q⟩
    · exact ⟨o2, e2, fun v q => by rw [d2] at q; cases q⟩
  · obtain ⟨x, y, hTO⟩ := st.to
    exact ⟨k z (by simp) _ st.zp, k TI (by simp) _ st.ti, ⟨x, y, k TO (by simp) _ hTO⟩, st.t1.at fun o q => k i1 (by simp) o q, st.t2.at fun o q => k i2 (by simp) o q⟩
  · intro X hP hw hK hc i pins s σ H E I hf st hg
    subst hP hw hK
    obtain ⟨ps, qs, p, q, ⟨hps, hp⟩, hqs, hq⟩ := hg
    obtain ⟨us, ru, tu, _⟩ := I.tuple hps
    obtain ⟨vs, rv, tv, _⟩ := I.list hqs
    obtain ⟨u, hu, ru1⟩ := ru.get hp
    obtain ⟨v, hv, rv1⟩ := rv.get hq
    obtain ⟨x0, y0, hTO⟩ := st.to
    have hh : X.A.in1.handled = none := by have := I.ok.hd hc; simp [this]
    have D1 := Draws.tuple (prog := X.prog) (w := X.w) hh i1 a D.l1i1 us.toArray
    have D2 := Draws.list (prog := X.prog) (w := X.w) hh i2 b D.l2i2 vs.toArray
    have zl : z < s.heap.objs.size := Heap.lt_size st.zp
    have lu : i < us.toArray.size := by have := (List.getElem?_eq_some_iff.mp hu).1; simpa using this
    have lv : i < vs.toArray.size := by have := (List.getElem?_eq_some_iff.mp hv).1; simpa using this
    refine wpAny_pyNext_zipD2_item S D1 D2 st.zp st.ti hTO (i := i) ⟨st.t1, tu⟩ ⟨st.t2, tv.isList⟩ lu lv fun x y h1 tk ex ey nz nTO n1 n2 nT nsz kept => ?_
    have ex : u = x := by have h2 : us[i]? = some x := by simpa using ex
                          rw [hu] at h2; exact Option.some.inj h2
    have ey : v = y := by have h2 : vs[i]? = some y := by simpa using ey
                          rw [hv] at h2; exact Option.some.inj h2
    subst ex ey
    refine ⟨_, rfl, wpAny_letOwnedTupleGo_zip (s := { s with heap := h1, toks := tk }) nz fun h2 nz2 sb => ?_⟩
    have far : ∀ c, c ∈ [z, TI, TO, i1, i2] → c < s.heap.objs.size := fun c hm => by
      obtain ⟨⟨o1, g1, _⟩, ⟨o2, g2, _⟩⟩ := And.intro st.t1 st.t2
      rcases five hm with e | e | e | e | e <;> subst e
      · exact zl
      · exact Heap.lt_size st.ti
      · exact Heap.lt_size hTO
      · exact Heap.lt_size g1
      · exact Heap.lt_size g2
    have keep2 : ∀ c o, c ≠ z → h1.get? c = some o → h2.get? c = some o := fun c o hz e => (sb.2 c hz).trans e
    have nT2 : h2.get? s.heap.objs.size = some { cls := .type "tuple", data := .seq #[u, v] } := keep2 _ _ (Nat.ne_of_gt zl) nT
    have new : ObjOk X.prog X.w (upd H s.heap.objs.size (.tup [p, q])) h2 s.heap.objs.size (.tup [p, q]) :=
      ⟨by show 2 ≤ sizeLine; decide, [u, v], .cons ru1 (.cons rv1 .nil), ⟨_, nT2, rfl, _, rfl⟩⟩
    have I2 : Inv X pins σ (upd H s.heap.objs.size (.tup [p, q])) { s with heap := h2, toks := tk } :=
      I.turnedNew (ch := [z, TI, TO, i1, i2]) (fun c o hm e => keep2 c o (fun x => hm (by rw [x]; simp)) (out kept c o hm e)) hf (Nat.le_refl _) new
    refine ⟨.ref s.heap.objs.size, _, I2, rfl, ⟨_, p, q, ⟨rfl, I.hok.fresh (Nat.le_refl _)⟩, rfl, fun l hl => ?_, fun l hl => ?_⟩, ⟨nz2, keep2 _ _ D.TIz (kept _ _ D.TIz D.TITO D.TIi1 D.TIi2 st.ti), ⟨u, v, keep2 _ _ D.TOz nTO⟩, n1.1.at fun o e => keep2 _ o D.i1z e, n2.1.at fun o e => keep2 _ o D.i2z e⟩, fun c hm => ?_⟩
    · rw [I.tuple_inj hl hps]; exact hp
    · rw [I.list_inj hl hqs]; exact hq
    · rw [upd_ne (Nat.ne_of_lt (far c hm))]; exact (hf c hm).1
  · intro X hP hw hK hc i pins s σ H E I hf st hg
    subst hP hw hK
    obtain ⟨ps, qs, ⟨hps, hqs⟩, hend⟩ := hg
    obtain ⟨us, ru, tu, _⟩ := I.tuple hps
    obtain ⟨vs, rv, tv, _⟩ := I.list hqs
    obtain ⟨x0, y0, hTO⟩ := st.to
    have hh : X.A.in1.handled = none := by have := I.ok.hd hc; simp [this]
    have lu := ru.length
    have lv := rv.length
    have fin : ∀ (h1 : Heap) (tk : Nat), (∀ c o, c ≠ z → c ≠ TO → c ≠ i1 → c ≠ i2 → s.heap.get? c = some o → h1.get? c = some o) → (none : Option Value) = none ∧ Inv X pins σ H { s with heap := h1, toks := tk } := fun h1 tk k =>
      ⟨rfl, I.turnedL (ch := [z, TI, TO, i1, i2]) (out k) hf⟩
    have tvl := tv.isList
    by_cases c1 : i < us.length
    · have c2 : ¬ i < vs.length := fun c2 => by omega
      have D1 := Draws.tuple (prog := X.prog) (w := X.w) hh i1 a D.l1i1 us.toArray
      have D2 := endL (prog := X.prog) (w := X.w) (it := i2) (l := b) hh (items := vs.toArray) (i := i) (by simp; omega)
      exact wpAny_pyNext_zipD2_end S D1 D2 st.zp st.ti hTO (i := i) ⟨st.t1, tu⟩ ⟨rfl, st.t2, tvl⟩ (by simp; omega) (Nat.le_refl _) (.inr rfl) fin
    · have D1 := endT (prog := X.prog) (w := X.w) (it := i1) (t := a) hh (items := us.toArray) (i := i) (by simp; omega)
      by_cases c2 : i < vs.length
      · have D2 := Draws.list (prog := X.prog) (w := X.w) hh i2 b D.l2i2 vs.toArray
        exact wpAny_pyNext_zipD2_end S D1 D2 st.zp st.ti hTO (i := i) ⟨rfl, st.t1, tu⟩ ⟨st.t2, tvl⟩ (Nat.le_refl _) (by simp; omega) (.inl rfl) fin
      · have D2 := endL (prog := X.prog) (w := X.w) (it := i2) (l := b) hh (items := vs.toArray) (i := i) (by simp; omega)
        exact wpAny_pyNext_zipD2_end S D1 D2 st.zp st.ti hTO (i := i) ⟨rfl, st.t1, tu⟩ ⟨rfl, st.t2, tvl⟩ (Nat.le_refl _) (Nat.le_refl _) (.inl rfl) fin
/-- zip(t, l) -/
def iZipM (K : PySem.W.Frag) (ta : TA) : TI := fun σ H R => ta σ H fun vs H1 => ∃ a b ps qs, (vs = [.ref a, .ref b] ∧ SqT K H1 a ps) ∧ SqL K H1 b qs ∧ R (ItzM K a b) H1
theorem pi_zipM {e e2 : Expr} {ta : TA} {p pos tpos : Pos} {elts : List Expr} {kk : Nat} (hg : Gl X "zip") (hm : X.mg "zip" = none) (ha : PA X [e, e2] ta)
    (hs : starEach [e, e2] X.env = (false, eval e X.env) :: starEach [e2] X.env) (hpl : (backTo pos (starEach [e2] X.env)).any (·.1) = false) :
    PI X (.Tuple elts kk tpos) (.Call (.Name "zip" p) [e, e2] [] pos) (iZipM X.K ta) := by
  constructor
  intro pins s σ H R I h
  refine Call_ (ld_blt I hg hm PyProof.Rows.boot_zip (PyProof.Rows.callWith_type1 (thn (ha.run pos pins s σ H _ I h) fun us s1 ⟨vs, H1, I1, r1, q1⟩ => ?_) hs hpl))
  obtain ⟨a, b, ps, qs, ⟨ev, hps⟩, hqs, hR⟩ := q1
  subst ev
  obtain ⟨u, us2, rfl, ru, r2⟩ : ∃ u us2, us = u :: us2 ∧ RelV (.ref a) u ∧ Vals [.ref b] us2 := by
    cases r1 with
    | cons r rr => exact ⟨_, _, rfl, r, rr⟩
  obtain ⟨v, rfl, rv⟩ : ∃ v, us2 = [v] ∧ RelV (.ref b) v := by
    cases r2 with
    | cons r rr => cases rr; exact ⟨_, rfl, r⟩
  cases ru
  cases rv
  obtain ⟨its, _, tu, _⟩ := I1.tuple hps
  obtain ⟨its2, _, tl, _⟩ := I1.list hqs
  have tu2 : s1.heap.IsTuple a its.toArray := tu
  have tl2 := tl.isList
  have la : a < s1.heap.objs.size := let ⟨o, ho, _⟩ := tu2; Heap.lt_size ho
  have D := PySem.W.ktu_apart s1.heap.objs.size a b la tl.lt
  refine zip_begins2 (begins_tuple a its.toArray) (begins_list b its2.toArray) tu2 tl2 fun h1 nz nTI nTO n1 n2 _ kept => wpAny_pyIter_zip nz ?_
  have I2 : Inv X pins σ H1 { s1 with heap := h1 } := I1.kept (t' := s1.toks) kept
  refine ⟨_, [s1.heap.objs.size + 4, s1.heap.objs.size + 2, s1.heap.objs.size + 3, s1.heap.objs.size, s1.heap.objs.size + 1], _, _, H1, rfl, I2, turn_zipM D, ⟨nz, nTI, ⟨_, _, nTO⟩, ⟨_, n1, rfl, rfl⟩, ⟨_, n2, rfl, rfl⟩⟩, fun c hm => ?_, hR⟩
  have old : ∀ d, s1.heap.objs.size ≤ d → FpOk X pins H1 d := fun d hd => I1.fpOk hd (I1.hok.fresh hd)
  rcases five hm with e | e | e | e | e <;> subst e
  · exact old _ (Nat.le_add_right _ _)
  · exact old _ (Nat.le_add_right _ _)
  · exact old _ (Nat.le_add_right _ _)
  · exact old _ (Nat.le_refl _)
  · exact old _ (Nat.le_add_right _ _)
noncomputable def zipM : List D → M Wk
  | [a, b] => fun s => match tupOf a, lstOf s b with
    | some xs, some ys => .ok ⟨List.zipWith D.pr xs ys, fun s' => lstOf s' b = some ys⟩ s
    | _, _ => .bad
  | _ => fun _ => .bad
theorem pI_zipM {K : PySem.W.Frag} {w0 : Wd} {a b : Addr} {d e : D} {xs ys : List D} (ra : Rep K w0 (.ref a) d) (rb : Rep K w0 (.ref b) e) (k1 : tupOf d = some xs) : wkI K w0 (ItzM K a b) ⟨List.zipWith D.pr xs ys, fun s' => lstOf s' e = some ys⟩ := by
  intro w H σ s l R hok i
  have hok : lstOf s e = some ys := hok
  obtain ⟨_, vs, e1, h1, h2⟩ := R.tuple (ra.upW l) k1
  cases e1
  obtain ⟨_, us, e2, h3, h4⟩ := R.list (rb.upW l) hok
  cases e2
  have ln : (List.zipWith D.pr xs ys).length = min xs.length ys.length := List.length_zipWith
  refine ⟨fun hi => ?_, fun hi => ⟨vs, us, ⟨h1, h3⟩, ?_⟩, fun x H' hy d' hd => ?_⟩
  · have hi : i < (List.zipWith D.pr xs ys).length := hi
    obtain ⟨v, hv, _⟩ := RepL.get h2 (List.getElem?_eq_getElem (show i < xs.length by omega))
    obtain ⟨u, hu, _⟩ := RepL.get h4 (List.getElem?_eq_getElem (show i < ys.length by omega))
    exact ⟨vs, us, v, u, ⟨h1, hv⟩, h3, hu⟩
  · have hi : (List.zipWith D.pr xs ys).length ≤ i := hi
    have := RepL.length h2
    have := RepL.length h4
    omega
  · obtain ⟨T, x1, y1, ⟨rfl, nT⟩, rfl, f1, f2⟩ := hy
    have hd : (List.zipWith D.pr xs ys)[i]? = some d' := hd
    have il := (List.getElem?_eq_some_iff.mp hd).1
    have v1 : xs[i]? = some xs[i] := List.getElem?_eq_getElem (by omega)
    have v2 : ys[i]? = some ys[i] := List.getElem?_eq_getElem (by omega)
    rw [List.getElem?_zipWith, v1, v2] at hd
    cases hd
    obtain ⟨u1, hu1, r1⟩ := RepL.get h2 v1
    obtain ⟨u2, hu2, r2⟩ := RepL.get h4 v2
    have g1 := f1 vs h1
    have g2 := f2 us h3
    rw [hu1] at g1
    rw [hu2] at g2
    cases g1
    cases g2
    obtain ⟨l2, R2, r⟩ := R.newP nT r1 r2
    exact ⟨_, l2, R2, r⟩
theorem di_zipM {es : List Expr} {kk : Nat} {tpos : Pos} {a b : Expr} {f : M (List D)} {p pos : Pos} (hm : X.mg "zip" = none) (h : DA X W [a, b] f) (hg : Gl X "zip" := by rfl)
    (hs : starEach [a, b] X.env = (false, eval a X.env) :: starEach [b] X.env := by rfl) (hpl : (backTo pos (starEach [b] X.env)).any (·.1) = false := by rfl) :
    DI X W (.Tuple es kk tpos) (.Call (.Name "zip" p) [a, b] [] pos) (bnd f zipM) := by
  obtain ⟨t, q, r⟩ := h
  refine ⟨_, pi_zipM hg hm q hs hpl, fun w H σ s R0 R z => ?_⟩
  refine r.bnd R z fun ds s1 w1 H1 vs l1 R1 r1 p1 => ?_
  unfold zipM at p1
  split at p1
  · next d e =>
    split at p1
    · next xs ys hx hy =>
      cases r1 with
      | cons ra rr =>
        cases rr with
        | cons rb r3 =>
          cases r3
          obtain ⟨a', vs, e1, q1, q2⟩ := R1.tuple ra hx
          subst e1
          obtain ⟨b', us, e2, q3, q4⟩ := R1.list rb hy
          subst e2
          exact ⟨a', b', vs, us, ⟨rfl, q1⟩, q3, p1 w1 H1 _ (Le.refl _ _) R1 (pI_zipM ra rb hx)⟩
    · exact p1.elim
  · exact p1.elim
theorem di_alt {tg e : Expr} {f g : M Wk} (h1 : DI X W tg e f) (h2 : DI X W tg e g) : DI X W tg e (altM f g) := by
  obtain ⟨t1, p1, r1⟩ := h1
  obtain ⟨t2, p2, r2⟩ := h2
  refine ⟨_, PI.or p1 p2, fun w H σ s R0 R z => ?_⟩
  rcases alt_is f g s with q | q
  · rw [q] at z; exact .inl (r1 w H σ s R0 R z)
  · rw [q] at z; exact .inr (r2 w H σ s R0 R z)
theorem x_zipM {xs ys : List D} {s : S} : zipM [.tup xs, .lst ys] s = .ok ⟨List.zipWith D.pr xs ys, fun s' => lstOf s' (.lst ys) = some ys⟩ s := nr rfl
theorem x_zipMC {xs ys : List D} {n : Nat} {s : S} (h : s.vh[n]? = some (.lst ys)) : zipM [.tup xs, .cell n] s = .ok ⟨List.zipWith D.pr xs ys, fun s' => lstOf s' (.cell n) = some ys⟩ s := by
  unfold zipM tupOf lstOf
  dsimp only
  rw [h]
end Fx

/-! Fx: sorted(a tuple of texts) -/
namespace Fx
open PySem PySem.Spec PyProof.Rows L2
variable {X : Cx} {W : WX}
def rSortedTA (K : PySem.W.Frag) : List V → Hp → VK → Prop := fun vs H Q => ∃ (a : Addr) (xs : List Str), vs = [V.ref a] ∧ SqT K H a (xs.map V.str) ∧ ∀ p, H p = none → Q (.ref p) (upd H p (.lst ((sortT xs).map V.str)))
theorem cr_sortedTA (hu : X.A.units + 64 < cLine) : CallR X (.builtin "sorted") (rSortedTA X.K) := by
  intro pins s σ H vs us Q I r h
  obtain ⟨a, xs, rfl, hs, q⟩ := h
  obtain ⟨its, rv, ⟨o, ho, hc, n, hd⟩, hz⟩ := I.tuple hs
  rw [Vals.ref1 r]
  have e := each_strs rv.strs
  rw [List.length_map] at hz
  have hl2 : its.length = xs.length := e.length
  refine Calls.call_function_entry kind_sorted plain_sorted entry_sorted (args_sorted1 _) ?_
  unfold Builtin.«sorted»
  refine wpAny_bind (m := checkCount "sorted" 1 1 _) (wpAny_pure ?_)
  refine wpAny_bind (wpAny_collect_seq a (.inr rfl) ho hc hd (fun heap kept => ?_) (by rw [List.size_toArray, hl2]; exact hz))
  have I1 : Inv X pins σ H { s with heap := heap } := I.kept kept
  refine wpAny_bind (wpAny_newList ?_ (by rw [List.toList_toArray, hl2]; exact hz))
  obtain ⟨b, hb⟩ : ∃ b, b = heap.objs.size := ⟨_, rfl⟩
  have obj : (heap.push (seqObj "list" its.toArray.toList.toArray 0)).get? b = some (seqObj "list" its.toArray.toList.toArray 0) := by
    rw [hb]; exact Heap.get?_push_size _ rfl
  rw [← hb]
  rw [List.toList_toArray] at obj
  have e2 : (PySem.W.dataLe false fun x : Str => PyData.str x) = leT := by
    rw [PySem.W.dataLe_str (fun x : Str => x)]
    funext a b
    unfold leT
    rw [PySem.W.not_lt_str]
  show wpAny _ _ _ _ _ { s with heap := heap.push (seqObj "list" its.toArray.toList.toArray 0) }
  rw [List.toList_toArray]
  refine wpAny_bind (wpAny_holding (PySem.W.list_sort_data (enc := fun x : Str => PyData.str x) obj e (e.mono fun v x ⟨t, h⟩ => ⟨[], by rw [h]; exact .str x t, (fun h => by cases h)⟩) (PySem.W.AllAlike.of fun _ _ => rfl) (PySem.W.Sortable.others fun b => ⟨(by intro z; cases z), (by intro xs z; cases z)⟩) hz (fun b _ => ?_) fun out h1 h2 => ?_))
  · show X.A.units + 1 + 1 + 0 < cLine
    omega
  · rw [e2] at h2
    have h2 : PySem.W.EachIs (fun v x => ∃ t, v = Value.str x t) out (sortT xs) := h2
    obtain ⟨e', he'⟩ := sortedHeap_at (vs := its) (out := out.toArray) obj
    have hlen : ((sortT xs).map V.str).length ≤ sizeLine := by rw [List.length_map, (sortT_perm xs).length_eq]; exact hz
    refine wpAny_pure ⟨_, rfl, .ref b, upd H b (.lst ((sortT xs).map V.str)), ?_, rfl, q _ (by rw [hb]; exact I1.hok.fresh (Nat.le_refl _))⟩
    rw [hb]
    refine I1.laid (t' := s.toks) (fun d u e => ?_) (Nat.le_refl _)
      (show ObjOk X.prog X.w _ _ _ (.lst ((sortT xs).map V.str)) from
        ⟨hlen, out, e', vals_of_strs (strs_each h2), by rw [← hb]; exact he'⟩)
    have hb1 : d < heap.objs.size := Heap.lt_size e
    have hb2 : d < b := by rw [hb]; exact hb1
    rw [← hb, sortedHeap_old (Nat.ne_of_lt hb2) (by rw [size_push', ← hb]; exact Nat.lt_succ_of_lt hb2)]
    exact Heap.get?_push_of_some _ e
def sortTM : List D → M Cell
  | [.tup ds] => fun s => match strsOf ds with
      | some xs => .ok (.lst ((sortT xs).map D.str)) s
      | none => .bad
  | _ => fail
theorem rc_sortT : RCalN X (rSortedTA X.K) sortTM := by
  intro W w H σ s vs ds Q R r p
  unfold sortTM at p
  split at p
  · next es =>
    obtain ⟨v, rfl, rv⟩ := one_of r
    split at p
    · next ns hn =>
      obtain ⟨a, us, rfl, h1, h2⟩ := R.tuple rv (ds := es) rfl
      rw [strs_rep h2 hn] at h1
      exact ⟨a, ns, rfl, h1, fun q hq => R.giveL (repStrs _) p hq⟩
    · exact p.elim
  · exact p.elim
theorem dn_sortT {e : Expr} {fs : M (List D)} {p pos : Pos} (hu : X.A.units + 64 < cLine) (hm : X.mg "sorted" = none) (ha : DA X W [e] fs) (hc : X.calm = true := by rfl) (hg : Gl X "sorted" := by rfl) (he : starEach [e] X.env = (false, eval e X.env) :: starEach [] X.env := by rfl) (hpl : (backTo pos (starEach [] X.env)).any (·.1) = false := by rfl) :
    DN X W (.Call (.Name "sorted" p) [e] [] pos) (bnd fs sortTM) :=
  dn_callB (cr_sortedTA hu) rc_sortT hm ha (by decide +kernel) hg (by decide) (by decide) he hpl
theorem x_sortTM {xs : List Str} {s : S} : sortTM [.tup (xs.map D.str)] s = .ok (.lst ((sortT xs).map D.str)) s := by
  unfold sortTM
  dsimp only
  rw [show strsOf (xs.map D.str) = some xs by
    induction xs with
    | nil => rfl
    | cons x r ih => rw [List.map_cons, strsOf, ih]; rfl]
/-! ### a > b, texts -/
def gtSM : D → D → M D
  | .str a, .str b => ret (.bl (decide (b.cps.toList < a.cps.toList)))
  | _, _ => fail
theorem rop_gtS : ROp X (fun x y H Q => ∃ i j, x = .str i ∧ y = .str j ∧ Q (.bl (decide (j.cps.toList < i.cps.toList))) H) gtSM := by
  intro W w H σ s x y d e Q R rx ry p
  unfold gtSM at p
  split at p
  · cases rx; cases ry; exact ⟨_, _, rfl, rfl, Post.here p R (Rep.bl _)⟩
  · exact p.elim
theorem x_gtS {a b : Str} {s : S} : gtSM (.str a) (.str b) s = .ok (.bl (decide (b.cps.toList < a.cps.toList))) s := rfl
end Fx

/-! Fx: sorted(a dict of ints, reverse=True) -/
namespace Fx
open PySem PySem.Spec PyProof.Rows L2
variable {X : Cx} {W : WX}
def rSortedDR (K : PySem.W.Frag) : List V → List V → Hp → VK → Prop := fun vs zs H Q =>
  ∃ (d : Addr) (pairs : List (Key × V)) (ns : List Int), vs = [V.ref d] ∧ zs = [.bl true] ∧ Rd H d (.dK pairs) ∧ pairs.map Prod.fst = ns.map Sum.inl ∧ ns.length ≤ 1000000 ∧
    ∀ (ns' : List Int) (p : Addr), ns'.Perm ns → ns'.Pairwise (· ≥ ·) → H p = none → Q (.ref p) (upd H p (.lst (ns'.map V.int)))
theorem cr_sortedDR (calm : X.calm = true) : CallRK X (.builtin "sorted") [Str.ofString "reverse"] (rSortedDR X.K) := by
  intro pins s σ H vs zs us ws Q I r rz h
  obtain ⟨d, pairs, ns, rfl, rfl, hd, keys, many, q⟩ := h
  obtain rfl := Vals.ref1 r
  obtain ⟨w1, rfl, e1⟩ := vals1 rz
  obtain rfl : w1 = Value.bool true := e1
  obtain ⟨z, low, cells, same, dc⟩ := dk_rd I.hok hd
  obtain ⟨ep, at1⟩ := dc.dictAt
  have keys2 : cells.map Prod.fst = ns.map Sum.inl := same.keys.symm.trans keys
  have size : cells.length = ns.length := by
    simpa using congrArg List.length keys2
  have fits : cells.length ≤ sizeLine := by
    rw [size, sizeLine_eq]; omega
  refine call_function_entry_kw kind_sorted plain_sorted entry_sorted (PyProof.Rows.args_sorted_rev _ _) ?_
  unfold Builtin.«sorted»
  refine wpAny_bind
    (m := checkCount "sorted" 1 1 _)
    (wpAny_pure ?_)
  refine wpAny_bind
    (PySem.W.kdu_collect (A := X.A.in1)
      (PySem.W.kdl_dict (knd := mixKind X.prog X.w)
        (kvs := cells) (ep := ep) low)
      (I.ok.hd calm) at1 fits
      fun heap tk acc kept got => ?_)
  have lenA : acc.toList.length = ns.length := by
    rw [Array.length_toList, got.1, size]
  have hI : IntsAre acc.toList ns := ints_each lenA fun j v e => by
    have e : acc[j]? = some v := by rw [← Array.getElem?_toList]; exact e
    obtain ⟨k, x, e1, e2⟩ := got.2 j v e
    have e3 := congrArg (fun l => l[j]?) keys2
    simp only [List.getElem?_map, e1, Option.map_some] at e3
    cases e4 : ns[j]? with
    | none => rw [e4] at e3; cases e3
    | some y =>
      rw [e4] at e3
      cases e3
      rcases keyIs_shape (show keyIs (Sum.inl y) v = true from e2) with ⟨i, t, ek, ev⟩ | ⟨z, t, ek, ev⟩
      · cases ek
        exact ⟨y, t, rfl, ev⟩
      · cases ek
  have I1 : Inv X pins σ H { s with heap := heap, toks := tk } := I.kept kept
  refine wpAny_bind (wpAny_newList ?_
    (by rw [lenA, sizeLine_eq]; omega))
  obtain ⟨a, ha⟩ : ∃ a, a = heap.objs.size := ⟨_, rfl⟩
  have obj : (heap.push (seqObj "list" acc.toList.toArray 0)).get? a =
      some (seqObj "list" acc.toList.toArray 0) := by
    rw [ha]; exact Heap.get?_push_size _ rfl
  rw [← ha]
  show wpAny _ _ _ _ _ { s with
    heap := heap.push (seqObj "list" acc.toList.toArray 0), toks := tk }
  refine wpAny_bind (wpAny_holding (wpAny_call_entry_kw slot_list_sort ⟨_, obj, rfl⟩ entry_list_sort (list_sort_tree_revAny obj hI (by rw [lenA, sizeLine_eq]; omega) fun out ns' a1 a2 a3 => ⟨_, rfl, ?_⟩) (PyProof.Rows.args_list_sort_rev _ _)))
  obtain ⟨e', he'⟩ := sortedHeap_at (vs := acc.toList) (out := out) obj
  have short : (ns'.map V.int).length ≤ sizeLine := by
    rw [List.length_map, a2.length_eq, sizeLine_eq]; omega
  have a3 : ns'.Pairwise (· ≥ ·) := a3
  refine wpAny_pure ⟨_, rfl, .ref a, upd H a (.lst (ns'.map V.int)), ?_, rfl,
    q _ _ a2 a3 (by rw [ha]; exact I1.hok.fresh (Nat.le_refl _))⟩
  rw [ha]
  refine I1.laid (t' := tk) (fun b u e => ?_) (Nat.le_refl _)
    (show ObjOk X.prog X.w _ _ _ (.lst (ns'.map V.int)) from
      ⟨short, out.toList, e', vals_of_ints a1, by rw [← ha]; exact he'⟩)
  have hb : b < heap.objs.size := Heap.lt_size e
  have hb2 : b < a := by rw [ha]; exact hb
  rw [← ha, sortedHeap_old (Nat.ne_of_lt hb2) (by
    rw [size_push', ← ha]; exact Nat.lt_succ_of_lt hb2)]
  exact Heap.get?_push_of_some _ e
def sortDR : D → M Cell := fun d s => match dctR s d with
  | some kvs => match intKs kvs with
    | some ns => if ns.length ≤ 1000000 then .ok (.lst ((sortZ ns).reverse.map D.int)) s else .bad
    | none => .bad
  | none => .bad
theorem rev_sortZ {ns ns' : List Int} (hp : ns'.Perm ns) (hs : ns'.Pairwise (· ≥ ·)) : ns' = (sortZ ns).reverse := by
  have h1 : ns'.reverse.Perm ns := (List.reverse_perm ns').trans hp
  have h2 : ns'.reverse.Pairwise (· ≤ ·) := List.pairwise_reverse.mpr hs
  rw [← eq_sortZ h1 h2, List.reverse_reverse]
theorem dn_sortDR {e : Expr} {fe : M D} {p p2 kp pos : Pos} {j} (hm : X.mg "sorted" = none) (he' : DE X W e fe) (hc : X.calm = true := by rfl) (hg : Gl X "sorted" := by rfl)
    (hs : starEach [e] X.env = (false, eval e X.env) :: starEach [] X.env := by rfl) (he : backTo pos (starEach [e] X.env) = (false, eval e X.env) :: backTo pos (starEach [] X.env) := by rfl) (hpl : (backTo pos (starEach [e] X.env)).any (·.1) = false := by rfl) :
    DN X W (.Call (.Name "sorted" p) [e] [⟨some "reverse", .Constant (.bool true) j p2, kp⟩] pos) (bnd fe sortDR) := by
  obtain ⟨t, q, r⟩ := he'
  refine ⟨_, pe_callBK (cr_sortedDR hc) hg hm rfl (pa_cons q pa_nil hs) (pk_cons pe_bl pk_nil) (by decide) (by decide) he hpl, fun w H σ s Q R z => ?_⟩
  show t σ H fun v H1 => rSortedDR X.K [v] [.bl true] H1 Q
  refine r.bnd R z fun d s1 w1 H1 v l1 R1 r1 p1 => ?_
  unfold sortDR at p1
  split at p1
  · next kvs hd =>
    split at p1
    · next ns hn =>
      split at p1
      · next hl =>
        obtain ⟨a, us, rfl, h1, h2⟩ := R1.dictR r1 hd
        refine ⟨a, us, ns, rfl, rfl, h1, by rw [RepK.keys h2]; exact intKs_of hn, hl, fun ns' p hp hs hq => ?_⟩
        rw [rev_sortZ hp hs]
        exact R1.giveL (repInts _) p1 hq
      · exact p1.elim
    · exact p1.elim
  · exact p1.elim
theorem x_sortDR {n : Nat} {kvs : List (Key × D)} {ns : List Int} {s : S} (h : dctR s (.cell n) = some kvs) (hk : intKs kvs = some ns) (hl : ns.length ≤ 1000000) : sortDR (.cell n) s = .ok (.lst ((sortZ ns).reverse.map D.int)) s := by
  unfold sortDR
  rw [h]
  dsimp only
  rw [hk]
  exact if_pos hl
end Fx

/-! Fx: sorted(d.items()), d a dict of texts -/
namespace Fx
open PySem PySem.Spec PyProof.Rows L2
variable {X : Cx} {W : WX}
/-- an item of a dict as a tuple of its own -/
structure It where
  k : Str
  a : Addr
  o : Obj
  v : V
noncomputable def itKind (ps : List (Value × Str)) : PyProof.Rows.KeyKind where
  toKeyOrd := PyProof.Rows.listOrd PyProof.Rows.itemOrd
  keyOf v := open Classical in if q : ∃ k, (v, k) ∈ ps then some (PySem.W.keyToks (.str q.choose)) else none
  dflt := ([] : List (Int ⊕ List Nat))
def itPs (its : List It) : List (Value × Str) := its.map fun i => (Value.ref i.a, i.k)
theorem itPs_inj {its : List It} (nd : (its.map It.a).Nodup) {i j : It} (hi : i ∈ its) (hj : j ∈ its) (h : i.a = j.a) : i = j := by
  induction its with
  | nil => cases hi
  | cons x r ih =>
    rw [List.map_cons, List.nodup_cons] at nd
    obtain ⟨n1, n2⟩ := nd
    rcases List.mem_cons.mp hi with e1 | i1
    · rcases List.mem_cons.mp hj with e2 | j1
      · rw [e1, e2]
      · exact absurd (List.mem_map.mpr ⟨j, j1, by rw [← h, e1]⟩) n1
    · rcases List.mem_cons.mp hj with e2 | j1
      · exact absurd (List.mem_map.mpr ⟨i, i1, by rw [h, e2]⟩) n1
      · exact ih n2 i1 j1
theorem itPs_key {its : List It} (nd : (its.map It.k).Nodup) {i j : It} (hi : i ∈ its) (hj : j ∈ its) (h : i.k = j.k) : i = j := by
  induction its with
  | nil => cases hi
  | cons x r ih =>
    rw [List.map_cons, List.nodup_cons] at nd
    obtain ⟨n1, n2⟩ := nd
    rcases List.mem_cons.mp hi with e1 | i1
    · rcases List.mem_cons.mp hj with e2 | j1
      · rw [e1, e2]
      · exact absurd (List.mem_map.mpr ⟨j, j1, by rw [← h, e1]⟩) n1
    · rcases List.mem_cons.mp hj with e2 | j1
      · exact absurd (List.mem_map.mpr ⟨i, i1, by rw [h, e2]⟩) n1
      · exact ih n2 i1 j1
theorem itKind_some {its : List It} (nd : (its.map It.a).Nodup) {i : It} (hi : i ∈ its) : (itKind (itPs its)).keyOf (.ref i.a) = some (PySem.W.keyToks (.str i.k)) := by
  have q : ∃ k, (Value.ref i.a, k) ∈ itPs its := ⟨i.k, List.mem_map.mpr ⟨i, hi, rfl⟩⟩
  have e : (itKind (itPs its)).keyOf (.ref i.a) = some (PySem.W.keyToks (.str q.choose)) := by
    show (open Classical in if q : ∃ k, (Value.ref i.a, k) ∈ itPs its then some (PySem.W.keyToks (.str q.choose)) else none) = _
    rw [dif_pos q]
  obtain ⟨j, hj, ej⟩ := List.mem_map.mp q.choose_spec
  have e1 : j.a = i.a := by injection (Prod.mk.inj ej).1
  have e2 := itPs_inj nd hj hi e1
  rw [e, ← (Prod.mk.inj ej).2, e2]
theorem itKind_inv {its : List It} {v : Value} {k : List (Int ⊕ List Nat)} (e : (itKind (itPs its)).keyOf v = some k) : ∃ i ∈ its, v = .ref i.a ∧ k = PySem.W.keyToks (.str i.k) := by
  by_cases q : ∃ k, (v, k) ∈ itPs its
  · have e' : (itKind (itPs its)).keyOf v = some (PySem.W.keyToks (.str q.choose)) := by
      show (open Classical in if q : ∃ k, (v, k) ∈ itPs its then some (PySem.W.keyToks (.str q.choose)) else none) = _
      rw [dif_pos q]
    obtain ⟨j, hj, ej⟩ := List.mem_map.mp q.choose_spec
    rw [e'] at e
    exact ⟨j, hj, (Prod.mk.inj ej).1.symm, by rw [(Prod.mk.inj ej).2]; exact (Option.some.inj e).symm⟩
  · have e' : (itKind (itPs its)).keyOf v = none := by
      show (open Classical in if q : ∃ k, (v, k) ∈ itPs its then some (PySem.W.keyToks (.str q.choose)) else none) = _
      rw [dif_neg q]
      rfl
    rw [e'] at e
    cases e
def ItOk (h : Heap) (i : It) : Prop := ∃ (t : Tok) (x : Value) (n : Nat), h.get? i.a = some i.o ∧ i.o.cls = .type "tuple" ∧ i.o.data = .seq #[.str i.k t, x] n
theorem it_tups {h : Heap} : ∀ {its : List It}, (∀ i ∈ its, ItOk h i) → ∃ fs, PySem.W.KatTups h (its.map fun i => Value.ref i.a) fs ∧ fs.length = its.length ∧ ∀ f ∈ fs, ∃ k t, f = Value.str k t
  | [], _ => ⟨[], PySem.W.KatTups.nil, rfl, fun f hf => by cases hf⟩
  | i :: r, H => by
    obtain ⟨fs, h1, h2, h3⟩ := it_tups fun j hj => H j (List.mem_cons_of_mem _ hj)
    obtain ⟨t, x, n, e1, e2, e3⟩ := H i List.mem_cons_self
    refine ⟨.str i.k t :: fs, PySem.W.KatTups.cons e1 e2 e3 rfl h1, by rw [List.length_cons, List.length_cons, h2], fun f hf => ?_⟩
    rcases List.mem_cons.mp hf with rfl | hf
    · exact ⟨_, _, rfl⟩
    · exact h3 f hf
theorem its_sort {prog : Program} {w : World} {A : Around} {s : Shared} {its : List It} (nda : (its.map It.a).Nodup) (ndk : (its.map It.k).Nodup) (ok : ∀ i ∈ its, ItOk s.heap i) (hu : A.units + 2 < cLine) :
    PySem.W.SortsAt prog w A s (itKind (itPs its)) (its.map fun i => Value.ref i.a) := by
  refine ⟨fun v hv => ?_, tuples' true, ?_, fun h2 E Q hq => ?_⟩
  · obtain ⟨i, hi, rfl⟩ := List.mem_map.mp hv
    exact ⟨_, itKind_some nda hi⟩
  · intro E x y a b Q ha hb hq
    obtain ⟨i, hi, rfl, rfl⟩ := itKind_inv ha
    obtain ⟨j, hj, rfl, rfl⟩ := itKind_inv hb
    have hq' : Q (PySem.W.dataLt (.str i.k) (.str j.k)) s := hq
    obtain ⟨t, x, n, e1, e2, e3⟩ := ok i hi
    obtain ⟨u, y, m, g1, g2, g3⟩ := ok j hj
    refine PySem.W.kat_lt e1 e3 g1 g3 ?_
    show PySem.W.KatLex prog w A true (decide (2 < 2)) Q [(Value.str i.k t, Value.str j.k u), (x, y)] 0 s
    refine PySem.W.kat_cons (wpAny_eqBool_str ?_)
    by_cases c : i.k = j.k
    · rw [decide_eq_true c]
      refine PySem.W.kat_yes ?_
      have e := itPs_key ndk hi hj c
      subst e
      rw [e1] at g1
      rw [e3] at g3
      have xy : x = y := by
        have h1 : (#[Value.str i.k t, x] : Array Value) = #[.str i.k u, y] := by injection g3
        have h2 := congrArg (fun z : Array Value => z.toList) h1
        have h3 : [Value.str i.k t, x] = [Value.str i.k u, y] := h2
        exact (List.cons.inj (List.cons.inj h3).2).1
      subst xy
      refine PySem.W.kat_cons (SeqAt.EqAt.same x _ _ _ _ (PySem.W.kat_yes (PySem.W.kat_nil ?_)))
      rw [show PySem.W.dataLt (.str i.k) (.str i.k) = false from PyProof.Rows.lex_irrefl _] at hq'
      exact hq'
    · rw [decide_eq_false c]
      refine PySem.W.kat_no (PySem.W.oneLt_alike (fun _ xs h => by cases h) (.str _ _) (.str _ _) rfl (fun h => by cases h) (Nat.lt_of_le_of_lt (Nat.add_le_add_left (Nat.le_trans (Nat.min_le_left _ _) (Nat.zero_le 2)) _) hu) hq')
  · obtain ⟨fs, t1, t2, t3⟩ := it_tups ok
    rw [List.length_map] at h2
    refine PySem.W.kat_kind (T := .type "str") t1 (by omega) (fun f hf => ?_) (beq_self_eq_true _) hq
    obtain ⟨k, t, rfl⟩ := t3 f hf
    exact PySem.W.Looks.of_pure rfl
/-! many tuples and a list, laid at once -/
def putF : Hp → List It → Hp
  | H, i :: is => putF (upd H i.a (.frz i.o (.tup [.str i.k, i.v]))) is
  | H, [] => H
theorem putF_off {b : Addr} : ∀ (is : List It) (H : Hp), b ∉ is.map It.a → putF H is b = H b
  | [], _, _ => rfl
  | i :: is, H, h => by
    rw [List.map_cons, List.mem_cons, not_or] at h
    show putF (upd H i.a _) is b = H b
    rw [putF_off is _ h.2, upd_ne h.1]
theorem putF_at : ∀ (is : List It) (H : Hp), (is.map It.a).Nodup → ∀ i ∈ is, putF H is i.a = some (.frz i.o (.tup [.str i.k, i.v]))
  | [], _, _, i, hi => by cases hi
  | j :: is, H, nd, i, hi => by
    rw [List.map_cons, List.nodup_cons] at nd
    show putF (upd H j.a _) is i.a = _
    by_cases c : i ∈ is
    · exact putF_at is _ nd.2 i c
    · rcases List.mem_cons.mp hi with rfl | hi
      · rw [putF_off is _ nd.1, upd_same]
      · exact absurd hi c
theorem its_laid {pins : List (Addr × Obj)} {σ : L2.St} {H : Hp} {s : Shared} {h' : Heap} {tk : Nat} {its : List It} {b : Addr} {xs : List V} (I : Inv X pins σ H s)
    (hk : ∀ c o, s.heap.get? c = some o → h'.get? c = some o) (nd : (its.map It.a).Nodup) (lo : ∀ i ∈ its, s.heap.objs.size ≤ i.a) (hb : s.heap.objs.size ≤ b) (hbn : b ∉ its.map It.a)
    (ok : ∀ i ∈ its, ItOk h' i ∧ i.o.dict = none ∧ ∃ us : List Value, Vals [.str i.k, i.v] us ∧ IsTup h' i.a us.toArray)
    (okl : ∀ H', ObjOk X.prog X.w H' h' b (.lst xs)) :
    ∃ H' : Hp, (∀ c o, H c = some o → H' c = some o) ∧ H b = none ∧ (∀ i ∈ its, H i.a = none ∧ H' i.a = some (.frz i.o (.tup [.str i.k, i.v]))) ∧ H' b = some (.lst xs) ∧ Inv X pins σ H' { s with heap := h', toks := tk } := by
  have new : ∀ i ∈ its, H i.a = none := fun i hi => I.hok.fresh (lo i hi)
  have newB : H b = none := I.hok.fresh hb
  have atP := putF_at its (upd H b (.lst xs)) nd
  have off : ∀ c, c ∉ its.map It.a → c ≠ b → putF (upd H b (.lst xs)) its c = H c := fun c h1 h2 => by rw [putF_off its _ h1, upd_ne h2]
  have low : ∀ c o, s.heap.get? c = some o → c ∉ its.map It.a ∧ c ≠ b := fun c o e => ⟨fun z => by
    obtain ⟨i, hi, rfl⟩ := List.mem_map.mp z
    exact absurd (Heap.lt_size e) (Nat.not_lt.mpr (lo i hi)), fun z => by
    subst z
    exact absurd (Heap.lt_size e) (Nat.not_lt.mpr hb)⟩
  have kp : ∀ c u, H c = some u → putF (upd H b (.lst xs)) its c = some u := fun c u e => by
    rw [off c (fun z => by
      obtain ⟨i, hi, rfl⟩ := List.mem_map.mp z
      rw [new i hi] at e; cases e) (fun z => by rw [z, newB] at e; cases e)]
    exact e
  have eB : putF (upd H b (.lst xs)) its b = some (.lst xs) := by rw [putF_off its _ hbn, upd_same]
  refine ⟨putF (upd H b (.lst xs)) its, kp, newB, fun i hi => ⟨new i hi, atP i hi⟩, eB, ?_⟩
  refine I.call' (ch := []) rfl ⟨fun c o q _ _ _ => hk c o q, fun c o q _ _ _ => ⟨o.slots, hk c o q⟩, fun c o q n _ => ?_, fun c o q _ => ⟨o, hk c o q⟩, fun c xs q => kp c _ q, fun c o u q => kp c _ q, fun c ps q => ⟨#[], by rw [kp c _ q]; simp⟩⟩ (fun c u q => ?_) I.bare fun c z => by simp at z
  · obtain ⟨z1, z2⟩ := low c o q
    rw [off c z1 z2]
    exact n
  · by_cases hc : c ∈ its.map It.a
    · obtain ⟨i, hi, rfl⟩ := List.mem_map.mp hc
      rw [atP i hi] at q
      cases q
      obtain ⟨⟨_, _, _, g1, _, _⟩, g2, us, g3, g4⟩ := ok i hi
      exact ⟨g1, by show 2 ≤ sizeLine; decide, us, g3, g4⟩
    · by_cases hc2 : c = b
      · rw [hc2] at q ⊢
        rw [eB] at q
        cases q
        exact okl _
      · rw [off c hc hc2] at q
        exact (I.hok c u q).stay (fun d v _ y => hk d v y) (fun d y => kp d _ y) fun d xs y => kp d _ y
/-! ### the rule -/
def leI (a b : It) : Bool := leT a.k b.k
def rSortItems (K : PySem.W.Frag) : V → Hp → VK → Prop := fun x H Q => ∃ (d : Addr) (kvs : List (Key × V)) (ks : List Str), x = .ref d ∧ Rd H d (.dK kvs) ∧ kvs.map Prod.fst = ks.map Sum.inr ∧
  ∀ (H' : Hp) (p : Addr) (its : List It), (∀ b o, H b = some o → H' b = some o) → H p = none → H' p = some (.lst ((its.mergeSort leI).map fun i => V.ref i.a)) → p ∉ its.map It.a →
    (its.map fun i => ((Sum.inr i.k : Key), i.v)) = kvs → (∀ i ∈ its, H i.a = none ∧ i.o.dict = none ∧ H' i.a = some (.frz i.o (.tup [.str i.k, i.v]))) → Q (.ref p) H'
def tSortItems (K : PySem.W.Frag) (te : TE) : TE := fun σ H Q => te σ H fun x H1 => rSortItems K x H1 Q
theorem its_of {kvs : List (Key × V)} {ks : List Str} {cells : List (Key × Value)} {as : List Addr} {h : Heap} {lo : Addr} {prog : Program} {w : World} (kv : KV kvs cells) (keys : kvs.map Prod.fst = ks.map Sum.inr) (hl : as.length = cells.length) (hG : PySem.W.KdxG (mixKind prog w) cells lo h as) :
    ∃ its : List It, its.map It.a = as ∧ (its.map fun i => ((Sum.inr i.k : Key), i.v)) = kvs ∧ ∀ i ∈ its, ItOk h i ∧ i.o.dict = none ∧ ∃ us : List Value, Vals [.str i.k, i.v] us ∧ IsTup h i.a us.toArray := by
  have pr := hG.pairs
  clear hG
  induction kv generalizing ks as with
  | nil =>
    cases as with
    | nil => exact ⟨[], rfl, rfl, fun i hi => by cases hi⟩
    | cons a r => cases hl
  | @cons p q kvs cells hpq t ih =>
    cases as with
    | nil => cases hl
    | cons a as =>
      cases ks with
      | nil => cases keys
      | cons k ks =>
        rw [List.map_cons, List.map_cons] at keys
        obtain ⟨e1, e2⟩ := List.cons.inj keys
        obtain ⟨its, h1, h2, h3⟩ := ih e2 (Nat.succ.inj hl) fun j b hb => by
          obtain ⟨key, k', x, f1, f2, f3⟩ := pr (j + 1) b hb
          exact ⟨key, k', x, f1, f2, f3⟩
        obtain ⟨key, k', x, f1, f2, f3⟩ := pr 0 a rfl
        cases f1
        obtain ⟨pk, pv⟩ := p
        have e1 : pk = Sum.inr k := e1
        subst e1
        have e4 : Sum.inr k = k' := hpq.1
        subst e4
        rcases keyIs_shape (show keyIs (Sum.inr k) key = true from f2) with ⟨i, t, ek, ev⟩ | ⟨z, t, ek, ev⟩
        · cases ek
        · cases ek
          subst ev
          refine ⟨⟨k, a, { cls := .type "tuple", data := .seq #[.str k t, x] }, pv⟩ :: its, by rw [List.map_cons, h1], by rw [List.map_cons, h2], fun i hi => ?_⟩
          rcases List.mem_cons.mp hi with rfl | hi
          · exact ⟨⟨t, x, _, f3, rfl, rfl⟩, rfl, [.str k t, x], .cons ⟨t, rfl⟩ (.cons hpq.2 .nil), ⟨_, f3, rfl, _, rfl⟩⟩
          · exact h3 i hi
theorem each_refs {its : List It} : PySem.W.EachIs (fun v (i : It) => v = Value.ref i.a) (its.map fun i => Value.ref i.a) its := by
  induction its with
  | nil => exact .nil
  | cons i r ih => exact .cons rfl ih
theorem each_keysI {its all : List It} (nd : (all.map It.a).Nodup) (h : ∀ i ∈ its, i ∈ all) : PySem.W.EachIs (fun v (i : It) => (itKind (itPs all)).keyOf v = some (PySem.W.keyToks (.str i.k))) (its.map fun i => Value.ref i.a) its := by
  induction its with
  | nil => exact .nil
  | cons i r ih => exact .cons (itKind_some nd (h i List.mem_cons_self)) (ih fun j hj => h j (List.mem_cons_of_mem _ hj))
theorem each_refs_eq {out : List Value} {its : List It} (h : PySem.W.EachIs (fun v (i : It) => v = Value.ref i.a) out its) : out = its.map fun i => Value.ref i.a := by
  induction h with
  | nil => rfl
  | cons h1 _ ih => rw [h1, ih, List.map_cons]
theorem vals_its (its : List It) : Vals (its.map fun i => V.ref i.a) (its.map fun i => Value.ref i.a) := by
  induction its with
  | nil => exact .nil
  | cons i r ih => exact .cons rfl ih
theorem leI_eq : (PySem.W.sortLe (PyProof.Rows.listOrd PyProof.Rows.itemOrd) false fun i : It => PySem.W.keyToks (.str i.k)) = leI := by
  have := PySem.W.dataLe_str (fun i : It => i.k)
  rw [show PySem.W.dataLe false (fun i : It => PyData.str i.k) = (PySem.W.sortLe (PyProof.Rows.listOrd PyProof.Rows.itemOrd) false fun i : It => PySem.W.keyToks (.str i.k)) from rfl] at this
  rw [this]
  funext a b
  unfold leI leT
  rw [PySem.W.not_lt_str]
theorem call_sortItems {pins : List (Addr × Obj)} {σ : L2.St} {H1 : Hp} {s1 : Shared} {d : Addr} {kvs : List (Key × V)} {ks : List Str} {Q : VK} (hu : X.A.units + 64 < cLine) (hc : X.calm = true) (I1 : Inv X pins σ H1 s1) (hd : Rd H1 d (.dK kvs)) (hks : kvs.map Prod.fst = ks.map Sum.inr)
    (q : ∀ (H' : Hp) (p : Addr) (its : List It), (∀ b o, H1 b = some o → H' b = some o) → H1 p = none → H' p = some (.lst ((its.mergeSort leI).map fun i => V.ref i.a)) → p ∉ its.map It.a →
      (its.map fun i => ((Sum.inr i.k : Key), i.v)) = kvs → (∀ i ∈ its, H1 i.a = none ∧ i.o.dict = none ∧ H' i.a = some (.frz i.o (.tup [.str i.k, i.v]))) → Q (.ref p) H') :
    wpAny (model X.prog X.w) X.A (call (.builtin "sorted") [.ref s1.heap.objs.size]) (fun u s' => ∃ v H', Inv X pins σ H' s' ∧ RelV v u ∧ Q v H') X.xe { s1 with heap := s1.heap.push { cls := .type "dict_items", data := .fields #[.ref d] } } := by
  obtain ⟨hz, hs0, vs, kv, hdo⟩ := dk_rd I1.hok hd
  obtain ⟨ep, hat⟩ := hdo.dictAt
  have lk : kvs.length = vs.length := Paired.length kv
  have I2 : Inv X pins σ H1 { s1 with heap := s1.heap.push { cls := .type "dict_items", data := .fields #[.ref d] } } := I1.kept (t' := s1.toks) fun b ob q => Heap.get?_push_of_some _ q
  refine Calls.call_function_entry kind_sorted plain_sorted entry_sorted (args_sorted1 _) ?_
  unfold Builtin.«sorted»
  refine wpAny_bind (m := checkCount "sorted" 1 1 _) (wpAny_pure ?_)
  refine wpAny_bind (PySem.W.kdx_collect (A := X.A.in1) (knd := mixKind X.prog X.w) (kvs := vs) (ep := ep) (I1.ok.hd hc) ⟨_, Heap.get?_push_size _ rfl, rfl, rfl⟩ (hat.push _) (by omega) fun heap tk as hk hl hG => ?_)
  obtain ⟨its, ea, ek, ok⟩ := its_of kv hks hl hG
  have il : its.length = vs.length := by rw [← hl, ← ea, List.length_map]
  have eas : as.map Value.ref = its.map fun i => Value.ref i.a := by rw [← ea, List.map_map]; rfl
  rw [eas]
  have nda : (its.map It.a).Nodup := by rw [ea]; exact List.Pairwise.imp (fun {a b} (h : a < b) => Nat.ne_of_lt h) hG.rise
  have ndk : (its.map It.k).Nodup := by
    have n1 := hat.nodup
    have n2 : kvs.map Prod.fst = vs.map Prod.fst := KV.keys kv
    rw [← n2, ← ek, List.map_map] at n1
    have n3 : (its.map (Prod.fst ∘ fun i => ((Sum.inr i.k : Key), i.v))) = (its.map It.k).map Sum.inr := by rw [List.map_map]; rfl
    rw [n3] at n1
    exact (List.pairwise_map.mp n1).imp fun h e => h (by rw [e])
  have I3 : Inv X pins σ H1 { s1 with heap := heap, toks := tk } := I2.kept hk
  refine wpAny_bind (wpAny_newList ?_ (by rw [List.length_map, il]; omega))
  obtain ⟨b, hb⟩ : ∃ b, b = heap.objs.size := ⟨_, rfl⟩
  have obj : (heap.push (seqObj "list" (its.map fun i => Value.ref i.a).toArray 0)).get? b = some (seqObj "list" (its.map fun i => Value.ref i.a).toArray 0) := by
    rw [hb]; exact Heap.get?_push_size _ rfl
  rw [← hb]
  show wpAny _ _ _ _ _ { s1 with heap := heap.push (seqObj "list" (its.map fun i => Value.ref i.a).toArray 0), toks := tk }
  have lb : ∀ i ∈ its, i.a ≠ b := fun i hi => by
    obtain ⟨⟨_, _, _, g, _, _⟩, _⟩ := ok i hi
    exact Nat.ne_of_lt (by rw [hb]; exact Heap.lt_size g)
  have keep : ∀ c o, heap.get? c = some o → (PySem.W.sortingHeap (heap.push (seqObj "list" (its.map fun i => Value.ref i.a).toArray 0)) b (its.map fun i => Value.ref i.a)).get? c = some o := fun c o e =>
    PySem.W.sortingHeap_old (Nat.ne_of_lt (by rw [hb]; exact Heap.lt_size e)) (Heap.get?_push_of_some _ e)
  have mv : ∀ {h1 : Heap} {i : It}, (∀ c o, heap.get? c = some o → h1.get? c = some o) → ItOk heap i → ItOk h1 i := fun k ⟨t, x, n, e1, e2, e3⟩ => ⟨t, x, n, k _ _ e1, e2, e3⟩
  refine wpAny_bind (wpAny_holding (wpAny_call_entry slot_list_sort ⟨_, obj, rfl⟩ entry_list_sort (PySem.W.list_sort_vals (κ := itKind (itPs its)) obj (its_sort nda ndk (fun i hi => mv keep (ok i hi).1) ?_) (by rw [List.length_map, il]; omega) ⟨_, rfl, ?_⟩) (args_list_sort _)))
  · show X.A.units + 1 + 1 + 2 < cLine
    omega
  · have se := PySem.W.sortVals_each (κ := itKind (itPs its)) (rev := false) (fun i : It => PySem.W.keyToks (.str i.k)) each_refs (each_keysI nda fun i hi => hi)
    have se2 : PySem.W.sortVals (itKind (itPs its)) false (its.map fun i => Value.ref i.a) (its.map fun i => Value.ref i.a) = (its.mergeSort leI).map fun i => Value.ref i.a := by
      have := each_refs_eq se
      rw [← leI_eq]
      exact this
    rw [se2]
    obtain ⟨e', he'⟩ := sortedHeap_at (vs := its.map fun i => Value.ref i.a) (out := ((its.mergeSort leI).map fun i => Value.ref i.a).toArray) obj
    have kept2 : ∀ c o, heap.get? c = some o → (sortedHeap (heap.push (seqObj "list" (its.map fun i => Value.ref i.a).toArray 0)) b (its.map fun i => Value.ref i.a) ((its.mergeSort leI).map fun i => Value.ref i.a).toArray).get? c = some o := fun c o e => by
      have h1 := Heap.lt_size e
      rw [sortedHeap_old (Nat.ne_of_lt (by rw [hb]; exact h1)) (by rw [size_push']; exact Nat.lt_succ_of_lt h1)]
      exact Heap.get?_push_of_some _ e
    have lo : ∀ i ∈ its, s1.heap.objs.size ≤ i.a := fun i hi => by
      have := hG.above i.a (by rw [← ea]; exact List.mem_map.mpr ⟨i, hi, rfl⟩)
      rw [size_push'] at this
      exact Nat.le_of_lt (Nat.lt_of_succ_lt this)
    have hs1 : s1.heap.objs.size ≤ b := by
      rw [hb]
      exact Nat.le_of_lt (Heap.lt_size (hk _ _ (Heap.get?_push_size _ rfl)))
    obtain ⟨H', k1, k2, k3, k4, J⟩ := its_laid (tk := tk) (its := its) (b := b) (xs := (its.mergeSort leI).map fun i => V.ref i.a) I1 (fun c o e => kept2 c o (hk c o (Heap.get?_push_of_some _ e))) nda lo hs1
      (fun z => by obtain ⟨i, hi, e⟩ := List.mem_map.mp z; exact lb i hi e)
      (fun i hi => by
        obtain ⟨g1, g2, us, g3, o, g4⟩ := ok i hi
        exact ⟨mv kept2 g1, g2, us, g3, o, kept2 _ _ g4.1, g4.2⟩)
      (fun H' => ⟨by rw [List.length_map, (List.mergeSort_perm _ _).length_eq, il]; omega, _, e', vals_its _, he'⟩)
    refine wpAny_pure ⟨_, rfl, .ref b, H', J, rfl, q H' b its k1 k2 k4 (fun z => by obtain ⟨i, hi, e⟩ := List.mem_map.mp z; exact lb i hi e) ek fun i hi => ⟨(k3 i hi).1, (ok i hi).2.1, (k3 i hi).2⟩⟩
theorem pe_sortItems {e : Expr} {te : TE} {p apos cpos pos : Pos} (hu : X.A.units + 64 < cLine) (hc : X.calm = true) (he : PE X e te) (hg : Gl X "sorted") (hm : X.mg "sorted" = none) (hbase : attributeBase e "items" X.env (eval e X.env) = eval e X.env := by rfl) (hline : (apos.endLine == cpos.line) = true := by rfl)
    (hs : starEach [.Call (.Attribute e "items" apos) [] [] cpos] X.env = (false, eval (.Call (.Attribute e "items" apos) [] [] cpos) X.env) :: starEach [] X.env := by rfl) :
    PE X (.Call (.Name "sorted" p) [.Call (.Attribute e "items" apos) [] [] cpos] [] pos) (tSortItems X.K te) := by
  refine ⟨fun pins s σ H Q I hq => ?_⟩
  refine wpAny_Call_Name_kw (ld_blt I hg hm boot_sorted ?_)
  refine PyProof.Rows.callWith_builtin1 ?_ hs rfl
  rw [hs]
  show wpAny _ _ (spliced ((false, eval (.Call (.Attribute e "items" apos) [] [] cpos) X.env) :: backTo pos (starEach [] X.env))) _ _ s
  refine Calls.spliced_cons ?_
  refine wpAny_Call_method (T := "dict") (id := "dict.items") hbase rfl hline F.plainAttrs_dict F.slot_dict_items F.type_dict_items (thn (he.run pins s σ H _ I hq) fun u s1 ⟨x, H1, I1, rx, d, kvs, ks, ex, hd, hks, q⟩ => ?_)
  subst ex
  obtain rfl : u = Value.ref d := rx
  obtain ⟨hz, hs0, vs, kv, hdo⟩ := dk_rd I1.hok hd
  obtain ⟨ep, hat⟩ := hdo.dictAt
  have lk : kvs.length = vs.length := Paired.length kv
  have I2 : Inv X pins σ H1 { s1 with heap := s1.heap.push { cls := .type "dict_items", data := .fields #[.ref d] } } := I1.kept (t' := s1.toks) fun b ob q => Heap.get?_push_of_some _ q
  refine ⟨hdo.typeIs, hdo.mapOf.noDict, ?_⟩
  show wpAny _ _ (callWith cpos (.builtin "dict.items") [.ref d] [] []) _ X.xe s1
  refine method_meetsIn F.slot_dict_items F.entry_dict_items rfl (PySem.evalArgs_none ⟨rfl, hdo.typeIs, F.args_dict_items_1 _, _, meets_dict_items (mixKind X.prog X.w) d hs0, ⟨vs, hdo⟩, ?_⟩)
  refine Calls.spliced_nil ?_
  exact call_sortItems hu hc I1 hd hks q
/-! ### as a reading -/
def keysTx : List (Key × D) → Option (List (Str × D))
  | [] => some []
  | (.inr x, d) :: r => (keysTx r).map ((x, d) :: ·)
  | _ => none
def leP (a b : Str × D) : Bool := leT a.1 b.1
def sortItM : D → M Cell := fun d s => match dctR s d with
  | some kvs => match keysTx kvs with
    | some ps => .ok (.lst ((ps.mergeSort leP).map fun p => D.tup [.str p.1, p.2])) s
    | none => .bad
  | none => .bad
theorem keysTx_eq : ∀ {kvs : List (Key × D)} {ps : List (Str × D)}, keysTx kvs = some ps → kvs = ps.map fun p => ((Sum.inr p.1 : Key), p.2)
  | [], ps, h => by cases h; rfl
  | (.inl _, _) :: r, ps, h => by cases h
  | (.inr x, d) :: r, ps, h => by
    unfold keysTx at h
    cases e : keysTx r with
    | none => rw [e] at h; cases h
    | some q =>
      rw [e] at h
      cases h
      rw [keysTx_eq e, List.map_cons]
theorem its_each {K : PySem.W.Frag} {w : Wd} : ∀ {its : List It} {ps : List (Str × D)}, RepK K w (its.map fun i => ((Sum.inr i.k : Key), i.v)) (ps.map fun p => ((Sum.inr p.1 : Key), p.2)) → PySem.W.EachIs (fun (i : It) (p : Str × D) => i.k = p.1 ∧ Rep K w i.v p.2) its ps
  | [], [], _ => .nil
  | [], _ :: _, h => by cases h
  | _ :: _, [], h => by cases h
  | i :: its, p :: ps, h => by
    rw [List.map_cons, List.map_cons] at h
    obtain ⟨pk, pd⟩ := p
    obtain ⟨ik, ia, io, iv⟩ := i
    cases h with
    | cons r t => exact .cons ⟨rfl, r⟩ (its_each t)
theorem its_repL {K : PySem.W.Frag} {w w' : Wd} (l : w.le w') : ∀ {its : List It} {ps : List (Str × D)}, PySem.W.EachIs (fun (i : It) (p : Str × D) => i.k = p.1 ∧ Rep K w i.v p.2) its ps → (∀ i ∈ its, TupC w'.F i.a [.str i.k, i.v]) → RepL K w' (its.map fun i => V.ref i.a) (ps.map fun p => D.tup [.str p.1, p.2])
  | _, _, .nil, _ => .nil
  | i :: its, p :: ps, .cons h t, q => by
    refine .cons ?_ (its_repL l t fun j hj => q j (List.mem_cons_of_mem _ hj))
    refine .tup (q i List.mem_cons_self) (.cons ?_ (.cons (h.2.upW l) .nil))
    rw [h.1]
    exact .str _
theorem RS.grow {K : PySem.W.Frag} {w : Wd} {H H' : Hp} {σ : L2.St} {s : S} (R : RS K w H σ s) (as : List Addr) (kp : ∀ b o, H b = some o → H' b = some o) (new : ∀ a ∈ as, H a = none) :
    Le w H ⟨w.ρ, fun a => open Classical in if a ∈ as then H' a else w.F a⟩ H' ∧ RS K ⟨w.ρ, fun a => open Classical in if a ∈ as then H' a else w.F a⟩ H' σ s := by
  have f1 : ∀ a o, w.F a = some o → (open Classical in if a ∈ as then H' a else w.F a) = some o := fun a o e => by
    have h := R.sub a o e
    rw [if_neg (fun z => by rw [new a z] at h; cases h)]
    exact e
  have le : w.le ⟨w.ρ, fun a => open Classical in if a ∈ as then H' a else w.F a⟩ := ⟨fun _ _ h => h, f1⟩
  refine ⟨⟨le, fun a o e _ => kp a o e, fun a h => .inl h, fun a o e => ?_⟩, ⟨fun a o e => ?_, R.len, fun i d h => ?_, R.cl, R.nd, fun a ha => ?_, fun n a c e1 e2 => ?_⟩⟩
  · by_cases c : a ∈ as
    · exact .inr (.inl (new a c))
    · have e : (open Classical in if a ∈ as then H' a else w.F a) = some o := e
      rw [if_neg c] at e
      exact .inl e
  · by_cases c : a ∈ as
    · have e : (open Classical in if a ∈ as then H' a else w.F a) = some o := e
      rw [if_pos c] at e
      exact e
    · have e : (open Classical in if a ∈ as then H' a else w.F a) = some o := e
      rw [if_neg c] at e
      exact kp a o (R.sub a o e)
  · obtain ⟨v, h1, h2⟩ := R.loc i d h
    exact ⟨v, h1, h2.upW le⟩
  · show (open Classical in if a ∈ as then H' a else w.F a) = none
    rw [if_neg (fun z => (R.fresh (new a z)).2 ha)]
    exact R.out a ha
  · have hne : H a ≠ none := fun z => R.ne z e1 rfl
    refine (R.cells n a c e1 e2).upW le ?_
    cases q : H a with
    | none => exact absurd q hne
    | some o => exact kp a o q
theorem dn_sortItems {e : Expr} {fe : M D} {p apos cpos pos : Pos} (hu : X.A.units + 64 < cLine) (hm : X.mg "sorted" = none) (he' : DE X W e fe) (hc : X.calm = true := by rfl) (hg : Gl X "sorted" := by rfl) (hbase : attributeBase e "items" X.env (eval e X.env) = eval e X.env := by rfl) (hline : (apos.endLine == cpos.line) = true := by rfl)
    (hs : starEach [.Call (.Attribute e "items" apos) [] [] cpos] X.env = (false, eval (.Call (.Attribute e "items" apos) [] [] cpos) X.env) :: starEach [] X.env := by rfl) :
    DN X W (.Call (.Name "sorted" p) [.Call (.Attribute e "items" apos) [] [] cpos] [] pos) (bnd fe sortItM) := by
  obtain ⟨t, q, r⟩ := he'
  refine ⟨_, pe_sortItems hu hc q hg hm hbase hline hs, fun w H σ s Q R z => ?_⟩
  show t σ H fun v H1 => rSortItems X.K v H1 Q
  refine r.bnd R z fun d s1 w1 H1 v l1 R1 r1 p1 => ?_
  unfold sortItM at p1
  split at p1
  · next kvs hd =>
    split at p1
    · next ps hn =>
      obtain ⟨a, us, rfl, h1, h2⟩ := R1.dictR r1 hd
      have ek := keysTx_eq hn
      subst ek
      refine ⟨a, us, ps.map Prod.fst, rfl, h1, by rw [RepK.keys h2, List.map_map, List.map_map]; rfl, fun H' p its k1 k2 k3 k4 k5 k6 => ?_⟩
      obtain ⟨l2, R2⟩ := R1.grow (its.map It.a) k1 (fun a ha => by obtain ⟨i, hi, rfl⟩ := List.mem_map.mp ha; exact (k6 i hi).1)
      rw [← k5] at h2
      have ea := its_each h2
      have es := PySem.W.sort_each (r := leI) (s := leP) ea (fun i hi j hj => by
        have e1 := (ea.zip i hi).1
        have e2 := (ea.zip j hj).1
        show leT i.1.k j.1.k = leT i.2.1 j.2.1
        rw [e1, e2])
      · have rl := its_repL l2.le es (fun i hi => by
          have hi := (List.mergeSort_perm _ _).mem_iff.mp hi
          refine ⟨i.o, ?_, (k6 i hi).2.1⟩
          show (open Classical in if i.a ∈ its.map It.a then H' i.a else w1.F i.a) = _
          rw [if_pos (List.mem_map.mpr ⟨i, hi, rfl⟩)]
          exact (k6 i hi).2.2)
        refine p1 _ H' _ l2 R2 ⟨p, rfl, ?_, (R1.fresh k2).2, ⟨_, k3, rl⟩, k2⟩
        show (open Classical in if p ∈ its.map It.a then H' p else w1.F p) = none
        rw [if_neg k4]
        exact (R1.fresh k2).1
    · exact p1.elim
  · exact p1.elim
/-! a, b, c = a list -/
def unp3L (i j k : Nat) (d : D) : M Out := fun s => match lstOf s d with
  | some [x, y, z] => .ok .nx { s with loc := ((s.loc.set i (some x)).set j (some y)).set k (some z) }
  | _ => .bad
theorem dg_threeL {i j k : Nat} {x y z : Str} {kk : Nat} {p1 p2 p3 pos : Pos} (hc : X.calm = true) (hN : X.N.Nodup) (hi : X.N[i]? = some x := by rfl) (hj : X.N[j]? = some y := by rfl) (hk : X.N[k]? = some z := by rfl) (hx : Loc X.env.scope x := by first | exact Or.inl rfl | exact Or.inr rfl) (hy : Loc X.env.scope y := by first | exact Or.inl rfl | exact Or.inr rfl) (hz : Loc X.env.scope z := by first | exact Or.inl rfl | exact Or.inr rfl)
    (hf : X.fn x = true ∨ X.env.scope.names.lookup x = some .local := by first | exact .inl rfl | exact .inr rfl) (hf2 : X.fn y = true ∨ X.env.scope.names.lookup y = some .local := by first | exact .inl rfl | exact .inr rfl) (hf3 : X.fn z = true ∨ X.env.scope.names.lookup z = some .local := by first | exact .inl rfl | exact .inr rfl)
    (hn : (assignEach [.Name x p1, .Name y p2, .Name z p3] X.env).length = 3 := by rfl) (hst : (assignEach [.Name x p1, .Name y p2, .Name z p3] X.env).findIdx? (·.1) = none := by rfl)
    (hs1 : (assignEach [.Name x p1, .Name y p2, .Name z p3] X.env).map (·.2) = assign (.Name x p1) X.env :: (assignEach [.Name y p2, .Name z p3] X.env).map (·.2) := by rfl) (hs2 : (assignEach [.Name y p2, .Name z p3] X.env).map (·.2) = assign (.Name y p2) X.env :: (assignEach [.Name z p3] X.env).map (·.2) := by rfl)
    (hs3 : (assignEach [.Name z p3] X.env).map (·.2) = assign (.Name z p3) X.env :: (assignEach [] X.env).map (·.2) := by rfl) :
    DG X (.Tuple [.Name x p1, .Name y p2, .Name z p3] kk pos) (unp3L i j k) := by
  refine ⟨_, pg_unl hc (pgs_cons (pg_name hN hi hx hf) (pgs_cons (pg_name hN hj hy hf2) (pgs_cons (pg_name hN hk hz hf3) pgs_nil hs3) hs2) hs1) hn hst, fun w H σ s v d Q R r p => ?_⟩
  unfold unp3L at p
  split at p
  · next d1 d2 d3 hd =>
    obtain ⟨a, vs, rfl, h1, h2⟩ := R.list r hd
    cases h2 with
    | cons r1 t1 =>
      cases t1 with
      | cons r2 t2 =>
        cases t2 with
        | cons r3 t3 =>
          cases t3
          exact ⟨a, _, rfl, h1, rfl, _, _, rfl, _, _, rfl, _, _, rfl, rfl, p w H _ (Le.refl _ _) (((R.set r1).set r2).set r3)⟩
  · exact p.elim
theorem unp3L_ok {i j k : Nat} (d : D) (s : S) : (∃ s', unp3L i j k d s = .ok .nx s') ∨ unp3L i j k d s = .bad := by
  unfold unp3L
  split
  · exact .inl ⟨_, rfl⟩
  · exact .inr rfl
theorem x_unp3L {i j k : Nat} {a b c : D} {s : S} : unp3L i j k (.lst [a, b, c]) s = .ok .nx ⟨((s.loc.set i (some a)).set j (some b)).set k (some c), s.vh⟩ := nr rfl
/-! what sorted(d.items()) is -/
theorem keysTx_map (f : List Nat × D → D) : ∀ ps : List (List Nat × D), keysTx (ps.map fun p => ((Sum.inr (tx p.1) : Key), f p)) = some (ps.map fun p => (tx p.1, f p))
  | [] => rfl
  | p :: r => by
    rw [List.map_cons, keysTx, keysTx_map f r]
    rfl
theorem x_sortItM {s : S} {d : D} {kvs : List (Key × D)} {ps : List (Str × D)} (h : dctR s d = some kvs) (hk : keysTx kvs = some ps) : sortItM d s = .ok (.lst ((ps.mergeSort leP).map fun p => D.tup [.str p.1, p.2])) s := by
  unfold sortItM
  rw [h]
  dsimp only
  rw [hk]
theorem sortP_eq {ps qs : List (Str × D)} (hp : qs.Perm ps) (hs : qs.Pairwise fun a b => leP a b = true) (nd : (ps.map Prod.fst).Nodup) : ps.mergeSort leP = qs := by
  refine List.Perm.eq_of_pairwise (le := fun a b => leP a b = true) (fun a b ha hb h1 h2 => ?_) (List.pairwise_mergeSort (le := leP) (fun a b c h1 h2 => leT_tr a.1 b.1 c.1 h1 h2) (fun a b => leT_tot a.1 b.1) ps) hs ((List.mergeSort_perm _ _).trans hp.symm)
  replace ha := (List.mergeSort_perm _ _).mem_iff.mp ha
  replace hb := hp.mem_iff.mp hb
  have e := leT_anti h1 h2
  clear hp hs h1 h2
  induction ps with
  | nil => cases ha
  | cons x r ih =>
    rw [List.map_cons, List.nodup_cons] at nd
    obtain ⟨n1, n2⟩ := nd
    rcases List.mem_cons.mp ha with e1 | i1
    · rcases List.mem_cons.mp hb with e2 | j1
      · rw [e1, e2]
      · exact absurd (List.mem_map.mpr ⟨b, j1, by rw [← e, e1]⟩) n1
    · rcases List.mem_cons.mp hb with e2 | j1
      · exact absurd (List.mem_map.mpr ⟨a, i1, by rw [e, e2]⟩) n1
      · exact ih n2 i1 j1
end Fx

/-! Fx: a dict that stands in a list, locked while it is walked; a place of a list or of a dict is set -/
namespace Fx
open PySem PySem.Spec PyProof.Rows L2
variable {X : Cx} {W : WX}
/-- the cell at place k of the list in slot i -/
def plC (i k : Nat) (s : S) : Option Nat := match s.loc[i]? with
  | some (some (.cell m)) => match s.vh[m]? with
    | some (.lst ds) => match ds[k]? with
      | some (.cell n) => some n
      | _ => none
    | _ => none
  | _ => none
theorem RepL.atD {K : PySem.W.Frag} {w : Wd} {vs : List V} {ds : List D} (h : RepL K w vs ds) : ∀ {k : Nat} {d : D}, ds[k]? = some d → ∃ v, Rep K w v d := by
  induction ds generalizing vs with
  | nil => intro k d e; simp at e
  | cons x ds ih =>
    cases h with
    | cons r t =>
      intro k d e
      cases k with
      | zero => cases e; exact ⟨_, r⟩
      | succ k => exact ih t e
theorem RS.plC {K : PySem.W.Frag} {w : Wd} {H : Hp} {σ : L2.St} {s : S} (R : RS K w H σ s) {i k n : Nat} (h : plC i k s = some n) : ∃ a, w.ρ[n]? = some a := by
  unfold Fx.plC at h
  split at h
  · next m hm =>
    split at h
    · next ds hd =>
      split at h
      · next q hq =>
        cases h
        obtain ⟨b, hb⟩ := R.cellV hm
        obtain ⟨vs, _, rl⟩ := R.cells m b _ hb hd
        obtain ⟨v, r⟩ := rl.atD hq
        cases r with
        | cell h => exact ⟨_, h⟩
      · cases h
    · cases h
  · cases h
open Classical in
noncomputable def lockP {α : Type} (i k : Nat) (f : M α) : M α := fun s => match plC i k s with
  | some n => match s.vh[n]? with
    | some (.dct kvs) => if h : ∃ r : α × List (Option D) × List Cell, n < r.2.2.length ∧ ∀ o us, f ⟨s.loc, s.vh.set n (.dctL o us kvs)⟩ = .ok r.1 ⟨r.2.1, r.2.2.set n (.dctL o us kvs)⟩ then .ok h.choose.1 ⟨h.choose.2.1, h.choose.2.2.set n (.dct kvs)⟩ else .bad
    | _ => .bad
  | _ => .bad
theorem ds_lockP {st : Stmt} {f : M Out} (i k : Nat) (h : DS X W st f) : DS X W st (lockP i k f) := by
  obtain ⟨t, p, r⟩ := h
  refine ⟨tLock t, ps_lock p, fun w H σ s D R z => ?_⟩
  unfold lockP at z
  split at z
  · next n hloc =>
    split at z
    · next kvs hvh =>
      split at z
      · next h =>
        obtain ⟨a, hr⟩ := R.plC hloc
        obtain ⟨us, hH, hrep⟩ := R.cells n a _ hr hvh
        have spec := h.choose_spec
        refine ⟨a, .dK us, hH, trivial, fun od => ?_⟩
        refine r w _ σ _ _ (R.lock od hr hrep) ?_
        rw [spec.2 od us]
        generalize h.choose = rr at *
        obtain ⟨out, l, vh⟩ := rr
        have main : ∀ w' H' σ', Le w (upd H a (.frz od (.dK us))) w' H' → RS X.K w' H' σ' ⟨l, vh.set n (.dctL od us kvs)⟩ → H' a = some (.frz od (.dK us)) ∧ RS X.K w' (upd H' a (.dK us)) σ' ⟨l, vh.set n (.dct kvs)⟩ ∧ Le w H w' (upd H' a (.dK us)) := fun w' H' σ' l' R' => by
          have hr' : w'.ρ[n]? = some a := l'.le.1 _ _ hr
          obtain ⟨h1, h2⟩ := R'.unlock hr' spec.1
          exact ⟨h1, h2, ((Le.write (List.mem_of_getElem? hr)).trans l').trans (Le.write (List.mem_of_getElem? hr'))⟩
        cases out with
        | rt d => exact fun w' H' σ' v l' R' rv => let ⟨h1, h2, h3⟩ := main w' H' σ' l' R'; ⟨h1, z w' _ σ' v h3 h2 rv⟩
        | nx => exact fun w' H' σ' l' R' => let ⟨h1, h2, h3⟩ := main w' H' σ' l' R'; ⟨h1, z w' _ σ' h3 h2⟩
        | brk => exact fun w' H' σ' l' R' => let ⟨h1, h2, h3⟩ := main w' H' σ' l' R'; ⟨h1, z w' _ σ' h3 h2⟩
        | cnt => exact fun w' H' σ' l' R' => let ⟨h1, h2, h3⟩ := main w' H' σ' l' R'; ⟨h1, z w' _ σ' h3 h2⟩
      · exact z.elim
    · exact z.elim
  · exact z.elim
theorem plC_at {i k m n : Nat} {s : S} {ds : List D} (h1 : s.loc[i]? = some (some (.cell m))) (h2 : s.vh[m]? = some (.lst ds)) (h3 : ds[k]? = some (.cell n)) : plC i k s = some n := by
  unfold plC; rw [h1]; dsimp only; rw [h2]; dsimp only; rw [h3]
open Classical in
theorem x_lockP {α : Type} {i k n : Nat} {f : M α} {l l' : List (Option D)} {vh vh' : List Cell} {kvs : List (Key × D)} {a : α} (h1 : plC i k ⟨l, vh⟩ = some n) (h2 : vh[n]? = some (.dct kvs)) (hn : n < vh'.length)
    (h : ∀ o us, f ⟨l, vh.set n (.dctL o us kvs)⟩ = .ok a ⟨l', vh'.set n (.dctL o us kvs)⟩) : lockP i k f ⟨l, vh⟩ = .ok a ⟨l', vh'.set n (.dct kvs)⟩ := by
  have ex : ∃ r : α × List (Option D) × List Cell, n < r.2.2.length ∧ ∀ o us, f ⟨l, vh.set n (.dctL o us kvs)⟩ = .ok r.1 ⟨r.2.1, r.2.2.set n (.dctL o us kvs)⟩ := ⟨(a, l', vh'), hn, h⟩
  unfold lockP
  dsimp only
  rw [h1]
  dsimp only
  rw [h2]
  dsimp only
  rw [dif_pos ex]
  have sp := ex.choose_spec
  generalize ex.choose = rr at *
  obtain ⟨b, m, vh2⟩ := rr
  dsimp only at sp ⊢
  have o0 : Obj := { cls := .none, data := .plain }
  have e := (h o0 []).symm.trans (sp.2 o0 [])
  injection e with e1 e2
  injection e2 with e3 e4
  subst e1 e3
  have e5 : vh'.set n (.dct kvs) = vh2.set n (.dct kvs) := by
    have := congrArg (fun v => v.set n (Cell.dct kvs)) e4
    simpa [List.set_set] using this
  rw [e5]
end Fx

/-! ### the text, by gen.py -/
namespace Wktwigtable_k13_a_store
open PySem PySem.Spec PyProof.Rows L2 Fx
def topS (i : Nat) : Stmt := PySem.Challenge.pw_twigtable_k13_a_store.main.body.getD i (.Pass ⟨0, 0, 0, 0⟩)
structure Txt (K : PySem.W.Frag) (mg : Str → Option Value) : Prop where
  cl_Leaf : ClsP K "Leaf"
  cl_Twig : ClsP K "Twig"
  cl_Page : ClsP K "Page"
  cl_Pages : ClsP K "Pages"
  na_Leaf_level : NoA K "Leaf" "level"
  na_Twig_level : NoA K "Twig" "level"
  na_Leaf_rows : NoA K "Leaf" "rows"
  na_Twig_heads : NoA K "Twig" "heads"
  na_Pages_coming : NoA K "Pages" "coming"
  na_Pages_known : NoA K "Pages" "known"
  na_Pages_standing : NoA K "Pages" "standing"
  is_Leaf_Leaf : IsoP K mg "Leaf" "Leaf" true
  is_Leaf_Twig : IsoP K mg "Leaf" "Twig" false
  is_Twig_Leaf : IsoP K mg "Twig" "Leaf" false
  is_Twig_Twig : IsoP K mg "Twig" "Twig" true
  xn_NoPage : ∃ C, mg "NoPage" = some (.ref C)
  xp_NoPage_NoPage : XcP K mg "NoPage" "NoPage" true
  xi_NoPage_NoMake : XcI K mg "NoPage" "NoMake" false
  xi_NoPage_TableError : XcI K mg "NoPage" "TableError" true
  xb_NoPage_ValueError : XcB K mg "NoPage" "ValueError" true
  xf_NoPage_number : XcF K mg "NoPage" "number"
  b_ValueError : mg "ValueError" = none
  b_bool : mg "bool" = none
  b_int : mg "int" = none
  b_isinstance : mg "isinstance" = none
  b_len : mg "len" = none
  b_list : mg "list" = none
  b_max : mg "max" = none
  b_range : mg "range" = none
  b_sorted : mg "sorted" = none
  b_tuple : mg "tuple" = none
abbrev s_NoPage_init : Stmt := inClass (topS 3) 0
theorem sc_NoPage_init : FnScope ["self", "number"] ["self", "number"] (defScope s_NoPage_init) := ⟨rfl, rfl, rfl, by decide +kernel, rfl, by decide +kernel, by decide +kernel⟩
theorem oke_NoPage {P : Program} {wd : World} {K : PySem.W.Frag} {mg : Str → Option Value} {base : Heap} (F : TopE K mg "NoPage" "NoPage.__init__" s_NoPage_init ["self", "number"] ["number"]) : Xc1 P wd K mg base "NoPage" ["number"] 1 :=
  F.mk1 sc_NoPage_init rfl fun f cdv A outer s H E => pss_one (ps_ost (pe_var (i := 0) rfl (Or.inl rfl)) (pe_var (i := 1) rfl (Or.inl rfl)))
abbrev s_Page_init : Stmt := inClass (topS 6) 0
theorem sc_Page_init : FnScope ["self", "level"] ["self", "level"] (defScope s_Page_init) := ⟨rfl, rfl, rfl, by decide +kernel, rfl, by decide +kernel, by decide +kernel⟩
noncomputable def g_Page_init : M Out :=
    (altM (fldS "Leaf" "level" (getL 0) (getL 1)) (fldS "Twig" "level" (getL 0) (getL 1)))
noncomputable def F_Page_init : Sf := runS 2 g_Page_init
theorem ok_Page_init {P : Program} {wd : World} {K : PySem.W.Frag} {mg : Str → Option Value} {base : Heap} (T : Txt K mg) {x : Str} (F : TopI K mg x "Page.__init__" s_Page_init ["self", "level"])  : MkQ P wd K mg base x 1 (SpS K 2 F_Page_init) :=
  F.fnS sc_Page_init (by decide) fun f cdv A outer s H E hr =>
    ((dss_one (ds_alt (ds_fld T.cl_Leaf T.na_Leaf_level (de_v 0) (de_v 1)) (ds_fld T.cl_Twig T.na_Twig_level (de_v 0) (de_v 1)))) : DSs _ W0 (defBody s_Page_init) g_Page_init)
theorem okcf_Page_init {P : Program} {wd : World} {K : PySem.W.Frag} {mg : Str → Option Value} {base : Heap} (T : Txt K mg) {x : Str} (F : TopF K mg x "__init__" "Page.__init__" s_Page_init ["self", "level"])  : CfQ P wd K mg base x "__init__" 1 (SpS K 2 F_Page_init) :=
  F.fnS sc_Page_init (by decide) fun f cdv A outer s H E hr =>
    ((dss_one (ds_alt (ds_fld T.cl_Leaf T.na_Leaf_level (de_v 0) (de_v 1)) (ds_fld T.cl_Twig T.na_Twig_level (de_v 0) (de_v 1)))) : DSs _ W0 (defBody s_Page_init) g_Page_init)
abbrev s_Leaf_entries : Stmt := inClass (topS 7) 1
theorem sc_Leaf_entries : FnScope ["self"] ["self"] (defScope s_Leaf_entries) := ⟨rfl, rfl, rfl, by decide +kernel, rfl, by decide +kernel, by decide +kernel⟩
noncomputable def g_Leaf_entries : M Out :=
    (retM (bnd (getL 0) (fldM "Leaf" "rows")))
noncomputable def F_Leaf_entries : Pf := runP 1 g_Leaf_entries
theorem ok_Leaf_entries {P : Program} {wd : World} {K : PySem.W.Frag} {mg : Str → Option Value} {base : Heap} (T : Txt K mg) {x : Str} (F : TopM K x "entries" "Leaf.entries" s_Leaf_entries ["self"])  : Met P wd K mg base x "entries" 1 (SpP K 1 F_Leaf_entries) :=
  F.fnP sc_Leaf_entries (by decide) fun f cdv A outer s H E hr =>
    ((dss_one (ds_ret (de_fld T.cl_Leaf T.na_Leaf_rows (de_v 0)))) : DSs _ W0 (defBody s_Leaf_entries) g_Leaf_entries)
abbrev s_Twig_entries : Stmt := inClass (topS 8) 1
theorem sc_Twig_entries : FnScope ["self"] ["self"] (defScope s_Twig_entries) := ⟨rfl, rfl, rfl, by decide +kernel, rfl, by decide +kernel, by decide +kernel⟩
noncomputable def g_Twig_entries : M Out :=
    (retM (bnd (getL 0) (fldM "Twig" "heads")))
noncomputable def F_Twig_entries : Pf := runP 1 g_Twig_entries
theorem ok_Twig_entries {P : Program} {wd : World} {K : PySem.W.Frag} {mg : Str → Option Value} {base : Heap} (T : Txt K mg) {x : Str} (F : TopM K x "entries" "Twig.entries" s_Twig_entries ["self"])  : Met P wd K mg base x "entries" 1 (SpP K 1 F_Twig_entries) :=
  F.fnP sc_Twig_entries (by decide) fun f cdv A outer s H E hr =>
    ((dss_one (ds_ret (de_fld T.cl_Twig T.na_Twig_heads (de_v 0)))) : DSs _ W0 (defBody s_Twig_entries) g_Twig_entries)
abbrev s_Page_told : Stmt := inClass (topS 6) 2
theorem sc_Page_told : FnScope ["self"] ["self"] (defScope s_Page_told) := ⟨rfl, rfl, rfl, by decide +kernel, rfl, by decide +kernel, by decide +kernel⟩
noncomputable def g_Page_told : M Out :=
    (retM (tupM (consM (altM (bnd (getL 0) (fldM "Leaf" "level")) (bnd (getL 0) (fldM "Twig" "level"))) (consM (altM (metM0 "Leaf" "entries" (getL 0) (callP 1 F_Leaf_entries)) (metM0 "Twig" "entries" (getL 0) (callP 1 F_Twig_entries))) (ret [])))))
noncomputable def F_Page_told : Pf := runP 1 g_Page_told
theorem ok_Page_told {P : Program} {wd : World} {K : PySem.W.Frag} {mg : Str → Option Value} {base : Heap} (T : Txt K mg) {x : Str} (F : TopM K x "told" "Page.told" s_Page_told ["self"]) (m_Leaf_entries : Met P wd K mg base "Leaf" "entries" 1 (SpP K 1 F_Leaf_entries)) (m_Twig_entries : Met P wd K mg base "Twig" "entries" 1 (SpP K 1 F_Twig_entries)) : Met P wd K mg base x "told" 2 (SpP K 1 F_Page_told) :=
  F.fnP sc_Page_told (by decide) fun f cdv A outer s H E hr =>
    ((dss_one (ds_ret (de_tup (da_cons (de_alt (de_fld T.cl_Leaf T.na_Leaf_level (de_v 0)) (de_fld T.cl_Twig T.na_Twig_level (de_v 0))) (da_cons (de_alt (met_call0 T.cl_Leaf m_Leaf_entries ans_P (hr.mono (by decide)) (de_v 0)) (met_call0 T.cl_Twig m_Twig_entries ans_P (hr.mono (by decide)) (de_v 0))) da_nil))))) : DSs _ W0 (defBody s_Page_told) g_Page_told)
abbrev s_Page_first : Stmt := inClass (topS 6) 3
theorem sc_Page_first : FnScope ["self"] ["self"] (defScope s_Page_first) := ⟨rfl, rfl, rfl, by decide +kernel, rfl, by decide +kernel, by decide +kernel⟩
noncomputable def g_Page_first : M Out :=
    (retM (bin ixAM (bin ixAM (altM (metM0 "Leaf" "entries" (getL 0) (callP 1 F_Leaf_entries)) (metM0 "Twig" "entries" (getL 0) (callP 1 F_Twig_entries))) (ret (.int 0))) (ret (.int 0))))
noncomputable def F_Page_first : Pf := runP 1 g_Page_first
theorem ok_Page_first {P : Program} {wd : World} {K : PySem.W.Frag} {mg : Str → Option Value} {base : Heap} (T : Txt K mg) {x : Str} (F : TopM K x "first" "Page.first" s_Page_first ["self"]) (m_Leaf_entries : Met P wd K mg base "Leaf" "entries" 1 (SpP K 1 F_Leaf_entries)) (m_Twig_entries : Met P wd K mg base "Twig" "entries" 1 (SpP K 1 F_Twig_entries)) : Met P wd K mg base x "first" 2 (SpP K 1 F_Page_first) :=
  F.fnP sc_Page_first (by decide) fun f cdv A outer s H E hr =>
    ((dss_one (ds_ret (de_ixA (hu_of hr) (de_ixA (hu_of hr) (de_alt (met_call0 T.cl_Leaf m_Leaf_entries ans_P (hr.mono (by decide)) (de_v 0)) (met_call0 T.cl_Twig m_Twig_entries ans_P (hr.mono (by decide)) (de_v 0))) de_int) de_int))) : DSs _ W0 (defBody s_Page_first) g_Page_first)
abbrev s_Leaf_init : Stmt := inClass (topS 7) 0
theorem sc_Leaf_init : FnScope ["self", "rows"] ["self", "rows"] (defScope s_Leaf_init) := ⟨rfl, rfl, rfl, by decide +kernel, rfl, by decide +kernel, by decide +kernel⟩
noncomputable def g_Leaf_init : M Out :=
    (seqM (dropM (bnd (consM (getL 0) (consM (ret (.int 0)) (ret []))) (callS 2 F_Page_init)))
    (fldS "Leaf" "rows" (getL 0) (bnd (consM (getL 1) (ret [])) tupleM)))
noncomputable def F_Leaf_init : Sf := runS 2 g_Leaf_init
theorem ok_Leaf_init {P : Program} {wd : World} {K : PySem.W.Frag} {mg : Str → Option Value} {base : Heap} (T : Txt K mg) {x : Str} (F : TopI K mg x "Leaf.__init__" s_Leaf_init ["self", "rows"]) (cf_Page_init : CfQ P wd K mg base "Page" "__init__" 1 (SpS K 2 F_Page_init)) : MkQ P wd K mg base x 2 (SpS K 2 F_Leaf_init) :=
  F.fnS sc_Leaf_init (by decide) fun f cdv A outer s H E hr =>
    ((dss_cons (ds_expr (cf_call cf_Page_init ans_S (hr.mono (by decide)) (da_cons (de_v 0) (da_cons de_int da_nil))))
    (dss_one (ds_fld T.cl_Leaf T.na_Leaf_rows (de_v 0) (de_callT call_tupleC rc_tuple T.b_tuple (da_cons (de_v 1) da_nil) (by decide +kernel))))) : DSs _ W0 (defBody s_Leaf_init) g_Leaf_init)
abbrev s_Twig_init : Stmt := inClass (topS 8) 0
theorem sc_Twig_init : FnScope ["self", "level", "heads"] ["self", "level", "heads"] (defScope s_Twig_init) := ⟨rfl, rfl, rfl, by decide +kernel, rfl, by decide +kernel, by decide +kernel⟩
noncomputable def g_Twig_init : M Out :=
    (seqM (dropM (bnd (consM (getL 0) (consM (getL 1) (ret []))) (callS 2 F_Page_init)))
    (fldS "Twig" "heads" (getL 0) (bnd (consM (getL 2) (ret [])) tupleM)))
noncomputable def F_Twig_init : Sf := runS 3 g_Twig_init
theorem ok_Twig_init {P : Program} {wd : World} {K : PySem.W.Frag} {mg : Str → Option Value} {base : Heap} (T : Txt K mg) {x : Str} (F : TopI K mg x "Twig.__init__" s_Twig_init ["self", "level", "heads"]) (cf_Page_init : CfQ P wd K mg base "Page" "__init__" 1 (SpS K 2 F_Page_init)) : MkQ P wd K mg base x 2 (SpS K 3 F_Twig_init) :=
  F.fnS sc_Twig_init (by decide) fun f cdv A outer s H E hr =>
    ((dss_cons (ds_expr (cf_call cf_Page_init ans_S (hr.mono (by decide)) (da_cons (de_v 0) (da_cons (de_v 1) da_nil))))
    (dss_one (ds_fld T.cl_Twig T.na_Twig_heads (de_v 0) (de_callT call_tupleC rc_tuple T.b_tuple (da_cons (de_v 2) da_nil) (by decide +kernel))))) : DSs _ W0 (defBody s_Twig_init) g_Twig_init)
abbrev s_Pages_init : Stmt := inClass (topS 9) 0
theorem sc_Pages_init : FnScope ["self"] ["self"] (defScope s_Pages_init) := ⟨rfl, rfl, rfl, by decide +kernel, rfl, by decide +kernel, by decide +kernel⟩
noncomputable def g_Pages_init (wd : World) : M Out :=
    (seqM (fldS "Pages" "standing" (getL 0) (ownM (ret (.dct []))))
    (seqM (fldS "Pages" "known" (getL 0) (ownM (ret (.dctN wd []))))
    (fldS "Pages" "coming" (getL 0) (ret (.int 0)))))
noncomputable def F_Pages_init (wd : World) : Sf := runS 1 (g_Pages_init wd)
theorem ok_Pages_init {P : Program} {wd : World} {K : PySem.W.Frag} {mg : Str → Option Value} {base : Heap} (T : Txt K mg) {x : Str} (F : TopI K mg x "Pages.__init__" s_Pages_init ["self"])  : MkQ P wd K mg base x 1 (SpS K 1 (F_Pages_init wd)) :=
  F.fnS sc_Pages_init (by decide) fun f cdv A outer s H E hr =>
    ((dss_cons (ds_fld T.cl_Pages T.na_Pages_standing (de_v 0) (de_own dn_dict0))
    (dss_cons (ds_fld T.cl_Pages T.na_Pages_known (de_v 0) (de_own dn_dictN))
    (dss_one (ds_fld T.cl_Pages T.na_Pages_coming (de_v 0) de_int)))) : DSs _ W0 (defBody s_Pages_init) (g_Pages_init wd))
abbrev s_Pages_kept : Stmt := inClass (topS 9) 1
theorem sc_Pages_kept : FnScope ["self", "page", "content", "number"] ["self", "page"] (defScope s_Pages_kept) := ⟨rfl, rfl, rfl, by decide +kernel, rfl, by decide +kernel, by decide +kernel⟩
noncomputable def g_Pages_kept (wd : World) : M Out :=
    (seqM (asgM (altM (metM0 "Leaf" "told" (getL 1) (callP 1 F_Page_told)) (metM0 "Twig" "told" (getL 1) (callP 1 F_Page_told))) (setL 2))
    (seqM (ifM (tst (bin (nInM wd true) (getL 2) (bnd (getL 0) (fldM "Pages" "known")))) (retM (bin (nGetM wd) (bnd (getL 0) (fldM "Pages" "known")) (getL 2))) (ret .nx))
    (seqM (asgM (bnd (getL 0) (fldM "Pages" "coming")) (setL 3))
    (seqM (fldS "Pages" "coming" (getL 0) (bin addM (getL 3) (ret (.int 1))))
    (seqM (dputS (bnd (getL 0) (fldM "Pages" "standing")) (getL 3) (getL 1))
    (seqM (nPutS wd (bnd (getL 0) (fldM "Pages" "known")) (getL 2) (getL 3))
    (retM (getL 3))))))))
noncomputable def F_Pages_kept (wd : World) : Sf := runS 4 (g_Pages_kept wd)
theorem ok_Pages_kept {P : Program} {wd : World} {K : PySem.W.Frag} {mg : Str → Option Value} {base : Heap} (T : Txt K mg) {x : Str} (F : TopM K x "kept" "Pages.kept" s_Pages_kept ["self", "page"]) (m_Leaf_told : Met P wd K mg base "Leaf" "told" 2 (SpP K 1 F_Page_told)) (m_Twig_told : Met P wd K mg base "Twig" "told" 2 (SpP K 1 F_Page_told)) : Met P wd K mg base x "kept" 3 (SpS K 2 (F_Pages_kept wd)) :=
  F.fnS sc_Pages_kept (by decide) fun f cdv A outer s H E hr =>
    ((dss_cons (ds_set 2 (de_alt (met_call0 T.cl_Leaf m_Leaf_told ans_P (hr.mono (by decide)) (de_v 1)) (met_call0 T.cl_Twig m_Twig_told ans_P (hr.mono (by decide)) (de_v 1))) sc_Pages_kept.nd)
    (dss_cons (ds_if (dt_nin (units_of hr) (de_v 2) (de_fld T.cl_Pages T.na_Pages_known (de_v 0))) (dss_one (ds_ret (de_nget (units_of hr) (de_fld T.cl_Pages T.na_Pages_known (de_v 0)) (de_v 2)))) dss_nil)
    (dss_cons (ds_set 3 (de_fld T.cl_Pages T.na_Pages_coming (de_v 0)) sc_Pages_kept.nd)
    (dss_cons (ds_fld T.cl_Pages T.na_Pages_coming (de_v 0) (de_add (de_v 3) de_int))
    (dss_cons (ds_dput (hu_of hr) (de_fld T.cl_Pages T.na_Pages_standing (de_v 0)) (de_v 3) (de_v 1))
    (dss_cons (ds_nput (units_of hr) (de_fld T.cl_Pages T.na_Pages_known (de_v 0)) (de_v 2) (de_v 3))
    (dss_one (ds_ret (de_v 3))))))))) : DSs _ W0 (defBody s_Pages_kept) (g_Pages_kept wd))
abbrev s_Pages_page : Stmt := inClass (topS 9) 2
theorem sc_Pages_page : FnScope ["self", "number"] ["self", "number"] (defScope s_Pages_page) := ⟨rfl, rfl, rfl, by decide +kernel, rfl, by decide +kernel, by decide +kernel⟩
noncomputable def g_Pages_page : M Out :=
    (seqM (ifM (tst (bin ninAM (getL 1) (bnd (getL 0) (fldM "Pages" "standing")))) fail (ret .nx))
    (retM (bin ixAM (bnd (getL 0) (fldM "Pages" "standing")) (getL 1))))
noncomputable def F_Pages_page : Pf := runP 2 g_Pages_page
theorem ok_Pages_page {P : Program} {wd : World} {K : PySem.W.Frag} {mg : Str → Option Value} {base : Heap} (T : Txt K mg) {x : Str} (F : TopM K x "page" "Pages.page" s_Pages_page ["self", "number"])  : Met P wd K mg base x "page" 1 (SpP K 2 F_Pages_page) :=
  F.fnP sc_Pages_page (by decide) fun f cdv A outer s H E hr =>
    ((dss_cons (ds_if (dt_ninA (units_of hr) (de_v 1) (de_fld T.cl_Pages T.na_Pages_standing (de_v 0))) (dss_one ds_never) dss_nil)
    (dss_one (ds_ret (de_ixA (hu_of hr) (de_fld T.cl_Pages T.na_Pages_standing (de_v 0)) (de_v 1))))) : DSs _ W0 (defBody s_Pages_page) g_Pages_page)
abbrev s_Pages_card : Stmt := inClass (topS 9) 3
theorem sc_Pages_card : FnScope ["self", "number", "page"] ["self", "number"] (defScope s_Pages_card) := ⟨rfl, rfl, rfl, by decide +kernel, rfl, by decide +kernel, by decide +kernel⟩
noncomputable def g_Pages_card : M Out :=
    (seqM (asgM (metM "Pages" "page" (getL 0) (consM (getL 1) (ret [])) (callP 2 F_Pages_page)) (setL 2))
    (retM (tupM (consM (altM (bnd (getL 2) (fldM "Leaf" "level")) (bnd (getL 2) (fldM "Twig" "level"))) (consM (altM (metM0 "Leaf" "first" (getL 2) (callP 1 F_Page_first)) (metM0 "Twig" "first" (getL 2) (callP 1 F_Page_first))) (ret []))))))
noncomputable def F_Pages_card : Pf := runP 3 g_Pages_card
theorem ok_Pages_card {P : Program} {wd : World} {K : PySem.W.Frag} {mg : Str → Option Value} {base : Heap} (T : Txt K mg) {x : Str} (F : TopM K x "card" "Pages.card" s_Pages_card ["self", "number"]) (m_Pages_page : Met P wd K mg base "Pages" "page" 1 (SpP K 2 F_Pages_page)) (m_Leaf_first : Met P wd K mg base "Leaf" "first" 2 (SpP K 1 F_Page_first)) (m_Twig_first : Met P wd K mg base "Twig" "first" 2 (SpP K 1 F_Page_first)) : Met P wd K mg base x "card" 3 (SpP K 2 F_Pages_card) :=
  F.fnP sc_Pages_card (by decide) fun f cdv A outer s H E hr =>
    ((dss_cons (ds_set 2 (met_call T.cl_Pages m_Pages_page ans_P (hr.mono (by decide)) (de_v 0) (da_cons (de_v 1) da_nil)) sc_Pages_card.nd)
    (dss_one (ds_ret (de_tup (da_cons (de_alt (de_fld T.cl_Leaf T.na_Leaf_level (de_v 2)) (de_fld T.cl_Twig T.na_Twig_level (de_v 2))) (da_cons (de_alt (met_call0 T.cl_Leaf m_Leaf_first ans_P (hr.mono (by decide)) (de_v 2)) (met_call0 T.cl_Twig m_Twig_first ans_P (hr.mono (by decide)) (de_v 2))) da_nil)))))) : DSs _ W0 (defBody s_Pages_card) g_Pages_card)
abbrev s_Pages_numbers : Stmt := inClass (topS 9) 4
theorem sc_Pages_numbers : FnScope ["self"] ["self"] (defScope s_Pages_numbers) := ⟨rfl, rfl, rfl, by decide +kernel, rfl, by decide +kernel, by decide +kernel⟩
noncomputable def g_Pages_numbers : M Out :=
    (retM (ownM (bnd (consM (bnd (getL 0) (fldM "Pages" "standing")) (ret [])) sortDM)))
noncomputable def F_Pages_numbers : Nf := runN 1 g_Pages_numbers
theorem ok_Pages_numbers {P : Program} {wd : World} {K : PySem.W.Frag} {mg : Str → Option Value} {base : Heap} (T : Txt K mg) {x : Str} (F : TopM K x "numbers" "Pages.numbers" s_Pages_numbers ["self"])  : Met P wd K mg base x "numbers" 1 (SpN K 1 F_Pages_numbers) :=
  F.fnN sc_Pages_numbers (by decide) fun f cdv A outer s H E hr =>
    ((dss_one (ds_ret (de_own (dn_sortDA T.b_sorted (da_cons (de_fld T.cl_Pages T.na_Pages_standing (de_v 0)) da_nil))))) : DSs _ W0 (defBody s_Pages_numbers) g_Pages_numbers)
abbrev s_Pages_dealt : Stmt := inClass (topS 9) 5
theorem sc_Pages_dealt : FnScope ["self"] ["self"] (defScope s_Pages_dealt) := ⟨rfl, rfl, rfl, by decide +kernel, rfl, by decide +kernel, by decide +kernel⟩
noncomputable def g_Pages_dealt : M Out :=
    (retM (bnd (getL 0) (fldM "Pages" "coming")))
noncomputable def F_Pages_dealt : Pf := runP 1 g_Pages_dealt
theorem ok_Pages_dealt {P : Program} {wd : World} {K : PySem.W.Frag} {mg : Str → Option Value} {base : Heap} (T : Txt K mg) {x : Str} (F : TopM K x "dealt" "Pages.dealt" s_Pages_dealt ["self"])  : Met P wd K mg base x "dealt" 1 (SpP K 1 F_Pages_dealt) :=
  F.fnP sc_Pages_dealt (by decide) fun f cdv A outer s H E hr =>
    ((dss_one (ds_ret (de_fld T.cl_Pages T.na_Pages_coming (de_v 0)))) : DSs _ W0 (defBody s_Pages_dealt) g_Pages_dealt)
abbrev s_Pages_skip : Stmt := inClass (topS 9) 6
theorem sc_Pages_skip : FnScope ["self", "count"] ["self", "count"] (defScope s_Pages_skip) := ⟨rfl, rfl, rfl, by decide +kernel, rfl, by decide +kernel, by decide +kernel⟩
noncomputable def g_Pages_skip : M Out :=
    (fldS "Pages" "coming" (getL 0) (bnd (consM (bnd (getL 0) (fldM "Pages" "coming")) (consM (getL 1) (ret []))) max2M))
noncomputable def F_Pages_skip : Sf := runS 2 g_Pages_skip
theorem ok_Pages_skip {P : Program} {wd : World} {K : PySem.W.Frag} {mg : Str → Option Value} {base : Heap} (T : Txt K mg) {x : Str} (F : TopM K x "skip" "Pages.skip" s_Pages_skip ["self", "count"])  : Met P wd K mg base x "skip" 1 (SpS K 2 F_Pages_skip) :=
  F.fnS sc_Pages_skip (by decide) fun f cdv A outer s H E hr =>
    ((dss_one (ds_fld T.cl_Pages T.na_Pages_coming (de_v 0) (de_callB (call_max2 rfl) rc_max2 T.b_max (da_cons (de_fld T.cl_Pages T.na_Pages_coming (de_v 0)) (da_cons (de_v 1) da_nil)) (by decide +kernel)))) : DSs _ W0 (defBody s_Pages_skip) g_Pages_skip)
abbrev s_Pages_drop : Stmt := inClass (topS 9) 7
theorem sc_Pages_drop : FnScope ["self", "number", "page"] ["self", "number"] (defScope s_Pages_drop) := ⟨rfl, rfl, rfl, by decide +kernel, rfl, by decide +kernel, by decide +kernel⟩
noncomputable def g_Pages_drop (wd : World) : M Out :=
    (seqM (asgM (metM "Pages" "page" (getL 0) (consM (getL 1) (ret [])) (callP 2 F_Pages_page)) (setL 2))
    (seqM (dropM (popE1 (bnd (getL 0) (fldM "Pages" "standing")) (getL 1)))
    (dropM (nPopE wd (bnd (getL 0) (fldM "Pages" "known")) (altM (metM0 "Leaf" "told" (getL 2) (callP 1 F_Page_told)) (metM0 "Twig" "told" (getL 2) (callP 1 F_Page_told)))))))
noncomputable def F_Pages_drop (wd : World) : Sf := runS 3 (g_Pages_drop wd)
theorem ok_Pages_drop {P : Program} {wd : World} {K : PySem.W.Frag} {mg : Str → Option Value} {base : Heap} (T : Txt K mg) {x : Str} (F : TopM K x "drop" "Pages.drop" s_Pages_drop ["self", "number"]) (m_Pages_page : Met P wd K mg base "Pages" "page" 1 (SpP K 2 F_Pages_page)) (m_Leaf_told : Met P wd K mg base "Leaf" "told" 2 (SpP K 1 F_Page_told)) (m_Twig_told : Met P wd K mg base "Twig" "told" 2 (SpP K 1 F_Page_told)) : Met P wd K mg base x "drop" 3 (SpS K 2 (F_Pages_drop wd)) :=
  F.fnS sc_Pages_drop (by decide) fun f cdv A outer s H E hr =>
    ((dss_cons (ds_set 2 (met_call T.cl_Pages m_Pages_page ans_P (hr.mono (by decide)) (de_v 0) (da_cons (de_v 1) da_nil)) sc_Pages_drop.nd)
    (dss_cons (ds_expr (de_pop1 (de_fld T.cl_Pages T.na_Pages_standing (de_v 0)) (de_v 1)))
    (dss_one (ds_expr (de_npop (units_of hr) (de_fld T.cl_Pages T.na_Pages_known (de_v 0)) (de_alt (met_call0 T.cl_Leaf m_Leaf_told ans_P (hr.mono (by decide)) (de_v 2)) (met_call0 T.cl_Twig m_Twig_told ans_P (hr.mono (by decide)) (de_v 2)))))))) : DSs _ W0 (defBody s_Pages_drop) (g_Pages_drop wd))
abbrev s_l_whole : Stmt := topS 11
theorem sc_l_whole : FnScope ["_law_found"] ["_law_found"] (defScope s_l_whole) := ⟨rfl, rfl, rfl, by decide +kernel, rfl, by decide +kernel, by decide +kernel⟩
noncomputable def g_l_whole : M Out :=
    (retM (andV (bnd (getL 0) (isaM "int")) (notV (bnd (getL 0) (isaM "bool")))))
noncomputable def F_l_whole : Pf := runP 1 g_l_whole
theorem ok_l_whole {P : Program} {wd : World} {K : PySem.W.Frag} {mg : Str → Option Value} {base : Heap} (T : Txt K mg) (F : Top K mg "_law_whole" s_l_whole ["_law_found"])  :
    FnP P wd K mg base "_law_whole" 1 1 F_l_whole :=
  F.fn sc_l_whole (by decide) fun f cdv A outer s H E hr =>
    ((dss_one (ds_ret (de_and (de_isa "int" T.b_isinstance T.b_int (de_v 0) (by decide +kernel)) (de_one (de_not (de_isa "bool" T.b_isinstance T.b_bool (de_v 0) (by decide +kernel))))))) : DSs _ W0 (defBody s_l_whole) g_l_whole)
abbrev s_l_content : Stmt := topS 12
theorem sc_l_content : FnScope ["_law_cell", "_law_many", "_law_start", "_law_more", "_law_k"] ["_law_cell"] (defScope s_l_content) := ⟨rfl, rfl, rfl, by decide +kernel, rfl, by decide +kernel, by decide +kernel⟩
noncomputable def c_l_content_1 : M Cell :=
    (lcM (bnd (consM (getL 1) (ret [])) ran1I) 4 yesM (tupM (consM (bin addM (getL 2) (getL 4)) (consM (tupM (consM (tupM (consM (ret (.str "ab")) (consM (bin addM (bin mulM (getL 2) (getL 4)) (getL 3)) (ret [])))) (ret []))) (ret [])))))
noncomputable def c_l_content_2 : M Cell :=
    (lcM (bnd (consM (getL 1) (ret [])) ran1I) 4 yesM (tupM (consM (bin addM (getL 2) (getL 4)) (consM (bin addM (bin addM (bin divM (getL 0) (ret (.int 54))) (getL 4)) (getL 3)) (ret [])))))
noncomputable def g_l_content : M Out :=
    (seqM (asgM (bin modM (getL 0) (bin powM (ret (.int 10)) (ret (.int 20)))) (setL 0))
    (seqM (ifM (tst (bin gtM (bin modM (getL 0) (ret (.int 3))) (ret (.int 0)))) (asgM (bin modM (getL 0) (ret (.int 24))) (setL 0)) (ret .nx))
    (seqM (asgM (bin addM (ret (.int 1)) (bin modM (bin divM (getL 0) (ret (.int 3))) (ret (.int 3)))) (setL 1))
    (seqM (asgM (bin subM (bin divM (getL 0) (ret (.int 9))) (ret (.int 5))) (setL 2))
    (seqM (asgM (bin modM (bin divM (getL 0) (ret (.int 7))) (ret (.int 5))) (setL 3))
    (seqM (ifM (tst (bin eqM (bin modM (getL 0) (ret (.int 2))) (ret (.int 0)))) (retM (tupM (consM (ret (.int 0)) (consM (bnd (consM (frzM c_l_content_1) (ret [])) tupleM) (ret []))))) (ret .nx))
    (retM (tupM (consM (bin addM (ret (.int 1)) (bin modM (bin divM (getL 0) (ret (.int 5))) (ret (.int 6)))) (consM (bnd (consM (frzM c_l_content_2) (ret [])) tupleM) (ret [])))))))))))
noncomputable def F_l_content : Pf := runP 5 g_l_content
theorem ok_l_content {P : Program} {wd : World} {K : PySem.W.Frag} {mg : Str → Option Value} {base : Heap} (T : Txt K mg) (F : Top K mg "_law_content" s_l_content ["_law_cell"])  :
    FnP P wd K mg base "_law_content" 1 1 F_l_content :=
  F.fn sc_l_content (by decide) fun f cdv A outer s H E hr =>
    ((dss_cons (ds_set 0 (de_mod (de_v 0) (de_pow de_int de_int)) sc_l_content.nd)
    (dss_cons (ds_if (dt_cmp op_gt rop_gt (de_mod (de_v 0) de_int) de_int) (dss_one (ds_set 0 (de_mod (de_v 0) de_int) sc_l_content.nd)) dss_nil)
    (dss_cons (ds_set 1 (de_add de_int (de_mod (de_div (de_v 0) de_int) de_int)) sc_l_content.nd)
    (dss_cons (ds_set 2 (de_sub (de_div (de_v 0) de_int) de_int) sc_l_content.nd)
    (dss_cons (ds_set 3 (de_mod (de_div (de_v 0) de_int) de_int) sc_l_content.nd)
    (dss_cons (ds_if (dt_cmp (op_eqA (units_of hr)) rop_eq (de_mod (de_v 0) de_int) de_int) (dss_one (ds_ret (de_tup (da_cons de_int (da_cons (de_callT call_tupleC rc_tuple T.b_tuple (da_cons (de_frz (dn_lc rfl sc_l_content.nd (di_range1 T.b_range (da_cons (de_v 1) da_nil)) (blkOk_by (own := [("_law_k", 4)]) (N := ["_law_cell", "_law_many", "_law_start", "_law_more", "_law_k"]) (sc := defScope s_l_content) (by decide +kernel)) (fun _ _ _ _ _ => pg_n (i := 4) sc_l_content.nd) (fun _ _ _ _ _ => tests_nil) (fun _ _ _ _ _ => (de_tup (da_cons (de_add (de_v 2) (de_v 4)) (da_cons (de_tup (da_cons (de_tup (da_cons de_str (da_cons (de_add (de_mul (de_v 2) (de_v 4)) (de_v 3)) da_nil))) da_nil)) da_nil)))))) da_nil) (by decide +kernel)) da_nil))))) dss_nil)
    (dss_one (ds_ret (de_tup (da_cons (de_add de_int (de_mod (de_div (de_v 0) de_int) de_int)) (da_cons (de_callT call_tupleC rc_tuple T.b_tuple (da_cons (de_frz (dn_lc rfl sc_l_content.nd (di_range1 T.b_range (da_cons (de_v 1) da_nil)) (blkOk_by (own := [("_law_k", 4)]) (N := ["_law_cell", "_law_many", "_law_start", "_law_more", "_law_k"]) (sc := defScope s_l_content) (by decide +kernel)) (fun _ _ _ _ _ => pg_n (i := 4) sc_l_content.nd) (fun _ _ _ _ _ => tests_nil) (fun _ _ _ _ _ => (de_tup (da_cons (de_add (de_v 2) (de_v 4)) (da_cons (de_add (de_add (de_div (de_v 0) de_int) (de_v 4)) (de_v 3)) da_nil)))))) da_nil) (by decide +kernel)) da_nil))))))))))) : DSs _ W0 (defBody s_l_content) g_l_content)
abbrev s_l_made : Stmt := topS 13
theorem sc_l_made : FnScope ["_law_told"] ["_law_told"] (defScope s_l_made) := ⟨rfl, rfl, rfl, by decide +kernel, rfl, by decide +kernel, by decide +kernel⟩
noncomputable def g_l_made : M Out :=
    (seqM (ifM (tst (bin eqM (bin ixAM (getL 0) (ret (.int 0))) (ret (.int 0)))) (retM (bnd (consM (frzM (bnd (consM (bin ixAM (getL 0) (ret (.int 1))) (ret [])) listN)) (ret [])) (makeM "Leaf" 2 F_Leaf_init))) (ret .nx))
    (retM (bnd (consM (bin ixAM (getL 0) (ret (.int 0))) (consM (frzM (bnd (consM (bin ixAM (getL 0) (ret (.int 1))) (ret [])) listN)) (ret []))) (makeM "Twig" 3 F_Twig_init))))
noncomputable def F_l_made : Sf := runS 1 g_l_made
theorem ok_l_made {P : Program} {wd : World} {K : PySem.W.Frag} {mg : Str → Option Value} {base : Heap} (T : Txt K mg) (F : Top K mg "_law_made" s_l_made ["_law_told"]) (mk_Leaf : MkQ P wd K mg base "Leaf" 2 (SpS K 2 F_Leaf_init)) (mk_Twig : MkQ P wd K mg base "Twig" 2 (SpS K 3 F_Twig_init)) :
    FnS P wd K mg base "_law_made" 1 4 F_l_made :=
  F.fnS sc_l_made (by decide) fun f cdv A outer s H E hr =>
    ((dss_cons (ds_if (dt_cmp (op_eqA (units_of hr)) rop_eq (de_ixA (hu_of hr) (de_v 0) de_int) de_int) (dss_one (ds_ret (de_make mk_Leaf (hr.mono (by decide)) (da_cons (de_frz (dn_callT call_list_of rc_list T.b_list (da_cons (de_ixA (hu_of hr) (de_v 0) de_int) da_nil) (by decide +kernel))) da_nil)))) dss_nil)
    (dss_one (ds_ret (de_make mk_Twig (hr.mono (by decide)) (da_cons (de_ixA (hu_of hr) (de_v 0) de_int) (da_cons (de_frz (dn_callT call_list_of rc_list T.b_list (da_cons (de_ixA (hu_of hr) (de_v 0) de_int) da_nil) (by decide +kernel))) da_nil)))))) : DSs _ W0 (defBody s_l_made) g_l_made)
noncomputable def gx_Pages_page : M Out :=
    (seqM (ifM (tst (bin ninAM (getL 1) (bnd (getL 0) (fldM "Pages" "standing")))) (bnd (consM (getL 1) (ret [])) (raiseM "NoPage" ["number"])) (ret .nx))
    (retM (bin ixAM (bnd (getL 0) (fldM "Pages" "standing")) (getL 1))))
noncomputable def X_Pages_page : Xf := runXP 2 gx_Pages_page
theorem okx_Pages_page {P : Program} {wd : World} {K : PySem.W.Frag} {mg : Str → Option Value} {base : Heap} (T : Txt K mg) {x : Str} (F : TopM K x "page" "Pages.page" s_Pages_page ["self", "number"]) (e1_NoPage : Xc1 P wd K mg base "NoPage" ["number"] 1) : MetX P wd K mg base x "page" 2 3 X_Pages_page :=
  F.fnXP sc_Pages_page (by decide) fun f cdv A outer s H E hr =>
    ((dss_cons (ds_if (dt_ninA (units_of hr) (de_v 1) (de_fld T.cl_Pages T.na_Pages_standing (de_v 0))) (dss_one (ds_raise1 e1_NoPage (by decide) (by decide) (L2.takes_of rfl rfl rfl rfl) (hr.mono (by decide)) (da_cons (de_v 1) da_nil))) dss_nil)
    (dss_one (ds_ret (de_ixA (hu_of hr) (de_fld T.cl_Pages T.na_Pages_standing (de_v 0)) (de_v 1))))) : DSs _ (LE K mg E) (defBody s_Pages_page) gx_Pages_page)
noncomputable def gx_Pages_card : M Out :=
    (seqM (asgM (metM "Pages" "page" (getL 0) (consM (getL 1) (ret [])) (callX 2 X_Pages_page)) (setL 2))
    (retM (tupM (consM (altM (bnd (getL 2) (fldM "Leaf" "level")) (bnd (getL 2) (fldM "Twig" "level"))) (consM (altM (metM0 "Leaf" "first" (getL 2) (callP 1 F_Page_first)) (metM0 "Twig" "first" (getL 2) (callP 1 F_Page_first))) (ret []))))))
noncomputable def X_Pages_card : Xf := runXP 3 gx_Pages_card
theorem okx_Pages_card {P : Program} {wd : World} {K : PySem.W.Frag} {mg : Str → Option Value} {base : Heap} (T : Txt K mg) {x : Str} (F : TopM K x "card" "Pages.card" s_Pages_card ["self", "number"]) (m_Leaf_first : Met P wd K mg base "Leaf" "first" 2 (SpP K 1 F_Page_first)) (m_Twig_first : Met P wd K mg base "Twig" "first" 2 (SpP K 1 F_Page_first)) (mx_Pages_page : MetX P wd K mg base "Pages" "page" 2 3 X_Pages_page) : MetX P wd K mg base x "card" 2 4 X_Pages_card :=
  F.fnXP sc_Pages_card (by decide) fun f cdv A outer s H E hr =>
    ((dss_cons (ds_set 2 (de_metX T.cl_Pages mx_Pages_page (L2.takes_of rfl rfl rfl rfl) (hr.mono (by decide)) (de_v 0) (da_cons (de_v 1) da_nil)) sc_Pages_card.nd)
    (dss_one (ds_ret (de_tup (da_cons (de_alt (de_fld T.cl_Leaf T.na_Leaf_level (de_v 2)) (de_fld T.cl_Twig T.na_Twig_level (de_v 2))) (da_cons (de_alt (met_call0 T.cl_Leaf m_Leaf_first ans_P (hr.mono (by decide)) (de_v 2)) (met_call0 T.cl_Twig m_Twig_first ans_P (hr.mono (by decide)) (de_v 2))) da_nil)))))) : DSs _ (LE K mg E) (defBody s_Pages_card) gx_Pages_card)
noncomputable def gx_Pages_drop (wd : World) : M Out :=
    (seqM (asgM (metM "Pages" "page" (getL 0) (consM (getL 1) (ret [])) (callX 2 X_Pages_page)) (setL 2))
    (seqM (dropM (popE1 (bnd (getL 0) (fldM "Pages" "standing")) (getL 1)))
    (dropM (nPopE wd (bnd (getL 0) (fldM "Pages" "known")) (altM (metM0 "Leaf" "told" (getL 2) (callP 1 F_Page_told)) (metM0 "Twig" "told" (getL 2) (callP 1 F_Page_told)))))))
noncomputable def X_Pages_drop (wd : World) : Xf := runXS 3 (gx_Pages_drop wd)
theorem okx_Pages_drop {P : Program} {wd : World} {K : PySem.W.Frag} {mg : Str → Option Value} {base : Heap} (T : Txt K mg) {x : Str} (F : TopM K x "drop" "Pages.drop" s_Pages_drop ["self", "number"]) (m_Leaf_told : Met P wd K mg base "Leaf" "told" 2 (SpP K 1 F_Page_told)) (m_Twig_told : Met P wd K mg base "Twig" "told" 2 (SpP K 1 F_Page_told)) (mx_Pages_page : MetX P wd K mg base "Pages" "page" 2 3 X_Pages_page) : MetX P wd K mg base x "drop" 2 4 (X_Pages_drop wd) :=
  F.fnXS sc_Pages_drop (by decide) fun f cdv A outer s H E hr =>
    ((dss_cons (ds_set 2 (de_metX T.cl_Pages mx_Pages_page (L2.takes_of rfl rfl rfl rfl) (hr.mono (by decide)) (de_v 0) (da_cons (de_v 1) da_nil)) sc_Pages_drop.nd)
    (dss_cons (ds_expr (de_pop1 (de_fld T.cl_Pages T.na_Pages_standing (de_v 0)) (de_v 1)))
    (dss_one (ds_expr (de_npop (units_of hr) (de_fld T.cl_Pages T.na_Pages_known (de_v 0)) (de_alt (met_call0 T.cl_Leaf m_Leaf_told ans_P (hr.mono (by decide)) (de_v 2)) (met_call0 T.cl_Twig m_Twig_told ans_P (hr.mono (by decide)) (de_v 2)))))))) : DSs _ (LE K mg E) (defBody s_Pages_drop) (gx_Pages_drop wd))
abbrev s_l_refused : Stmt := topS 14
theorem sc_l_refused : FnScope ["_law_store", "_law_way", "_law_number", "_law_found", "e"] ["_law_store", "_law_way", "_law_number"] (defScope s_l_refused) := ⟨rfl, rfl, rfl, by decide +kernel, rfl, by decide +kernel, by decide +kernel⟩
noncomputable def g_l_refused (wd : World) : M Out :=
    (seqM (asgM (ret .non) (setL 3))
    (seqM (tryM (ifM (tst (bin eqM (getL 1) (ret (.int 0)))) (dropM (metM "Pages" "page" (getL 0) (consM (getL 2) (ret [])) (callX 2 X_Pages_page))) (ifM (tst (bin eqM (getL 1) (ret (.int 1)))) (dropM (metM "Pages" "card" (getL 0) (consM (getL 2) (ret [])) (callX 2 X_Pages_card))) (dropM (metM "Pages" "drop" (getL 0) (consM (getL 2) (ret [])) (callX 2 (X_Pages_drop wd)))))) [("NoPage", true)] (suM 4 3 fun e => (tupX (consX (fun _ => if e.cls = "NoPage" then e.fs.lookup ("number" : Str) else none) (consX (fun _ => (List.lookup e.cls ([("NoPage", true)] : List (Str × Bool))).map .bl) (consX (fun _ => (List.lookup e.cls ([("NoPage", true)] : List (Str × Bool))).map .bl) (consX (fun _ => (List.lookup e.cls ([("NoPage", false)] : List (Str × Bool))).map .bl) (fun _ => some []))))))))
    (retM (bin eqM (getL 3) (tupM (consM (getL 2) (consM (ret (.bl true)) (consM (ret (.bl true)) (consM (ret (.bl false)) (ret []))))))))))
noncomputable def F_l_refused (wd : World) : Sf := runS 5 (g_l_refused wd)
theorem ok_l_refused {P : Program} {wd : World} {K : PySem.W.Frag} {mg : Str → Option Value} {base : Heap} (T : Txt K mg) (F : Top K mg "_law_refused" s_l_refused ["_law_store", "_law_way", "_law_number"]) (mx_Pages_page : MetX P wd K mg base "Pages" "page" 2 3 X_Pages_page) (mx_Pages_card : MetX P wd K mg base "Pages" "card" 2 4 X_Pages_card) (mx_Pages_drop : MetX P wd K mg base "Pages" "drop" 2 4 (X_Pages_drop wd)) :
    FnS P wd K mg base "_law_refused" 3 5 (F_l_refused wd) :=
  F.fnS sc_l_refused (by decide) fun f cdv A outer s H E hr =>
    ((dss_cons (ds_set 3 de_non sc_l_refused.nd)
    (dss_cons (ds_try_as (i := 4) (j := 3) (n := "e") (v := fun e => (tupX (consX (fun _ => if e.cls = "NoPage" then e.fs.lookup ("number" : Str) else none) (consX (fun _ => (List.lookup e.cls ([("NoPage", true)] : List (Str × Bool))).map .bl) (consX (fun _ => (List.lookup e.cls ([("NoPage", true)] : List (Str × Bool))).map .bl) (consX (fun _ => (List.lookup e.cls ([("NoPage", false)] : List (Str × Bool))).map .bl) (fun _ => some []))))))) outW0 takes0 (.cons T.xp_NoPage_NoPage .nil) T.xn_NoPage (by decide) (fun W' pn xe tk po => (dss_one (ds_if (dt_cmp (op_eqA (units_of hr)) rop_eq (de_v 1) de_int) (dss_one (ds_expr (de_metX T.cl_Pages mx_Pages_page tk (hr.mono (by decide)) (de_v 0) (da_cons (de_v 2) da_nil)))) (dss_one (ds_if (dt_cmp (op_eqA (units_of hr)) rop_eq (de_v 1) de_int) (dss_one (ds_expr (de_metX T.cl_Pages mx_Pages_card tk (hr.mono (by decide)) (de_v 0) (da_cons (de_v 2) da_nil)))) (dss_one (ds_expr (de_metX T.cl_Pages mx_Pages_drop tk (hr.mono (by decide)) (de_v 0) (da_cons (de_v 2) da_nil))))))))) (fun a oe cls d pn e hz hf => (dx_tup (dxl_cons (dx_fld T.xf_NoPage_number hz hf) (dxl_cons (dx_is (T := "TableError") (tab := [("NoPage", true)]) (.cons T.xi_NoPage_TableError .nil) hz hf T.b_isinstance) (dxl_cons (dx_isB (T := "ValueError") (tab := [("NoPage", true)]) (.cons T.xb_NoPage_ValueError .nil) hz hf T.b_isinstance T.b_ValueError (by decide +kernel)) (dxl_cons (dx_is (T := "NoMake") (tab := [("NoPage", false)]) (.cons T.xi_NoPage_NoMake .nil) hz hf T.b_isinstance) dxl_nil)))))) sc_l_refused.nd)
    (dss_one (ds_ret (de_cmp (op_eqA (units_of hr)) rop_eq (de_v 3) (de_tup (da_cons (de_v 2) (da_cons de_bl (da_cons de_bl (da_cons de_bl da_nil)))))))))) : DSs _ W0 (defBody s_l_refused) (g_l_refused wd))
abbrev s_l_page_as : Stmt := topS 15
theorem sc_l_page_as : FnScope ["_law_store", "_law_number", "_law_told", "_law_page", "_law_card"] ["_law_store", "_law_number", "_law_told"] (defScope s_l_page_as) := ⟨rfl, rfl, rfl, by decide +kernel, rfl, by decide +kernel, by decide +kernel⟩
noncomputable def g_l_page_as : M Out :=
    (seqM (asgM (metM "Pages" "page" (getL 0) (consM (getL 1) (ret [])) (callP 2 F_Pages_page)) (setL 3))
    (seqM (asgM (metM "Pages" "card" (getL 0) (consM (getL 1) (ret [])) (callP 2 F_Pages_card)) (setL 4))
    (seqM (ifM (orT (notT (tst (altM (bnd (getL 3) (isoM "Leaf" true)) (bnd (getL 3) (isoM "Twig" true))))) (orT (tst (bin neM (altM (metM0 "Leaf" "told" (getL 3) (callP 1 F_Page_told)) (metM0 "Twig" "told" (getL 3) (callP 1 F_Page_told))) (getL 2))) (tst (bin neM (altM (bnd (getL 3) (isoM "Leaf" true)) (bnd (getL 3) (isoM "Twig" false))) (bin eqM (bin ixAM (getL 2) (ret (.int 0))) (ret (.int 0))))))) (retM (ret (.bl false))) (ret .nx))
    (retM (andV (bnd (getL 4) (isaM "tuple")) (bin eqM (getL 4) (tupM (consM (bin ixAM (getL 2) (ret (.int 0))) (consM (bin ixAM (bin ixAM (bin ixAM (getL 2) (ret (.int 1))) (ret (.int 0))) (ret (.int 0))) (ret []))))))))))
noncomputable def F_l_page_as : Pf := runP 5 g_l_page_as
theorem ok_l_page_as {P : Program} {wd : World} {K : PySem.W.Frag} {mg : Str → Option Value} {base : Heap} (T : Txt K mg) (F : Top K mg "_law_page_as" s_l_page_as ["_law_store", "_law_number", "_law_told"]) (m_Pages_page : Met P wd K mg base "Pages" "page" 1 (SpP K 2 F_Pages_page)) (m_Pages_card : Met P wd K mg base "Pages" "card" 3 (SpP K 2 F_Pages_card)) (m_Leaf_told : Met P wd K mg base "Leaf" "told" 2 (SpP K 1 F_Page_told)) (m_Twig_told : Met P wd K mg base "Twig" "told" 2 (SpP K 1 F_Page_told)) :
    FnP P wd K mg base "_law_page_as" 3 4 F_l_page_as :=
  F.fn sc_l_page_as (by decide) fun f cdv A outer s H E hr =>
    ((dss_cons (ds_set 3 (met_call T.cl_Pages m_Pages_page ans_P (hr.mono (by decide)) (de_v 0) (da_cons (de_v 1) da_nil)) sc_l_page_as.nd)
    (dss_cons (ds_set 4 (met_call T.cl_Pages m_Pages_card ans_P (hr.mono (by decide)) (de_v 0) (da_cons (de_v 1) da_nil)) sc_l_page_as.nd)
    (dss_cons (ds_if (dt_w (dw_or (dt_not (dt_val (de_alt (de_iso2 T.cl_Leaf T.is_Leaf_Leaf T.is_Leaf_Twig T.b_isinstance (de_v 3)) (de_iso2 T.cl_Twig T.is_Twig_Leaf T.is_Twig_Twig T.b_isinstance (de_v 3))))) (dw_or (dt_cmp (op_neA (units_of hr)) rop_ne (de_alt (met_call0 T.cl_Leaf m_Leaf_told ans_P (hr.mono (by decide)) (de_v 3)) (met_call0 T.cl_Twig m_Twig_told ans_P (hr.mono (by decide)) (de_v 3))) (de_v 2)) (dw_or1 (dt_cmp (op_neA (units_of hr)) rop_ne (de_alt (de_iso T.cl_Leaf T.is_Leaf_Leaf T.b_isinstance (de_v 3)) (de_iso T.cl_Twig T.is_Twig_Leaf T.b_isinstance (de_v 3))) (de_cmp (op_eqA (units_of hr)) rop_eq (de_ixA (hu_of hr) (de_v 2) de_int) de_int)))))) (dss_one (ds_ret de_bl)) dss_nil)
    (dss_one (ds_ret (de_and (de_isa "tuple" T.b_isinstance T.b_tuple (de_v 4) (by decide +kernel)) (de_one (de_cmp (op_eqA (units_of hr)) rop_eq (de_v 4) (de_tup (da_cons (de_ixA (hu_of hr) (de_v 2) de_int) (da_cons (de_ixA (hu_of hr) (de_ixA (hu_of hr) (de_ixA (hu_of hr) (de_v 2) de_int) de_int) de_int) da_nil))))))))))) : DSs _ W0 (defBody s_l_page_as) g_l_page_as)
abbrev s_l_kept : Stmt := topS 16
theorem sc_l_kept : FnScope ["_law_store", "_law_account", "_law_told", "_law_due", "_law_number", "_law_found"] ["_law_store", "_law_account", "_law_told"] (defScope s_l_kept) := ⟨rfl, rfl, rfl, by decide +kernel, rfl, by decide +kernel, by decide +kernel⟩
noncomputable def b_l_kept_1 (wd : World) : M Out :=
    (ifM (tst (bin eqM (bin ixAM (bin ixAM (getL 1) (ret (.int 0))) (getL 4)) (getL 2))) (asgM (getL 4) (setL 3)) (ret .nx))
noncomputable def r_l_kept_1 (wd : World) : M Out :=
    (seqM (asgM (metM "Pages" "kept" (getL 0) (consM (bnd (consM (getL 2) (ret [])) (callS 1 F_l_made)) (ret [])) (callS 2 (F_Pages_kept wd))) (setL 5))
    (seqM (ifM (orT (notT (tst (bnd (consM (getL 5) (ret [])) (callP 1 F_l_whole)))) (tst (bin neM (getL 5) (getL 3)))) (retM (ret (.bl false))) (ret .nx))
    (seqM (ifM (tst (bin eqM (getL 3) (bin ixAM (getL 1) (ret (.int 1))))) (seqM (altM (lputS (bin ixAM (getL 1) (ret (.int 0))) (getL 3) (getL 2)) (dputS (bin ixAM (getL 1) (ret (.int 0))) (getL 3) (getL 2)))
    (altM (lputS (getL 1) (ret (.int 1)) (bin addM (getL 3) (ret (.int 1)))) (dputS (getL 1) (ret (.int 1)) (bin addM (getL 3) (ret (.int 1)))))) (ret .nx))
    (retM (ret (.bl true))))))
noncomputable def g_l_kept (wd : World) : M Out :=
    (seqM (asgM (bin ixAM (getL 1) (ret (.int 1))) (setL 3))
    (seqM (lockP 1 0 (forM (bnd (bin ixAM (getL 1) (ret (.int 0))) keysI) (setL 4) (b_l_kept_1 wd)))
    (r_l_kept_1 wd)))
noncomputable def F_l_kept (wd : World) : Sf := runS 6 (g_l_kept wd)
theorem ok_l_kept {P : Program} {wd : World} {K : PySem.W.Frag} {mg : Str → Option Value} {base : Heap} (T : Txt K mg) (F : Top K mg "_law_kept" s_l_kept ["_law_store", "_law_account", "_law_told"]) (c_l_made : FnS P wd K mg base "_law_made" 1 4 F_l_made) (c_l_whole : FnP P wd K mg base "_law_whole" 1 1 F_l_whole) (m_Pages_kept : Met P wd K mg base "Pages" "kept" 3 (SpS K 2 (F_Pages_kept wd))) :
    FnS P wd K mg base "_law_kept" 3 5 (F_l_kept wd) :=
  F.fnS sc_l_kept (by decide) fun f cdv A outer s H E hr =>
    ((dss_cons (ds_set 3 (de_ixA (hu_of hr) (de_v 1) de_int) sc_l_kept.nd)
    (dss_cons (ds_lockP 1 0 (ds_for PassesOwn.never rfl (di_keys (de_ixA (hu_of hr) (de_v 1) de_int)) (dg_name sc_l_kept.nd) (dss_one (ds_if (dt_cmp (op_eqA (units_of hr)) rop_eq (de_ixA (hu_of hr) (de_ixA (hu_of hr) (de_v 1) de_int) (de_v 4)) (de_v 2)) (dss_one (ds_set 3 (de_v 4) sc_l_kept.nd)) dss_nil))))
    (dss_cons (ds_set 5 (met_call T.cl_Pages m_Pages_kept ans_S (hr.mono (by decide)) (de_v 0) (da_cons (de_callS c_l_made (hr.mono (by decide)) (da_cons (de_v 2) da_nil)) da_nil)) sc_l_kept.nd)
    (dss_cons (ds_if (dt_w (dw_or (dt_not (dt_val (de_callP c_l_whole (hr.mono (by decide)) (da_cons (de_v 5) da_nil)))) (dw_or1 (dt_cmp (op_neA (units_of hr)) rop_ne (de_v 5) (de_v 3))))) (dss_one (ds_ret de_bl)) dss_nil)
    (dss_cons (ds_if (dt_cmp (op_eqA (units_of hr)) rop_eq (de_v 3) (de_ixA (hu_of hr) (de_v 1) de_int)) (dss_cons (ds_alt (ds_lput (de_ixA (hu_of hr) (de_v 1) de_int) (de_v 3) (de_v 2)) (ds_dput (hu_of hr) (de_ixA (hu_of hr) (de_v 1) de_int) (de_v 3) (de_v 2)))
    (dss_one (ds_alt (ds_lput (de_v 1) de_int (de_add (de_v 3) de_int)) (ds_dput (hu_of hr) (de_v 1) de_int (de_add (de_v 3) de_int))))) dss_nil)
    (dss_one (ds_ret de_bl))))))) : DSs _ W0 (defBody s_l_kept) (g_l_kept wd))
abbrev s_l_deed : Stmt := topS 17
theorem sc_l_deed : FnScope ["_law_store", "_law_account", "_law_cell", "_law_way", "_law_number", "_law_standing", "_law_count"] ["_law_store", "_law_account", "_law_cell"] (defScope s_l_deed) := ⟨rfl, rfl, rfl, by decide +kernel, rfl, by decide +kernel, by decide +kernel⟩
noncomputable def r_l_deed_1 (wd : World) : M Out :=
    (seqM (ifM (tst (bin ninAM (getL 4) (bin ixAM (getL 1) (ret (.int 0))))) (retM (bnd (consM (getL 0) (consM (ret (.int 2)) (consM (getL 4) (ret [])))) (callS 3 (F_l_refused wd)))) (ret .nx))
    (seqM (dropM (popE1 (bin ixAM (getL 1) (ret (.int 0))) (getL 4)))
    (retM (bin isM (metM "Pages" "drop" (getL 0) (consM (getL 4) (ret [])) (callS 2 (F_Pages_drop wd))) (ret .non)))))
noncomputable def r_l_deed_2 (wd : World) : M Out :=
    (seqM (ifM (tst (bin ninAM (getL 4) (bin ixAM (getL 1) (ret (.int 0))))) (retM (bnd (consM (getL 0) (consM (bin modM (bin divM (getL 2) (ret (.int 6))) (ret (.int 2))) (consM (getL 4) (ret [])))) (callS 3 (F_l_refused wd)))) (ret .nx))
    (retM (bnd (consM (getL 0) (consM (getL 4) (consM (bin ixAM (bin ixAM (getL 1) (ret (.int 0))) (getL 4)) (ret [])))) (callP 3 F_l_page_as))))
noncomputable def r_l_deed_3 (wd : World) : M Out :=
    (seqM (ifM (tst (bin eqM (getL 3) (ret (.int 4)))) (seqM (asgM (bnd (consM (ret (.int 0)) (consM (bin subM (bin addM (bin ixAM (getL 1) (ret (.int 1))) (bin modM (bin divM (getL 2) (ret (.int 6))) (ret (.int 9)))) (ret (.int 4))) (ret []))) max2M) (setL 6))
    (seqM (ifM (andT (tst (bin eqM (bin modM (bin divM (getL 2) (ret (.int 54))) (ret (.int 9))) (ret (.int 4)))) (tst (bin ltAM (bin ixAM (getL 1) (ret (.int 1))) (bin powM (ret (.int 10)) (ret (.int 28)))))) (asgM (bin addM (bin ixAM (getL 1) (ret (.int 1))) (bin modM (bin divM (getL 2) (ret (.int 486))) (bin powM (ret (.int 10)) (ret (.int 28))))) (setL 6)) (ret .nx))
    (seqM (lputS (getL 1) (ret (.int 1)) (bnd (consM (bin ixAM (getL 1) (ret (.int 1))) (consM (getL 6) (ret []))) max2M))
    (retM (bin isM (metM "Pages" "skip" (getL 0) (consM (getL 6) (ret [])) (callS 2 F_Pages_skip)) (ret .non)))))) (ret .nx))
    (r_l_deed_2 wd))
noncomputable def r_l_deed_4 (wd : World) : M Out :=
    (seqM (ifM (tst (bin eqM (getL 3) (ret (.int 3)))) (r_l_deed_1 wd) (ret .nx))
    (r_l_deed_3 wd))
noncomputable def r_l_deed_5 (wd : World) : M Out :=
    (seqM (ifM (tst (bin ltAM (getL 3) (ret (.int 3)))) (retM (bnd (consM (getL 0) (consM (getL 1) (consM (bnd (consM (bin divM (getL 2) (ret (.int 6))) (ret [])) (callP 1 F_l_content)) (ret [])))) (callS 3 (F_l_kept wd)))) (ret .nx))
    (r_l_deed_4 wd))
noncomputable def g_l_deed (wd : World) : M Out :=
    (seqM (asgM (bin modM (getL 2) (ret (.int 6))) (setL 3))
    (seqM (asgM (bin subM (bin modM (bin divM (getL 2) (ret (.int 6))) (bin addM (bin modM (bin ixAM (getL 1) (ret (.int 1))) (ret (.int 1000))) (ret (.int 5)))) (ret (.int 2))) (setL 4))
    (seqM (ifM (tst (bin gtM (bin ixAM (getL 1) (ret (.int 1))) (ret (.int 1000)))) (asgM (bin subM (bin addM (bin ixAM (getL 1) (ret (.int 1))) (ret (.int 1))) (bin modM (bin divM (getL 2) (ret (.int 6))) (ret (.int 70)))) (setL 4)) (ret .nx))
    (seqM (asgM (frzM (bnd (consM (bin ixAM (getL 1) (ret (.int 0))) (ret [])) sortDM)) (setL 5))
    (seqM (ifM (andT (tst (bin eqM (bin modM (bin divM (getL 2) (ret (.int 420))) (ret (.int 2))) (ret (.int 1)))) (tst (bin gtM (bnd (consM (getL 5) (ret [])) lenM) (ret (.int 0))))) (asgM (bin ixAM (getL 5) (bin modM (bin divM (getL 2) (ret (.int 840))) (bnd (consM (getL 5) (ret [])) lenM))) (setL 4)) (ret .nx))
    (r_l_deed_5 wd))))))
noncomputable def F_l_deed (wd : World) : Sf := runS 7 (g_l_deed wd)
theorem ok_l_deed {P : Program} {wd : World} {K : PySem.W.Frag} {mg : Str → Option Value} {base : Heap} (T : Txt K mg) (F : Top K mg "_law_deed" s_l_deed ["_law_store", "_law_account", "_law_cell"]) (c_l_kept : FnS P wd K mg base "_law_kept" 3 5 (F_l_kept wd)) (c_l_content : FnP P wd K mg base "_law_content" 1 1 F_l_content) (c_l_refused : FnS P wd K mg base "_law_refused" 3 5 (F_l_refused wd)) (c_l_page_as : FnP P wd K mg base "_law_page_as" 3 4 F_l_page_as) (m_Pages_drop : Met P wd K mg base "Pages" "drop" 3 (SpS K 2 (F_Pages_drop wd))) (m_Pages_skip : Met P wd K mg base "Pages" "skip" 1 (SpS K 2 F_Pages_skip)) :
    FnS P wd K mg base "_law_deed" 3 6 (F_l_deed wd) :=
  F.fnS sc_l_deed (by decide) fun f cdv A outer s H E hr =>
    ((dss_cons (ds_set 3 (de_mod (de_v 2) de_int) sc_l_deed.nd)
    (dss_cons (ds_set 4 (de_sub (de_mod (de_div (de_v 2) de_int) (de_add (de_mod (de_ixA (hu_of hr) (de_v 1) de_int) de_int) de_int)) de_int) sc_l_deed.nd)
    (dss_cons (ds_if (dt_cmp op_gt rop_gt (de_ixA (hu_of hr) (de_v 1) de_int) de_int) (dss_one (ds_set 4 (de_sub (de_add (de_ixA (hu_of hr) (de_v 1) de_int) de_int) (de_mod (de_div (de_v 2) de_int) de_int)) sc_l_deed.nd)) dss_nil)
    (dss_cons (ds_set 5 (de_frz (dn_sortDA T.b_sorted (da_cons (de_ixA (hu_of hr) (de_v 1) de_int) da_nil))) sc_l_deed.nd)
    (dss_cons (ds_if (dt_w (dw_and (dt_cmp (op_eqA (units_of hr)) rop_eq (de_mod (de_div (de_v 2) de_int) de_int) de_int) (dw_and1 (dt_cmp op_gt rop_gt (de_len T.b_len (da_cons (de_v 5) da_nil)) de_int)))) (dss_one (ds_set 4 (de_ixA (hu_of hr) (de_v 5) (de_mod (de_div (de_v 2) de_int) (de_len T.b_len (da_cons (de_v 5) da_nil)))) sc_l_deed.nd)) dss_nil)
    (dss_cons (ds_if (dt_cmp (op_ltA (units_of hr)) rop_ltA (de_v 3) de_int) (dss_one (ds_ret (de_callS c_l_kept (hr.mono (by decide)) (da_cons (de_v 0) (da_cons (de_v 1) (da_cons (de_callP c_l_content (hr.mono (by decide)) (da_cons (de_div (de_v 2) de_int) da_nil)) da_nil)))))) dss_nil)
    (dss_cons (ds_if (dt_cmp (op_eqA (units_of hr)) rop_eq (de_v 3) de_int) (dss_cons (ds_if (dt_ninA (units_of hr) (de_v 4) (de_ixA (hu_of hr) (de_v 1) de_int)) (dss_one (ds_ret (de_callS c_l_refused (hr.mono (by decide)) (da_cons (de_v 0) (da_cons de_int (da_cons (de_v 4) da_nil)))))) dss_nil)
    (dss_cons (ds_expr (de_pop1 (de_ixA (hu_of hr) (de_v 1) de_int) (de_v 4)))
    (dss_one (ds_ret (de_cmp op_isN rop_is (met_call T.cl_Pages m_Pages_drop ans_S (hr.mono (by decide)) (de_v 0) (da_cons (de_v 4) da_nil)) de_non))))) dss_nil)
    (dss_cons (ds_if (dt_cmp (op_eqA (units_of hr)) rop_eq (de_v 3) de_int) (dss_cons (ds_set 6 (de_callB (call_max2 rfl) rc_max2 T.b_max (da_cons de_int (da_cons (de_sub (de_add (de_ixA (hu_of hr) (de_v 1) de_int) (de_mod (de_div (de_v 2) de_int) de_int)) de_int) da_nil)) (by decide +kernel)) sc_l_deed.nd)
    (dss_cons (ds_if (dt_w (dw_and (dt_cmp (op_eqA (units_of hr)) rop_eq (de_mod (de_div (de_v 2) de_int) de_int) de_int) (dw_and1 (dt_cmp (op_ltA (units_of hr)) rop_ltA (de_ixA (hu_of hr) (de_v 1) de_int) (de_pow de_int de_int))))) (dss_one (ds_set 6 (de_add (de_ixA (hu_of hr) (de_v 1) de_int) (de_mod (de_div (de_v 2) de_int) (de_pow de_int de_int))) sc_l_deed.nd)) dss_nil)
    (dss_cons (ds_lput (de_v 1) de_int (de_callB (call_max2 rfl) rc_max2 T.b_max (da_cons (de_ixA (hu_of hr) (de_v 1) de_int) (da_cons (de_v 6) da_nil)) (by decide +kernel)))
    (dss_one (ds_ret (de_cmp op_isN rop_is (met_call T.cl_Pages m_Pages_skip ans_S (hr.mono (by decide)) (de_v 0) (da_cons (de_v 6) da_nil)) de_non)))))) dss_nil)
    (dss_cons (ds_if (dt_ninA (units_of hr) (de_v 4) (de_ixA (hu_of hr) (de_v 1) de_int)) (dss_one (ds_ret (de_callS c_l_refused (hr.mono (by decide)) (da_cons (de_v 0) (da_cons (de_mod (de_div (de_v 2) de_int) de_int) (da_cons (de_v 4) da_nil)))))) dss_nil)
    (dss_one (ds_ret (de_callP c_l_page_as (hr.mono (by decide)) (da_cons (de_v 0) (da_cons (de_v 4) (da_cons (de_ixA (hu_of hr) (de_ixA (hu_of hr) (de_v 1) de_int) (de_v 4)) da_nil))))))))))))))) : DSs _ W0 (defBody s_l_deed) (g_l_deed wd))
abbrev s_l_whole_store : Stmt := topS 18
theorem sc_l_whole_store : FnScope ["_law_store", "_law_account", "_law_found", "_law_number"] ["_law_store", "_law_account"] (defScope s_l_whole_store) := ⟨rfl, rfl, rfl, by decide +kernel, rfl, by decide +kernel, by decide +kernel⟩
noncomputable def b_l_whole_store_1 (wd : World) : M Out :=
    (ifM (notT (tst (bnd (consM (getL 0) (consM (getL 3) (consM (bin ixAM (bin ixAM (getL 1) (ret (.int 0))) (getL 3)) (ret [])))) (callP 3 F_l_page_as)))) (retM (ret (.bl false))) (ret .nx))
noncomputable def r_l_whole_store_1 (wd : World) : M Out :=
    (seqM (dropM (methM "list" (getL 2) (consM (bin ixAM (getL 1) (ret (.int 1))) (ret [])) appM))
    (seqM (lockP 1 0 (forM (bnd (bin ixAM (getL 1) (ret (.int 0))) keysI) (setL 3) (b_l_whole_store_1 wd)))
    (retM (andV (bin eqM (frzM (metM0 "Pages" "numbers" (getL 0) (callN 1 F_Pages_numbers))) (frzM (bnd (consM (bin ixAM (getL 1) (ret (.int 0))) (ret [])) sortDM))) (bnd (consM (getL 0) (consM (ret (.int 0)) (consM (bin ixAM (getL 1) (ret (.int 1))) (ret [])))) (callS 3 (F_l_refused wd)))))))
noncomputable def g_l_whole_store (wd : World) : M Out :=
    (seqM (asgM (ownM (metM0 "Pages" "numbers" (getL 0) (callN 1 F_Pages_numbers))) (setL 2))
    (seqM (ifM (orT (notT (tst (bnd (getL 2) (isaM "list")))) (tst (bin neM (getL 2) (frzM (bnd (consM (bin ixAM (getL 1) (ret (.int 0))) (ret [])) sortDM))))) (retM (ret (.bl false))) (ret .nx))
    (seqM (ifM (orT (notT (tst (bnd (consM (metM0 "Pages" "dealt" (getL 0) (callP 1 F_Pages_dealt)) (ret [])) (callP 1 F_l_whole)))) (tst (bin neM (metM0 "Pages" "dealt" (getL 0) (callP 1 F_Pages_dealt)) (bin ixAM (getL 1) (ret (.int 1)))))) (retM (ret (.bl false))) (ret .nx))
    (r_l_whole_store_1 wd))))
noncomputable def F_l_whole_store (wd : World) : Pf := runP 4 (g_l_whole_store wd)
theorem ok_l_whole_store {P : Program} {wd : World} {K : PySem.W.Frag} {mg : Str → Option Value} {base : Heap} (T : Txt K mg) (F : Top K mg "_law_whole_store" s_l_whole_store ["_law_store", "_law_account"]) (c_l_whole : FnP P wd K mg base "_law_whole" 1 1 F_l_whole) (c_l_page_as : FnP P wd K mg base "_law_page_as" 3 4 F_l_page_as) (c_l_refused : FnS P wd K mg base "_law_refused" 3 5 (F_l_refused wd)) (m_Pages_numbers : Met P wd K mg base "Pages" "numbers" 1 (SpN K 1 F_Pages_numbers)) (m_Pages_dealt : Met P wd K mg base "Pages" "dealt" 1 (SpP K 1 F_Pages_dealt)) :
    FnP P wd K mg base "_law_whole_store" 2 6 (F_l_whole_store wd) :=
  F.fn sc_l_whole_store (by decide) fun f cdv A outer s H E hr =>
    ((dss_cons (ds_set 2 (de_own (met_call0 T.cl_Pages m_Pages_numbers ans_N (hr.mono (by decide)) (de_v 0))) sc_l_whole_store.nd)
    (dss_cons (ds_if (dt_w (dw_or (dt_not (dt_val (de_isa "list" T.b_isinstance T.b_list (de_v 2) (by decide +kernel)))) (dw_or1 (dt_cmp (op_neA (units_of hr)) rop_ne (de_v 2) (de_frz (dn_sortDA T.b_sorted (da_cons (de_ixA (hu_of hr) (de_v 1) de_int) da_nil))))))) (dss_one (ds_ret de_bl)) dss_nil)
    (dss_cons (ds_if (dt_w (dw_or (dt_not (dt_val (de_callP c_l_whole (hr.mono (by decide)) (da_cons (met_call0 T.cl_Pages m_Pages_dealt ans_P (hr.mono (by decide)) (de_v 0)) da_nil)))) (dw_or1 (dt_cmp (op_neA (units_of hr)) rop_ne (met_call0 T.cl_Pages m_Pages_dealt ans_P (hr.mono (by decide)) (de_v 0)) (de_ixA (hu_of hr) (de_v 1) de_int))))) (dss_one (ds_ret de_bl)) dss_nil)
    (dss_cons (ds_expr (de_append (de_v 2) (da_cons (de_ixA (hu_of hr) (de_v 1) de_int) da_nil)))
    (dss_cons (ds_lockP 1 0 (ds_for PassesOwn.never rfl (di_keys (de_ixA (hu_of hr) (de_v 1) de_int)) (dg_name sc_l_whole_store.nd) (dss_one (ds_if (dt_not (dt_val (de_callP c_l_page_as (hr.mono (by decide)) (da_cons (de_v 0) (da_cons (de_v 3) (da_cons (de_ixA (hu_of hr) (de_ixA (hu_of hr) (de_v 1) de_int) (de_v 3)) da_nil)))))) (dss_one (ds_ret de_bl)) dss_nil))))
    (dss_one (ds_ret (de_and (de_cmp (op_eqA (units_of hr)) rop_eq (de_frz (met_call0 T.cl_Pages m_Pages_numbers ans_N (hr.mono (by decide)) (de_v 0))) (de_frz (dn_sortDA T.b_sorted (da_cons (de_ixA (hu_of hr) (de_v 1) de_int) da_nil)))) (de_one (de_callS c_l_refused (hr.mono (by decide)) (da_cons (de_v 0) (da_cons de_int (da_cons (de_ixA (hu_of hr) (de_v 1) de_int) da_nil))))))))))))) : DSs _ W0 (defBody s_l_whole_store) (g_l_whole_store wd))
abbrev s_law : Stmt := topS 19
theorem sc_law : FnScope ["_law_script", "_law_stores", "_law_accounts", "_law_cell", "_law_which"] ["_law_script"] (defScope s_law) := ⟨rfl, rfl, rfl, by decide +kernel, rfl, by decide +kernel, by decide +kernel⟩
noncomputable def b_law_1 (wd : World) : M Out :=
    (seqM (asgM (bin divM (bin modM (getL 3) (ret (.int 7))) (ret (.int 5))) (setL 4))
    (seqM (ifM (notT (tst (bnd (consM (bin ixAM (getL 1) (getL 4)) (consM (bin ixAM (getL 2) (getL 4)) (consM (bin divM (getL 3) (ret (.int 7))) (ret [])))) (callS 3 (F_l_deed wd))))) (retM (ret (.bl false))) (ret .nx))
    (ifM (tst (bin neM (metM0 "Pages" "dealt" (bin ixAM (getL 1) (getL 4)) (callP 1 F_Pages_dealt)) (bin ixAM (bin ixAM (getL 2) (getL 4)) (ret (.int 1))))) (retM (ret (.bl false))) (ret .nx))))
noncomputable def r_law_1 (wd : World) : M Out :=
    (seqM (forM (bnd (slM (getL 0) (ret none) (partM (ret (.int 60)))) seqI) (setL 3) (b_law_1 wd))
    (retM (andV (bnd (consM (bin ixAM (getL 1) (ret (.int 0))) (consM (bin ixAM (getL 2) (ret (.int 0))) (ret []))) (callP 2 (F_l_whole_store wd))) (bnd (consM (bin ixAM (getL 1) (ret (.int 1))) (consM (bin ixAM (getL 2) (ret (.int 1))) (ret []))) (callP 2 (F_l_whole_store wd))))))
noncomputable def g_law (wd : World) : M Out :=
    (seqM (asgM (frzM (lstN (consM (makeM "Pages" 1 (F_Pages_init wd) []) (consM (makeM "Pages" 1 (F_Pages_init wd) []) (ret []))))) (setL 1))
    (seqM (asgM (frzM (lstN (consM (ownM (lstN (consM (ownM (ret (.dct []))) (consM (ret (.int 0)) (ret []))))) (consM (ownM (lstN (consM (ownM (ret (.dct []))) (consM (ret (.int 0)) (ret []))))) (ret []))))) (setL 2))
    (r_law_1 wd)))
noncomputable def F_law (wd : World) : Pf := runP 5 (g_law wd)
theorem ok_law {P : Program} {wd : World} {K : PySem.W.Frag} {mg : Str → Option Value} (T : Txt K mg) (F : Top K mg "law" s_law ["_law_script"])
    (C : ∀ base : Heap, K.In base → base.Ns mainGlobals mg → FnS P wd K mg base "_law_deed" 3 6 (F_l_deed wd) ∧ FnP P wd K mg base "_law_whole_store" 2 6 (F_l_whole_store wd) ∧ Met P wd K mg base "Pages" "dealt" 1 (SpP K 1 F_Pages_dealt) ∧ MkQ P wd K mg base "Pages" 1 (SpS K 1 (F_Pages_init wd)) ∧ True) :
    ∃ (fa : Addr) (fd : FuncData), mg "law" = some (.ref fa) ∧ (∀ (s : Shared) (u : Value), BindsTo s fd ⟨[u], []⟩ [("_law_script", u)]) ∧ ∀ base : Heap, K.In base → base.Ns mainGlobals mg → FnOk P wd K mg base CX0 7 fa fd ["_law_script"] (SpP K 1 (F_law wd)) :=
  F.law sc_law (by decide) fun base X0 G0 f cdv A outer s H E hr => let ⟨c_l_deed, c_l_whole_store, m_Pages_dealt, mk_Pages, _⟩ := C base X0 G0
    ((dss_cons (ds_set 1 (de_frz (dn_lst (da_cons (de_make0 mk_Pages (hr.mono (by decide))) (da_cons (de_make0 mk_Pages (hr.mono (by decide))) da_nil)))) sc_law.nd)
    (dss_cons (ds_set 2 (de_frz (dn_lst (da_cons (de_own (dn_lst (da_cons (de_own dn_dict0) (da_cons de_int da_nil)))) (da_cons (de_own (dn_lst (da_cons (de_own dn_dict0) (da_cons de_int da_nil)))) da_nil)))) sc_law.nd)
    (dss_cons (ds_for PassesOwn.never rfl (di_seq (de_sl (de_v 0) do_none (do_some de_int))) (dg_name sc_law.nd) (dss_cons (ds_set 4 (de_div (de_mod (de_v 3) de_int) de_int) sc_law.nd)
    (dss_cons (ds_if (dt_not (dt_val (de_callS c_l_deed (hr.mono (by decide)) (da_cons (de_ixA (hu_of hr) (de_v 1) (de_v 4)) (da_cons (de_ixA (hu_of hr) (de_v 2) (de_v 4)) (da_cons (de_div (de_v 3) de_int) da_nil)))))) (dss_one (ds_ret de_bl)) dss_nil)
    (dss_one (ds_if (dt_cmp (op_neA (units_of hr)) rop_ne (met_call0 T.cl_Pages m_Pages_dealt ans_P (hr.mono (by decide)) (de_ixA (hu_of hr) (de_v 1) (de_v 4))) (de_ixA (hu_of hr) (de_ixA (hu_of hr) (de_v 2) (de_v 4)) de_int)) (dss_one (ds_ret de_bl)) dss_nil)))))
    (dss_one (ds_ret (de_and (de_callP c_l_whole_store (hr.mono (by decide)) (da_cons (de_ixA (hu_of hr) (de_v 1) de_int) (da_cons (de_ixA (hu_of hr) (de_v 2) de_int) da_nil))) (de_one (de_callP c_l_whole_store (hr.mono (by decide)) (da_cons (de_ixA (hu_of hr) (de_v 1) de_int) (da_cons (de_ixA (hu_of hr) (de_v 2) de_int) da_nil)))))))))) : DSs _ W0 (defBody s_law) (g_law wd))
end Wktwigtable_k13_a_store

namespace My
open PySem PySem.Spec PyProof.Rows L2 Fx Wktwigtable_k13_a_store
local macro_rules | `(tactic| walk_at "fy") => `(tactic| simp (disch := first | rfl | decide | omega | assumption | (simp only [List.length_append, List.length_cons, List.length_nil, List.length_take, List.length_drop, List.length_map]; omega)) only [x_unp2, x_unp3, x_unpP, x_lputS, x_getE1, x_getE2, x_popE1, x_popE2, x_updE, x_onD, x_npop, x_revT, x_revL, keyD_int, keyD_str, x_alt, x_altO, x_altB, x_altI, x_at0, x_at1, x_at2, x_at3, x_st0, x_st1, x_st2, x_fld, x_fldS, x_sto, x_met, x_metK, x_met0, x_metK0, x_callN, x_callNR, x_callS, x_callSR, x_make, x_mkR, x_ixC, x_ixCd, x_ixCl, x_ixAL, x_ixAT, x_ixAS, x_ixD, x_dstR, x_inC, x_ninC, x_inS, x_ninS, x_inCd, x_inCl, x_inL, x_ninL, x_dputS, x_dput, x_dputT, x_dputR, x_pair, x_keyI, x_keyS, x_dsp, x_merge1, x_isTyC, x_intB, x_intI, x_neg, x_maxl, x_minl, Int.reduceEq, Int.reduceMod, Int.reduceAdd, Int.reduceSub, Int.reduceMul, Int.reduceLT, Int.reduceLE, x_ran1, x_ran2, eq_self, x_lstO, x_isTyR, x_app, x_appR, x_meth0, x_clrC, x_clrR, x_seqC, x_seqCR, x_lenC, x_lenR, x_lenRd, x_isaC, x_isaR, x_isaRd, x_sortSet, x_lk0, x_lk1, x_lk2, x_lk3, x_lk4, x_eqIs, x_neIs, List.append_assoc, List.length_append, Nat.reduceLeDiff, x_min2, x_max2, beq_true, beq_false, x_lisL, x_lisT, litD, Option.isSome_some, Option.isSome_none, x_bnd, x_ok, x_ret, x_fail, x_ite, x_iteM, x_bad, x_get, x_look, x_set, x_seq, x_nx, x_rt, x_brk, x_cnt, x_bad2, x_ite2, x_asg, x_retM, x_drop, x_if, x_itM, x_asB, x_bin, x_tst, x_and, x_or, x_not, x_andT, x_orT, x_notT, x_cons, x_call, x_callR, x_isa, x_sub, x_add, x_mul, x_mod, x_div, x_pow, x_lt, x_le, x_gt, x_ge, x_eqI, x_neI, x_true, x_false, x_aug, x_augF, x_forM, x_frz, x_lst, x_tup, x_lenL, x_ixL, x_ixT, x_opt, x_slL, x_slM, x_slVL, x_slVTx, x_part, x_lenTx, x_addTx, cutS_take, cutS_drop, cutS_drop1, x_seqL, x_seqT,
  initS, List.map_cons, List.map_nil, List.length_cons, List.length_nil, List.cons_append, List.nil_append, List.append_nil, tyName, x_join, x_slS, x_eqS, x_neS, x_eqB, x_neB, tx_app, tx_len, x_is1, x_is2, x_is3, x_is4, x_is5, x_isn1, x_isn2, x_isn3, x_isn4, x_isn5, x_meth, isTy_last, x_own, cd_nil, isa_int_NoneType, isa_int_bool, isa_int_int, isa_int_str, isa_int_tuple, isa_int_list, isa_int_dict, isa_bool_NoneType, isa_bool_bool, isa_bool_int, isa_bool_str, isa_bool_tuple, isa_bool_list, isa_bool_dict, isa_str_NoneType, isa_str_bool, isa_str_int, isa_str_str, isa_str_tuple, isa_str_list, isa_str_dict, isa_tuple_NoneType, isa_tuple_bool, isa_tuple_int, isa_tuple_str, isa_tuple_tuple, isa_tuple_list, isa_tuple_dict, isa_list_NoneType, isa_list_bool, isa_list_int, isa_list_str, isa_list_tuple, isa_list_list, isa_list_dict, isa_dict_NoneType, isa_dict_bool, isa_dict_int, isa_dict_str, isa_dict_tuple, isa_dict_list, isa_dict_dict, decide_eq_true_eq, decide_true, decide_false, Nat.reduceAdd, Nat.reduceSub, Nat.zero_add, List.replicate, List.replicate_succ, List.replicate_zero, List.getElem?_cons_zero, List.getElem?_cons_succ, List.set_cons_zero, List.set_cons_succ, Bool.not_true, Bool.not_false, if_true, if_false, Bool.false_eq_true, ite_true, ite_false, beq_self_eq_true, Bool.or_true, Bool.true_or, Bool.or_false, Bool.false_or, Bool.and_true, Bool.and_false, Bool.true_and, Bool.false_and, Int.reduceToNat])
local macro_rules | `(tactic| walk_at "fyh") => `(tactic| simp (disch := first | rfl | decide | omega | assumption | (simp only [List.length_append, List.length_cons, List.length_nil, List.length_take, List.length_drop, List.length_map]; omega)) only [*, x_unp2, x_unp3, x_unpP, x_lputS, x_getE1, x_getE2, x_popE1, x_popE2, x_updE, x_onD, x_npop, x_revT, x_revL, keyD_int, keyD_str, x_alt, x_altO, x_altB, x_altI, x_at0, x_at1, x_at2, x_at3, x_st0, x_st1, x_st2, x_fld, x_fldS, x_sto, x_met, x_metK, x_met0, x_metK0, x_callN, x_callNR, x_callS, x_callSR, x_make, x_mkR, x_ixC, x_ixCd, x_ixCl, x_ixAL, x_ixAT, x_ixAS, x_ixD, x_dstR, x_inC, x_ninC, x_inS, x_ninS, x_inCd, x_inCl, x_inL, x_ninL, x_dputS, x_dput, x_dputT, x_dputR, x_pair, x_keyI, x_keyS, x_dsp, x_merge1, x_isTyC, x_intB, x_intI, x_neg, x_maxl, x_minl, Int.reduceEq, Int.reduceMod, Int.reduceAdd, Int.reduceSub, Int.reduceMul, Int.reduceLT, Int.reduceLE, x_ran1, x_ran2, eq_self, x_lstO, x_isTyR, x_app, x_appR, x_meth0, x_clrC, x_clrR, x_seqC, x_seqCR, x_lenC, x_lenR, x_lenRd, x_isaC, x_isaR, x_isaRd, x_sortSet, x_lk0, x_lk1, x_lk2, x_lk3, x_lk4, x_eqIs, x_neIs, List.append_assoc, List.length_append, Nat.reduceLeDiff, x_min2, x_max2, beq_true, beq_false, x_lisL, x_lisT, litD, Option.isSome_some, Option.isSome_none, x_bnd, x_ok, x_ret, x_fail, x_ite, x_iteM, x_bad, x_get, x_look, x_set, x_seq, x_nx, x_rt, x_brk, x_cnt, x_bad2, x_ite2, x_asg, x_retM, x_drop, x_if, x_itM, x_asB, x_bin, x_tst, x_and, x_or, x_not, x_andT, x_orT, x_notT, x_cons, x_call, x_callR, x_isa, x_sub, x_add, x_mul, x_mod, x_div, x_pow, x_lt, x_le, x_gt, x_ge, x_eqI, x_neI, x_true, x_false, x_aug, x_augF, x_forM, x_frz, x_lst, x_tup, x_lenL, x_ixL, x_ixT, x_opt, x_slL, x_slM, x_slVL, x_slVTx, x_part, x_lenTx, x_addTx, cutS_take, cutS_drop, cutS_drop1, x_seqL, x_seqT,
  initS, List.map_cons, List.map_nil, List.length_cons, List.length_nil, List.cons_append, List.nil_append, List.append_nil, tyName, x_join, x_slS, x_eqS, x_neS, x_eqB, x_neB, tx_app, tx_len, x_is1, x_is2, x_is3, x_is4, x_is5, x_isn1, x_isn2, x_isn3, x_isn4, x_isn5, x_meth, isTy_last, x_own, cd_nil, isa_int_NoneType, isa_int_bool, isa_int_int, isa_int_str, isa_int_tuple, isa_int_list, isa_int_dict, isa_bool_NoneType, isa_bool_bool, isa_bool_int, isa_bool_str, isa_bool_tuple, isa_bool_list, isa_bool_dict, isa_str_NoneType, isa_str_bool, isa_str_int, isa_str_str, isa_str_tuple, isa_str_list, isa_str_dict, isa_tuple_NoneType, isa_tuple_bool, isa_tuple_int, isa_tuple_str, isa_tuple_tuple, isa_tuple_list, isa_tuple_dict, isa_list_NoneType, isa_list_bool, isa_list_int, isa_list_str, isa_list_tuple, isa_list_list, isa_list_dict, isa_dict_NoneType, isa_dict_bool, isa_dict_int, isa_dict_str, isa_dict_tuple, isa_dict_list, isa_dict_dict, decide_eq_true_eq, decide_true, decide_false, Nat.reduceAdd, Nat.reduceSub, Nat.zero_add, List.replicate, List.replicate_succ, List.replicate_zero, List.getElem?_cons_zero, List.getElem?_cons_succ, List.set_cons_zero, List.set_cons_succ, Bool.not_true, Bool.not_false, if_true, if_false, Bool.false_eq_true, ite_true, ite_false, beq_self_eq_true, Bool.or_true, Bool.true_or, Bool.or_false, Bool.false_or, Bool.and_true, Bool.and_false, Bool.true_and, Bool.false_and, Int.reduceToNat])
/-! numbers, keys, entries -/
theorem lgI (x : Int) (h : -(2 ^ 400) < x) (h2 : x < 2 ^ 400) : x.natAbs.log2 < 400 := log2_of (by decide) (by omega)
inductive Ky where
  | int (n : Int)
  | str (cs : List Nat)
@[reducible] def Ky.d : Ky → D
  | .int n => .int n
  | .str cs => .str (tx cs)
def Ky.ok : Ky → Prop
  | .int n => n.natAbs.log2 < 400
  | .str cs => cs.length ≤ 40 ∧ ∀ c ∈ cs, c < 128
abbrev Ent := Ky × D
@[reducible] def ent (e : Ent) : D := .tup [e.1.d, e.2]
/-! pages of both kinds -/
theorem at_hd (d : D) (r : List D) : atI (d :: r) 0 = some d := by
  unfold atI
  rw [show ixN (d :: r).length 0 = some 0 by rw [List.length_cons]; simp [ixN]]
  rfl
theorem at_snd (d e : D) (r : List D) : atI (d :: e :: r) 1 = some e := by
  unfold atI
  rw [show ixN (d :: e :: r).length 1 = some 1 by rw [List.length_cons, List.length_cons]; simp [ixN] <;> omega]
  rfl
def leafO (l : Int) (rs : List D) : Cell := .obj "Leaf" [("level", .int l), ("rows", .tup rs)]
def twigO (l : Int) (rs : List D) : Cell := .obj "Twig" [("level", .int l), ("heads", .tup rs)]
def pgO (a b : Nat) (n : Int) : Cell := .obj "Pages" [("standing", .cell a), ("known", .cell b), ("coming", .int n)]
section
variable {l n : Int} {rs : List D} {s : S} {v u : D} {i a b : Nat}
theorem pf_1 : fldR "Leaf" "level" (some (leafO l rs)) s = .ok (.int l) s := nr rfl
theorem pf_2 : fldR "Leaf" "rows" (some (leafO l rs)) s = .ok (.tup rs) s := nr rfl
theorem pf_3 : fldR "Twig" "level" (some (twigO l rs)) s = .ok (.int l) s := nr rfl
theorem pf_4 : fldR "Twig" "heads" (some (twigO l rs)) s = .ok (.tup rs) s := nr rfl
theorem pf_5 : fldR "Leaf" "level" (some (twigO l rs)) s = .bad := nr rfl
theorem ps_1 : stoR "Leaf" "level" v i (some (.obj "Leaf" [])) s = .ok .nx ⟨s.loc, s.vh.set i (.obj "Leaf" [("level", v)])⟩ := nr rfl
theorem ps_2 : stoR "Leaf" "level" v i (some (.obj "Twig" [])) s = .bad := nr rfl
theorem ps_3 : stoR "Twig" "level" v i (some (.obj "Twig" [])) s = .ok .nx ⟨s.loc, s.vh.set i (.obj "Twig" [("level", v)])⟩ := nr rfl
theorem ps_4 : stoR "Leaf" "rows" (.tup rs) i (some (.obj "Leaf" [("level", .int l)])) s = .ok .nx ⟨s.loc, s.vh.set i (leafO l rs)⟩ := nr rfl
theorem ps_5 : stoR "Twig" "heads" (.tup rs) i (some (.obj "Twig" [("level", .int l)])) s = .ok .nx ⟨s.loc, s.vh.set i (twigO l rs)⟩ := nr rfl
theorem ps_6 : stoR "Pages" "standing" v i (some (.obj "Pages" [])) s = .ok .nx ⟨s.loc, s.vh.set i (.obj "Pages" [("standing", v)])⟩ := nr rfl
theorem ps_7 : stoR "Pages" "known" v i (some (.obj "Pages" [("standing", u)])) s = .ok .nx ⟨s.loc, s.vh.set i (.obj "Pages" [("standing", u), ("known", v)])⟩ := nr rfl
theorem ps_8 : stoR "Pages" "coming" (.int n) i (some (.obj "Pages" [("standing", .cell a), ("known", .cell b)])) s = .ok .nx ⟨s.loc, s.vh.set i (pgO a b n)⟩ := nr rfl
theorem pg_1 : fldR "Pages" "standing" (some (pgO a b n)) s = .ok (.cell a) s := nr rfl
theorem pg_2 : fldR "Pages" "known" (some (pgO a b n)) s = .ok (.cell b) s := nr rfl
theorem pg_3 : fldR "Pages" "coming" (some (pgO a b n)) s = .ok (.int n) s := nr rfl
theorem pg_4 {m : Int} : stoR "Pages" "coming" (.int m) i (some (pgO a b n)) s = .ok .nx ⟨s.loc, s.vh.set i (pgO a b m)⟩ := nr rfl
end
section
variable {α : Type} {l n : Int} {rs : List D} {r : Res α} {a b : Nat}
theorem pm_1 : metR "Leaf" "told" (some (leafO l rs)) r = r := nr rfl
theorem pm_2 : metR "Leaf" "entries" (some (leafO l rs)) r = r := nr rfl
theorem pm_3 : metR "Leaf" "first" (some (leafO l rs)) r = r := nr rfl
theorem pm_4 : metR "Leaf" "many" (some (leafO l rs)) r = r := nr rfl
theorem pm_5 : metR "Leaf" "under" (some (leafO l rs)) r = r := nr rfl
theorem pm_6 : metR "Leaf" "spread" (some (leafO l rs)) r = r := nr rfl
theorem pm_7 : metR "Twig" "told" (some (twigO l rs)) r = r := nr rfl
theorem pm_8 : metR "Twig" "entries" (some (twigO l rs)) r = r := nr rfl
theorem pm_9 : metR "Twig" "first" (some (twigO l rs)) r = r := nr rfl
theorem pm_10 : metR "Twig" "many" (some (twigO l rs)) r = r := nr rfl
theorem pm_11 : metR "Twig" "under" (some (twigO l rs)) r = r := nr rfl
theorem pm_12 {m : Str} : metR "Leaf" m (some (twigO l rs)) r = .bad := nr rfl
theorem pn_1 : metR "Pages" "kept" (some (pgO a b n)) r = r := nr rfl
theorem pn_2 : metR "Pages" "page" (some (pgO a b n)) r = r := nr rfl
theorem pn_3 : metR "Pages" "card" (some (pgO a b n)) r = r := nr rfl
theorem pn_4 : metR "Pages" "numbers" (some (pgO a b n)) r = r := nr rfl
theorem pn_5 : metR "Pages" "dealt" (some (pgO a b n)) r = r := nr rfl
theorem pn_6 : metR "Pages" "skip" (some (pgO a b n)) r = r := nr rfl
theorem pn_7 : metR "Pages" "drop" (some (pgO a b n)) r = r := nr rfl
end
local macro_rules | `(tactic| walk_at "fp") => `(tactic| ((try walk_at "fyh"); repeat (simp (disch := first | assumption | omega) only [x_lenT, x_extT, x_extL, x_extR, x_nput, pf_1, pf_2, pf_3, pf_4, pf_5, ps_1, ps_2, ps_3, ps_4, ps_5, ps_6, ps_7, ps_8, pg_1, pg_2, pg_3, pg_4, pm_1, pm_2, pm_3, pm_4, pm_5, pm_6, pm_7, pm_8, pm_9, pm_10, pm_11, pm_12, pn_1, pn_2, pn_3, pn_4, pn_5, pn_6, pn_7, at_hd, at_snd]; try walk_at "fyh")))
section
variable {vh : List Cell} {l n : Int} {rs : List D} {i j a b : Nat}
theorem t_pinitL : F_Page_init [.cell vh.length, .int l] (vh ++ [.obj "Leaf" []]) = some (.non, vh ++ [.obj "Leaf" [("level", .int l)]]) := by
  refine runS_nx ?_
  unfold g_Page_init
  walk_at "fp"
  exact ⟨_, rfl⟩
theorem t_pinitT : F_Page_init [.cell vh.length, .int l] (vh ++ [.obj "Twig" []]) = some (.non, vh ++ [.obj "Twig" [("level", .int l)]]) := by
  refine runS_nx ?_
  unfold g_Page_init
  walk_at "fp"
  exact ⟨_, rfl⟩
theorem t_leaf {d : D} (hd : ∀ l c, tupleM [d] ⟨l, vh ++ [c]⟩ = .ok (.tup rs) ⟨l, vh ++ [c]⟩) : F_Leaf_init [.cell vh.length, d] (vh ++ [.obj "Leaf" []]) = some (.non, vh ++ [leafO 0 rs]) := by
  refine runS_nx ?_
  have e1 := t_pinitL (vh := vh) (l := 0)
  unfold g_Leaf_init
  walk_at "fp"
  exact ⟨_, rfl⟩
theorem t_twig {d : D} (hd : ∀ l c, tupleM [d] ⟨l, vh ++ [c]⟩ = .ok (.tup rs) ⟨l, vh ++ [c]⟩) : F_Twig_init [.cell vh.length, .int l, d] (vh ++ [.obj "Twig" []]) = some (.non, vh ++ [twigO l rs]) := by
  refine runS_nx ?_
  have e1 := t_pinitT (vh := vh) (l := l)
  unfold g_Twig_init
  walk_at "fp"
  exact ⟨_, rfl⟩
theorem t_pages (wd : World) : F_Pages_init wd [.cell vh.length] (vh ++ [.obj "Pages" []]) = some (.non, vh ++ [pgO (vh.length + 1) (vh.length + 2) 0, .dct [], .dctN wd []]) := by
  refine runS_nx ?_
  unfold g_Pages_init
  walk_at "fp"
  exact ⟨_, rfl⟩
theorem t_entL (h : vh[i]? = some (leafO l rs)) (hn : ncL vh.length rs = true) : F_Leaf_entries [.cell i] vh = some (.tup rs) := by
  refine runP_of ?_ hn
  unfold g_Leaf_entries
  walk_at "fp"
  exact ⟨_, rfl⟩
theorem t_entT (h : vh[i]? = some (twigO l rs)) (hn : ncL vh.length rs = true) : F_Twig_entries [.cell i] vh = some (.tup rs) := by
  refine runP_of ?_ hn
  unfold g_Twig_entries
  walk_at "fp"
  exact ⟨_, rfl⟩
theorem t_toldL (h : vh[i]? = some (leafO l rs)) (hn : ncL vh.length rs = true) : F_Page_told [.cell i] vh = some (.tup [.int l, .tup rs]) := by
  have e1 := t_entL h hn
  refine runP_of ?_ (show (nc vh.length (.int l) && (ncL vh.length rs && true)) = true by rw [hn]; rfl)
  unfold g_Page_told
  walk_at "fp"
  exact ⟨_, rfl⟩
theorem t_toldT (h : vh[i]? = some (twigO l rs)) (hn : ncL vh.length rs = true) : F_Page_told [.cell i] vh = some (.tup [.int l, .tup rs]) := by
  have e1 := t_entT h hn
  refine runP_of ?_ (show (nc vh.length (.int l) && (ncL vh.length rs && true)) = true by rw [hn]; rfl)
  unfold g_Page_told
  walk_at "fp"
  exact ⟨_, rfl⟩
end
/-! plain trees of tuples -/
inductive T0 : Nat → D → Prop
  | non {n : Nat} : T0 n .non
  | int {n : Nat} (i : Int) : T0 n (.int i)
  | tx {n : Nat} {cs : List Nat} (h : ∀ c ∈ cs, c < 1114112) : T0 n (.str (tx cs))
  | tup {n : Nat} {ds : List D} (h : ∀ d ∈ ds, T0 n d) : T0 (n + 1) (.tup ds)
theorem T0.mono {n m : Nat} {d : D} (h : T0 n d) : n ≤ m → T0 m d := by
  induction h generalizing m with
  | non => exact fun _ => .non
  | int i => exact fun _ => .int i
  | tx h => exact fun _ => .tx h
  | tup h ih =>
    intro hm
    cases m with
    | zero => omega
    | succ m => exact .tup fun d hd => ih d hd (by omega)
theorem T0.eqd {n : Nat} {d : D} (h : T0 n d) : Eqd n d := by
  induction h with
  | non => exact .non
  | int i => exact .int i
  | tx h => exact .tx h
  | tup h ih => exact .tup ih
theorem ncL_all {b : Nat} : ∀ {ds : List D}, (∀ d ∈ ds, nc b d = true) → ncL b ds = true
  | [], _ => rfl
  | d :: r, h => by
    show (nc b d && ncL b r) = true
    rw [h d List.mem_cons_self, ncL_all fun e he => h e (List.mem_cons_of_mem _ he)]
    rfl
theorem T0.nc {n b : Nat} {d : D} (h : T0 n d) : Fx.nc b d = true := by
  induction h with
  | tup h ih => exact ncL_all ih
  | _ => rfl
theorem nkL_all {n : Nat} : ∀ {ds : List D}, (∀ d ∈ ds, ∃ q, nkD d = some q ∧ q.depth ≤ n) → ∃ qs, nkL ds = some qs ∧ ∀ q ∈ qs, q.depth ≤ n
  | [], _ => ⟨[], rfl, by simp⟩
  | d :: r, h => by
    obtain ⟨q, h1, h2⟩ := h d List.mem_cons_self
    obtain ⟨qs, h3, h4⟩ := nkL_all fun e he => h e (List.mem_cons_of_mem _ he)
    refine ⟨q :: qs, by unfold nkL; rw [h1, h3], fun x hx => ?_⟩
    rcases List.mem_cons.mp hx with rfl | hx
    · exact h2
    · exact h4 x hx
theorem T0.nk {n : Nat} {d : D} (h : T0 n d) : ∃ q, nkD d = some q ∧ q.depth ≤ n := by
  induction h with
  | non => exact ⟨_, rfl, Nat.zero_le _⟩
  | int i => exact ⟨_, rfl, Nat.zero_le _⟩
  | tx h => exact ⟨_, rfl, Nat.zero_le _⟩
  | @tup n ds h ih =>
    obtain ⟨qs, h1, h2⟩ := nkL_all ih
    refine ⟨.tup qs, by unfold nkD; rw [h1]; rfl, ?_⟩
    have : ∀ qs : List NestedKey, (∀ q ∈ qs, q.depth ≤ n) → NestedKey.depthAll qs ≤ n := fun qs => by
      induction qs with
      | nil => exact fun _ => Nat.zero_le _
      | cons q r ih =>
        intro h
        have a1 := h q List.mem_cons_self
        have a2 := ih fun x hx => h x (List.mem_cons_of_mem _ hx)
        show max q.depth (NestedKey.depthAll r) ≤ n
        omega
    exact Nat.succ_le_succ (this qs h2)
theorem nkL_inj : ∀ {ds es : List D}, (∀ d ∈ ds, (∃ q, nkD d = some q) ∧ ∀ e, (∃ m, T0 m e) → nkD d = nkD e → d = e) → (∀ e ∈ es, ∃ m, T0 m e) → nkL ds = nkL es → ds = es
  | [], [], _, _, _ => rfl
  | [], e :: es, _, h2, h => by
    obtain ⟨m, hm⟩ := h2 e List.mem_cons_self
    obtain ⟨q, h3, _⟩ := hm.nk
    unfold nkL at h
    rw [h3] at h
    cases h4 : nkL es with
    | none =>
      exfalso
      have : ∃ qs, nkL es = some qs := by
        have key : ∀ es : List D, (∀ e ∈ es, ∃ m, T0 m e) → ∃ qs, nkL es = some qs := fun es => by
          induction es with
          | nil => exact fun _ => ⟨[], rfl⟩
          | cons e r ih =>
            intro h
            obtain ⟨m, hm⟩ := h e List.mem_cons_self
            obtain ⟨q, h3, _⟩ := hm.nk
            obtain ⟨qs, h5⟩ := ih fun x hx => h x (List.mem_cons_of_mem _ hx)
            exact ⟨q :: qs, by unfold nkL; rw [h3, h5]⟩
        exact key es fun x hx => h2 x (List.mem_cons_of_mem _ hx)
      rw [h4] at this
      obtain ⟨_, z⟩ := this
      cases z
    | some qs => rw [h4] at h; cases h
  | d :: ds, [], h1, _, h => by
    obtain ⟨⟨q, h3⟩, _⟩ := h1 d List.mem_cons_self
    have key : ∀ ds : List D, (∀ d ∈ ds, ∃ q, nkD d = some q) → ∃ qs, nkL ds = some qs := fun ds => by
      induction ds with
      | nil => exact fun _ => ⟨[], rfl⟩
      | cons e r ih =>
        intro h
        obtain ⟨q, h3⟩ := h e List.mem_cons_self
        obtain ⟨qs, h5⟩ := ih fun x hx => h x (List.mem_cons_of_mem _ hx)
        exact ⟨q :: qs, by unfold nkL; rw [h3, h5]⟩
    obtain ⟨qs, h4⟩ := key ds fun x hx => (h1 x (List.mem_cons_of_mem _ hx)).1
    unfold nkL at h
    rw [h3, h4] at h
    cases h
  | d :: ds, e :: es, h1, h2, h => by
    obtain ⟨⟨q, h3⟩, h4⟩ := h1 d List.mem_cons_self
    obtain ⟨m, hm⟩ := h2 e List.mem_cons_self
    obtain ⟨q2, h5, _⟩ := hm.nk
    have key : ∀ ds : List D, (∀ d ∈ ds, ∃ q, nkD d = some q) → ∃ qs, nkL ds = some qs := fun ds => by
      induction ds with
      | nil => exact fun _ => ⟨[], rfl⟩
      | cons e r ih =>
        intro h
        obtain ⟨q, h3⟩ := h e List.mem_cons_self
        obtain ⟨qs, h5⟩ := ih fun x hx => h x (List.mem_cons_of_mem _ hx)
        exact ⟨q :: qs, by unfold nkL; rw [h3, h5]⟩
    obtain ⟨qs, h6⟩ := key ds fun x hx => (h1 x (List.mem_cons_of_mem _ hx)).1
    obtain ⟨qs2, h7⟩ := key es fun x hx => by
      obtain ⟨m, hm⟩ := h2 x (List.mem_cons_of_mem _ hx)
      obtain ⟨q, hq, _⟩ := hm.nk
      exact ⟨q, hq⟩
    unfold nkL at h
    rw [h3, h5, h6, h7] at h
    cases h
    rw [h4 e ⟨m, hm⟩ (by rw [h3, h5]), nkL_inj (fun x hx => h1 x (List.mem_cons_of_mem _ hx)) (fun x hx => h2 x (List.mem_cons_of_mem _ hx)) (by rw [h6, h7])]
theorem T0.inj {n : Nat} {d : D} (h : T0 n d) : ∀ e, (∃ m, T0 m e) → nkD d = nkD e → d = e := by
  induction h with
  | non =>
    rintro e ⟨m, hm⟩ he
    cases hm with
    | non => rfl
    | tup h2 => obtain ⟨q, h3, _⟩ := (T0.tup h2).nk; rw [h3] at he; unfold nkD at h3; cases h4 : nkL _ with | none => rw [h4] at h3; cases h3 | some qs => rw [h4] at h3; cases h3; cases he
    | _ => cases he
  | int i =>
    rintro e ⟨m, hm⟩ he
    cases hm with
    | int j => cases he; rfl
    | tup h2 => obtain ⟨q, h3, _⟩ := (T0.tup h2).nk; rw [h3] at he; unfold nkD at h3; cases h4 : nkL _ with | none => rw [h4] at h3; cases h3 | some qs => rw [h4] at h3; cases h3; cases he
    | _ => cases he
  | tx h =>
    rintro e ⟨m, hm⟩ he
    cases hm with
    | tx h2 => unfold nkD at he; cases he; rfl
    | tup h2 => obtain ⟨q, h3, _⟩ := (T0.tup h2).nk; rw [h3] at he; unfold nkD at h3; cases h4 : nkL _ with | none => rw [h4] at h3; cases h3 | some qs => rw [h4] at h3; cases h3; cases he
    | _ => cases he
  | @tup n ds h ih =>
    rintro e ⟨m, hm⟩ he
    obtain ⟨q, h3, _⟩ := (T0.tup h).nk
    cases hm with
    | @tup m es h2 =>
      have hl : nkL ds = nkL es := by
        unfold nkD at he
        cases e1 : nkL ds <;> cases e2 : nkL es <;> rw [e1, e2] at he <;> first | rfl | (cases he; rfl) | cases he
      rw [nkL_inj (fun d hd => ⟨let ⟨q, hq, _⟩ := (h d hd).nk; ⟨q, hq⟩, ih d hd⟩) (fun e he => ⟨m, h2 e he⟩) hl]
    | _ =>
      unfold nkD at h3 he
      cases h4 : nkL ds with
      | none => rw [h4] at h3; cases h3
      | some qs => rw [h4] at he; cases he
/-! pages as data -/
structure Pg where
  l : Nat
  es : List Ent
def Pg.ds (p : Pg) : List D := p.es.map ent
def Pg.cell (p : Pg) : Cell := if p.l = 0 then leafO 0 p.ds else twigO p.l p.ds
def Pg.told (p : Pg) : D := .tup [.int p.l, .tup p.ds]
def EOk (e : Ent) : Prop := e.1.ok ∧ T0 4 e.2
structure Pg.ok (p : Pg) : Prop where
  ne : p.es ≠ []
  es : ∀ e ∈ p.es, EOk e
theorem ky_T0 {k : Ky} (h : k.ok) {n : Nat} : T0 n k.d := by
  cases k with
  | int i => exact .int i
  | str cs => exact .tx fun c hc => Nat.lt_trans (h.2 c hc) (by decide)
theorem ent_T0 {e : Ent} (h : EOk e) : T0 5 (ent e) := .tup fun d hd => by
  rcases List.mem_cons.mp hd with rfl | hd
  · exact ky_T0 h.1
  · rw [List.mem_singleton.mp hd]; exact h.2
theorem ents_T0 {es : List Ent} (h : ∀ e ∈ es, EOk e) : ∀ d ∈ es.map ent, T0 5 d := fun d hd => by
  obtain ⟨e, he, rfl⟩ := List.mem_map.mp hd
  exact ent_T0 (h e he)
theorem told_T0 {p : Pg} (h : p.ok) : T0 7 p.told := .tup fun d hd => by
  rcases List.mem_cons.mp hd with rfl | hd
  · exact .int _
  · rw [List.mem_singleton.mp hd]; exact .tup (ents_T0 h.es)
noncomputable def Pg.key (p : Pg) : NestedKey := (nkey p.told).getD .none
theorem Pg.nkey {p : Pg} (h : p.ok) : Fx.nkey p.told = some p.key ∧ nkD p.told = some p.key := by
  obtain ⟨q, h1, h2⟩ := (told_T0 h).nk
  have : Fx.nkey p.told = some q := by
    unfold Fx.nkey
    show (match nkD p.told with | some q => if q.depth ≤ 8 then some q else none | none => none) = some q
    rw [h1]
    exact if_pos (by omega)
  unfold Pg.key
  rw [this]
  exact ⟨rfl, h1⟩
theorem Ky.d_inj {a b : Ky} (h : a.d = b.d) : a = b := by
  cases a <;> cases b <;> first | (cases h; rfl) | (injection h with h; rw [tx_inj h]) | cases h
theorem ent_inj {a b : Ent} (h : ent a = ent b) : a = b := by
  unfold ent at h
  injection h with h
  injection h with h1 h2
  injection h2 with h2 _
  exact Prod.ext (Ky.d_inj h1) h2
theorem ents_inj : ∀ {as bs : List Ent}, as.map ent = bs.map ent → as = bs
  | [], [], _ => rfl
  | [], _ :: _, h => by cases h
  | _ :: _, [], h => by cases h
  | a :: as, b :: bs, h => by
    rw [List.map_cons, List.map_cons] at h
    injection h with h1 h2
    rw [ent_inj h1, ents_inj h2]
theorem Pg.inj {p q : Pg} (hp : p.ok) (hq : q.ok) (h : p.key = q.key) : p = q := by
  have e := (told_T0 hp).inj q.told ⟨_, told_T0 hq⟩ (by rw [(Pg.nkey hp).2, (Pg.nkey hq).2, h])
  unfold Pg.told at e
  injection e with e
  injection e with e1 e2
  injection e2 with e2 _
  injection e1 with e1
  injection e2 with e2
  have e3 := ents_inj e2
  obtain ⟨l, es⟩ := p
  obtain ⟨l', es'⟩ := q
  dsimp only at e1 e3
  have e4 : l = l' := by omega
  rw [e4, e3]
theorem Pg.ncd {p : Pg} (h : p.ok) {b : Nat} : ncL b p.ds = true := ncL_all fun d hd => (ents_T0 h.es d hd).nc
theorem t_told {vh : List Cell} {j : Nat} {p : Pg} (h : p.ok) (hj : vh[j]? = some p.cell) : F_Page_told [.cell j] vh = some p.told := by
  unfold Pg.cell at hj
  split at hj
  · next e =>
    have := t_toldL hj (Pg.ncd h)
    unfold Pg.told
    rw [this, e]; rfl
  · exact t_toldT hj (Pg.ncd h)
/-! the store -/
abbrev Shelf := List (Int × Pg × Nat)
structure Sto (wd : World) (vh : List Cell) (pp a b : Nat) (c : Int) (ps : Shelf) : Prop where
  hp : vh[pp]? = some (pgO a b c)
  ha : vh[a]? = some (.dct (ps.map fun x => (.inl x.1, .cell x.2.2)))
  hb : vh[b]? = some (.dctN wd (ps.map fun x => (x.2.1.key, .int x.1)))
  hc : ∀ x ∈ ps, vh[x.2.2]? = some x.2.1.cell ∧ x.2.1.ok ∧ x.1 < c
  nd : ∀ x ∈ ps, ∀ y ∈ ps, x.1 = y.1 ∨ x.2.1 = y.2.1 → x = y
def Has (ps : Shelf) (n : Int) (p : Pg) : Prop := ∃ k, (n, p, k) ∈ ps
theorem Has.mono {ps qs : Shelf} {n : Int} {p : Pg} (h : Has ps n p) (l : ∀ x ∈ ps, x ∈ qs) : Has qs n p := let ⟨k, hk⟩ := h; ⟨k, l _ hk⟩
section
variable {wd : World} {vh : List Cell} {pp a b : Nat} {c : Int} {ps : Shelf}
theorem Sto.fn (S : Sto wd vh pp a b c ps) {n : Int} {p q : Pg} (h : Has ps n p) (h2 : Has ps n q) : p = q := by
  obtain ⟨k, hk⟩ := h
  obtain ⟨k2, hk2⟩ := h2
  have := S.nd _ hk _ hk2 (.inl rfl)
  cases this; rfl
theorem Sto.inj (S : Sto wd vh pp a b c ps) {n m : Int} {p : Pg} (h : Has ps n p) (h2 : Has ps m p) : n = m := by
  obtain ⟨k, hk⟩ := h
  obtain ⟨k2, hk2⟩ := h2
  have := S.nd _ hk _ hk2 (.inr rfl)
  cases this; rfl
theorem Sto.ne (S : Sto wd vh pp a b c ps) : pp ≠ a ∧ pp ≠ b ∧ a ≠ b := by
  refine ⟨fun e => ?_, fun e => ?_, fun e => ?_⟩
  · have := S.hp; rw [e, S.ha] at this; cases this
  · have := S.hp; rw [e, S.hb] at this; cases this
  · have := S.ha; rw [e, S.hb] at this; cases this
theorem cell_ne {p : Pg} : p.cell ≠ pgO a b c ∧ (∀ kvs, p.cell ≠ .dct kvs) ∧ ∀ kvs, p.cell ≠ .dctN wd kvs := by
  unfold Pg.cell
  split
  · refine ⟨fun e => ?_, fun _ e => ?_, fun _ e => ?_⟩
    · unfold leafO pgO at e; injection e with e _; exact absurd e (by decide)
    · cases e
    · cases e
  · refine ⟨fun e => ?_, fun _ e => ?_, fun _ e => ?_⟩
    · unfold twigO pgO at e; injection e with e _; exact absurd e (by decide)
    · cases e
    · cases e
theorem Sto.off (S : Sto wd vh pp a b c ps) {k : Nat} {p : Pg} (h : vh[k]? = some p.cell) : k ≠ pp ∧ k ≠ a ∧ k ≠ b := by
  obtain ⟨z1, z2, z3⟩ := cell_ne (wd := wd) (a := a) (b := b) (c := c) (p := p)
  refine ⟨fun e => ?_, fun e => ?_, fun e => ?_⟩
  · rw [e, S.hp] at h; exact z1 (Option.some.inj h).symm
  · rw [e, S.ha] at h; exact z2 _ (Option.some.inj h).symm
  · rw [e, S.hb] at h; exact z3 _ (Option.some.inj h).symm
/-- cells that stay -/
def Ext (pp a b : Nat) (vh vh' : List Cell) : Prop := vh.length ≤ vh'.length ∧ ∀ i, i < vh.length → i ≠ pp → i ≠ a → i ≠ b → vh'[i]? = vh[i]?
theorem Ext.refl (vh : List Cell) : Ext pp a b vh vh := ⟨Nat.le_refl _, fun _ _ _ _ _ => rfl⟩
theorem Ext.trans {u v w : List Cell} (h : Ext pp a b u v) (h2 : Ext pp a b v w) : Ext pp a b u w := ⟨Nat.le_trans h.1 h2.1, fun i hi p q r => (h2.2 i (Nat.lt_of_lt_of_le hi h.1) p q r).trans (h.2 i hi p q r)⟩
theorem Ext.app (vh more : List Cell) : Ext pp a b vh (vh ++ more) := ⟨by rw [List.length_append]; omega, fun i hi _ _ _ => List.getElem?_append_left hi⟩
theorem lt_of {α : Type} {l : List α} {i : Nat} {x : α} (h : l[i]? = some x) : i < l.length := (List.getElem?_eq_some_iff.mp h).1
theorem Ext.at {u v : List Cell} (h : Ext pp a b u v) {i : Nat} {x : Cell} (hi : u[i]? = some x) (n : i ≠ pp ∧ i ≠ a ∧ i ≠ b) : v[i]? = some x := (h.2 i (lt_of hi) n.1 n.2.1 n.2.2).trans hi
/-- what is written elsewhere leaves the store -/
theorem Sto.keep (S : Sto wd vh pp a b c ps) {vh' : List Cell} (h : ∀ i x, vh[i]? = some x → (i = pp ∨ i = a ∨ i = b ∨ ∃ p : Pg, x = p.cell) → vh'[i]? = some x) : Sto wd vh' pp a b c ps :=
  ⟨h _ _ S.hp (.inl rfl), h _ _ S.ha (.inr (.inl rfl)), h _ _ S.hb (.inr (.inr (.inl rfl))), fun x hx => ⟨h _ _ (S.hc x hx).1 (.inr (.inr (.inr ⟨_, rfl⟩))), (S.hc x hx).2⟩, S.nd⟩
theorem Sto.app (S : Sto wd vh pp a b c ps) (more : List Cell) : Sto wd (vh ++ more) pp a b c ps := S.keep fun i x h _ => by rw [List.getElem?_append_left (lt_of h)]; exact h
theorem lst_ne {p : Pg} {ds : List D} : p.cell ≠ .lst ds := by
  unfold Pg.cell
  split <;> exact fun e => by cases e
theorem Sto.setL (S : Sto wd vh pp a b c ps) {m : Nat} {ds es : List D} (hm : vh[m]? = some (.lst ds)) : Sto wd (vh.set m (.lst es)) pp a b c ps := S.keep fun i x h z => by
  rw [List.getElem?_set_ne]
  · exact h
  · intro e
    subst e
    rw [hm] at h
    cases h
    rcases z with e | e | e | ⟨p, e⟩
    · subst e; rw [S.hp] at hm; cases hm
    · subst e; rw [S.ha] at hm; cases hm
    · subst e; rw [S.hb] at hm; cases hm
    · exact lst_ne e.symm
theorem Sto.offL (S : Sto wd vh pp a b c ps) {m : Nat} {ds : List D} (hm : vh[m]? = some (.lst ds)) : m ≠ pp ∧ m ≠ a ∧ m ≠ b := by
  refine ⟨fun e => ?_, fun e => ?_, fun e => ?_⟩
  · subst e; rw [S.hp] at hm; cases hm
  · subst e; rw [S.ha] at hm; cases hm
  · subst e; rw [S.hb] at hm; cases hm
theorem val_at {ps : Shelf} {n : Int} {p : Pg} {k : Nat} (h : (n, p, k) ∈ ps) (u : ∀ x ∈ ps, x.1 = n → x = (n, p, k)) : valA (ps.map fun x => ((.inl x.1 : Key), D.cell x.2.2)) (.inl n) = some (.cell k) := by
  induction ps with
  | nil => cases h
  | cons y r ih =>
    unfold valA
    rw [List.map_cons, List.find?_cons]
    by_cases e : y.1 = n
    · have := u y List.mem_cons_self e
      subst this
      rw [decide_eq_true rfl]
      rfl
    · rw [decide_eq_false (fun z => e (by injection z))]
      have h' : (n, p, k) ∈ r := by
        rcases List.mem_cons.mp h with z | z
        · exact absurd (by rw [← z]) e
        · exact z
      exact ih h' fun x hx => u x (List.mem_cons_of_mem _ hx)
theorem Sto.at (S : Sto wd vh pp a b c ps) {n : Int} {p : Pg} (h : Has ps n p) : ∃ k, valA (ps.map fun x => ((.inl x.1 : Key), D.cell x.2.2)) (.inl n) = some (.cell k) ∧ vh[k]? = some p.cell ∧ p.ok := by
  obtain ⟨k, hk⟩ := h
  exact ⟨k, val_at hk fun x hx e => S.nd x hx _ hk (.inl e), (S.hc _ hk).1, (S.hc _ hk).2.1⟩
theorem t_page (S : Sto wd vh pp a b c ps) {n : Int} {p : Pg} (h : Has ps n p) : ∃ k, F_Pages_page [.cell pp, .int n] vh = some (.cell k) ∧ vh[k]? = some p.cell ∧ p.ok := by
  obtain ⟨k, h1, h2, h3⟩ := S.at h
  refine ⟨k, runP_of ?_ (decide_eq_true (lt_of h2)), h2, h3⟩
  have a1 := S.hp
  have a2 := S.ha
  clear S h h2 h3
  unfold g_Pages_page
  generalize (ps.map fun x => ((.inl x.1 : Key), D.cell x.2.2)) = st at *
  walk_at "fp"
  exact ⟨_, rfl⟩
theorem valN_none {ps : Shelf} {p : Pg} (hp : p.ok) (h : ∀ x ∈ ps, x.2.1.ok ∧ x.2.1 ≠ p) : valN (ps.map fun x => (x.2.1.key, D.int x.1)) p.key = none := by
  unfold valN
  rw [List.find?_eq_none.mpr fun y hy => ?_]
  · rfl
  · obtain ⟨x, hx, rfl⟩ := List.mem_map.mp hy
    rw [decide_eq_true_eq]
    exact fun e => (h x hx).2 (Pg.inj (h x hx).1 hp e)
theorem valN_some {ps : Shelf} {n : Int} {p : Pg} {k : Nat} (hp : p.ok) (h : (n, p, k) ∈ ps) (u : ∀ x ∈ ps, x.2.1.ok ∧ (x.2.1 = p → x = (n, p, k))) : valN (ps.map fun x => (x.2.1.key, D.int x.1)) p.key = some (.int n) := by
  induction ps with
  | nil => cases h
  | cons y r ih =>
    unfold valN
    rw [List.map_cons, List.find?_cons]
    by_cases e : y.2.1 = p
    · have := (u y List.mem_cons_self).2 e
      subst this
      rw [decide_eq_true rfl]
      rfl
    · rw [decide_eq_false (fun z => e (Pg.inj (u y List.mem_cons_self).1 hp z))]
      have h' : (n, p, k) ∈ r := by
        rcases List.mem_cons.mp h with z | z
        · exact absurd (by rw [← z]) e
        · exact z
      exact ih h' fun x hx => u x (List.mem_cons_of_mem _ hx)
theorem putA_app {st : List (Key × D)} {k : Key} {v : D} (h : ∀ x ∈ st, x.1 ≠ k) : putA st k v = st ++ [(k, v)] := by
  unfold putA
  rw [if_neg]
  intro z
  obtain ⟨x, hx, e⟩ := List.any_eq_true.mp z
  exact h x hx (of_decide_eq_true e)
/-- a page kept -/
theorem t_kept (S : Sto wd vh pp a b c ps) {j : Nat} {p : Pg} (hp : p.ok) (hj : vh[j]? = some p.cell) (hl : ps.length ≤ 16000000) :
    ∃ n c' ps' vh', F_Pages_kept wd [.cell pp, .cell j] vh = some (.int n, vh') ∧ vh'.length = vh.length ∧ Ext pp a b vh vh' ∧ Sto wd vh' pp a b c' ps' ∧ (∀ x ∈ ps, x ∈ ps') ∧ ps'.length ≤ ps.length + 1 ∧ Has ps' n p ∧ c ≤ c' := by
  obtain ⟨n1, n2, n3⟩ := S.ne
  have e1 := t_told hp hj
  have k1 := (Pg.nkey hp).1
  have hpp := S.hp
  have haa := S.ha
  have hbb := S.hb
  have l1 : (ps.map fun x => ((.inl x.1 : Key), D.cell x.2.2)).length < 16777216 := by rw [List.length_map]; omega
  have l2 : (ps.map fun x => (x.2.1.key, D.int x.1)).length < 16777216 := by rw [List.length_map]; omega
  have alt : ∀ st, ((metR "Leaf" "told" vh[j]? (callR (F_Page_told [.cell j] vh) st)).alt (metR "Twig" "told" vh[j]? (callR (F_Page_told [.cell j] vh) st))) = .ok p.told st := fun st => by
    rw [e1, hj]
    unfold Pg.cell
    split
    · simp only [pm_1, x_callR, x_altO]
    · simp only [pm_12, pm_7, x_callR, x_altB]
  by_cases z : ∃ n, Has ps n p
  · obtain ⟨n, k, hk⟩ := z
    have hv := valN_some hp hk fun x hx => ⟨(S.hc x hx).2.1, fun e => S.nd x hx _ hk (.inr e)⟩
    refine ⟨n, c, ps, vh, runS_of ?_, rfl, Ext.refl _, S, fun _ h => h, Nat.le_succ _, ⟨k, hk⟩, Int.le_refl _⟩
    have e2 : ∀ l', nInM wd true p.told (.cell b) ⟨l', vh⟩ = .ok (.bl true) ⟨l', vh⟩ := fun l' => by
      rw [x_nin hbb k1, hv]; rfl
    have e3 : ∀ l', nGetM wd (.cell b) p.told ⟨l', vh⟩ = .ok (.int n) ⟨l', vh⟩ := fun l' => x_nget hbb k1 hv
    clear S hk hv haa hbb l1 l2 hj e1 k1 hl hp n1 n2 n3
    unfold g_Pages_kept
    generalize p.told = T at *
    walk_at "fp"
    exact ⟨_, rfl⟩
  · have hv := valN_none (ps := ps) hp fun x hx => ⟨(S.hc x hx).2.1, fun e => z ⟨x.1, x.2.2, by rw [← e]; exact hx⟩⟩
    have hst : putA (ps.map fun x => ((.inl x.1 : Key), D.cell x.2.2)) (.inl c) (.cell j) = (ps ++ [(c, p, j)]).map fun x => ((.inl x.1 : Key), D.cell x.2.2) := by
      rw [putA_app, List.map_append]; rfl
      intro x hx e
      obtain ⟨y, hy, rfl⟩ := List.mem_map.mp hx
      injection e with e
      have := (S.hc y hy).2.2
      omega
    have hkn : putN (ps.map fun x => (x.2.1.key, D.int x.1)) p.key (.int c) = (ps ++ [(c, p, j)]).map fun x => (x.2.1.key, D.int x.1) := by
      unfold putN
      rw [hv, List.map_append]; rfl
    have e2 : ∀ l', nInM wd true p.told (.cell b) ⟨l', vh⟩ = .ok (.bl false) ⟨l', vh⟩ := fun l' => by
      rw [x_nin hbb k1, hv]; rfl
    obtain ⟨v1, hv1⟩ : ∃ v1, v1 = vh.set pp (pgO a b (c + 1)) := ⟨_, rfl⟩
    obtain ⟨v2, hv2⟩ : ∃ v2, v2 = v1.set a (.dct ((ps ++ [(c, p, j)]).map fun x => ((.inl x.1 : Key), D.cell x.2.2))) := ⟨_, rfl⟩
    obtain ⟨v3, hv3⟩ : ∃ v3, v3 = v2.set b (.dctN wd ((ps ++ [(c, p, j)]).map fun x => (x.2.1.key, D.int x.1))) := ⟨_, rfl⟩
    have q0 : v1[pp]? = some (pgO a b (c + 1)) := by rw [hv1]; exact List.getElem?_set_self (lt_of hpp)
    have q1 : v1[a]? = some (.dct (ps.map fun x => ((.inl x.1 : Key), D.cell x.2.2))) := by rw [hv1, List.getElem?_set_ne n1]; exact haa
    have q2 : v2[pp]? = some (pgO a b (c + 1)) := by rw [hv2, List.getElem?_set_ne (Ne.symm n1)]; exact q0
    have q3 : v2[b]? = some (.dctN wd (ps.map fun x => (x.2.1.key, D.int x.1))) := by rw [hv2, List.getElem?_set_ne n3, hv1, List.getElem?_set_ne n2]; exact hbb
    have e3 : ∀ l', nPutM wd (.int c) (.cell b) p.told ⟨l', v2⟩ = .ok .nx ⟨l', v3⟩ := fun l' => by
      rw [x_nputM q3 k1 l2, hkn, hv3]
    have off : ∀ i, i ≠ pp → i ≠ a → i ≠ b → v3[i]? = vh[i]? := fun i h1 h2 h3 => by
      rw [hv3, List.getElem?_set_ne (Ne.symm h3), hv2, List.getElem?_set_ne (Ne.symm h2), hv1, List.getElem?_set_ne (Ne.symm h1)]
    have len : v3.length = vh.length := by rw [hv3, List.length_set, hv2, List.length_set, hv1, List.length_set]
    have r0 : v3[pp]? = some (pgO a b (c + 1)) := by rw [hv3, List.getElem?_set_ne (Ne.symm n2)]; exact q2
    have r1 : v3[a]? = some (.dct ((ps ++ [(c, p, j)]).map fun x => ((.inl x.1 : Key), D.cell x.2.2))) := by rw [hv3, List.getElem?_set_ne (Ne.symm n3), hv2]; exact List.getElem?_set_self (lt_of q1)
    have r2 : v3[b]? = some (.dctN wd ((ps ++ [(c, p, j)]).map fun x => (x.2.1.key, D.int x.1))) := by rw [hv3]; exact List.getElem?_set_self (lt_of q3)
    refine ⟨c, c + 1, ps ++ [(c, p, j)], v3, runS_of ⟨[some (.cell pp), some (.cell j), some p.told, some (.int c)], ?_⟩, len, ⟨Nat.le_of_eq len.symm, fun i _ h1 h2 h3 => off i h1 h2 h3⟩, ⟨r0, r1, r2, fun x hx => ?_, fun x hx y hy e => ?_⟩, fun x hx => List.mem_append_left _ hx, by rw [List.length_append]; exact Nat.le_refl _, ⟨j, List.mem_append_right _ List.mem_cons_self⟩, by omega⟩
    · clear q3 r0 r1 r2 off len hv3 hkn hv hbb e1 hj z S n1 n2 n3 k1 hp l2 hl
      rw [← hst] at hv2
      have hw1 := hv1.symm
      have hw2 := hv2.symm
      clear hst hv1 hv2
      unfold g_Pages_kept
      generalize p.told = T at *
      generalize (ps.map fun x => ((.inl x.1 : Key), D.cell x.2.2)) = st at *
      walk_at "fp"
    · rcases List.mem_append.mp hx with hx | hx
      · obtain ⟨b1, b2, b3⟩ := S.hc x hx
        obtain ⟨o1, o2, o3⟩ := S.off b1
        exact ⟨by rw [off _ o1 o2 o3]; exact b1, b2, by omega⟩
      · rw [List.mem_singleton.mp hx]
        obtain ⟨o1, o2, o3⟩ := S.off hj
        exact ⟨by rw [off _ o1 o2 o3]; exact hj, hp, by show c < c + 1; omega⟩
    · rcases List.mem_append.mp hx with hx | hx <;> rcases List.mem_append.mp hy with hy | hy
      · exact S.nd x hx y hy e
      · rw [List.mem_singleton.mp hy] at e ⊢
        rcases e with e | e
        · have := (S.hc x hx).2.2
          rw [e] at this
          exact absurd this (Int.lt_irrefl _)
        · exact absurd ⟨x.1, x.2.2, by rw [← (show x.2.1 = p from e)]; exact hx⟩ z
      · rw [List.mem_singleton.mp hx] at e ⊢
        rcases e with e | e
        · have := (S.hc y hy).2.2
          rw [← e] at this
          exact absurd this (Int.lt_irrefl _)
        · exact absurd ⟨y.1, y.2.2, by rw [show p = y.2.1 from e]; exact hy⟩ z
      · rw [List.mem_singleton.mp hx, List.mem_singleton.mp hy]
end
theorem alt_told {u : List Cell} {k : Nat} {p : Pg} (hp : p.ok) (hk : u[k]? = some p.cell) (st : S) : ((metR "Leaf" "told" u[k]? (callR (F_Page_told [.cell k] u) st)).alt (metR "Twig" "told" u[k]? (callR (F_Page_told [.cell k] u) st))) = .ok p.told st := by
  rw [t_told hp hk, hk]
  unfold Pg.cell
  split
  · simp only [pm_1, x_callR, x_altO]
  · simp only [pm_12, pm_7, x_callR, x_altB]
/-! a page dropped -/
theorem dropA_map {α : Type} {l : List α} {f : α → Key × D} {k : Key} : dropA (l.map f) k = (l.filter fun x => decide ((f x).1 ≠ k)).map f := by
  unfold dropA
  rw [List.filter_map]
  rfl
theorem dropN_map {α : Type} {l : List α} {f : α → NestedKey × D} {k : NestedKey} : dropN (l.map f) k = (l.filter fun x => decide ((f x).1 ≠ k)).map f := by
  unfold dropN
  rw [List.filter_map]
  rfl
def without (ps : Shelf) (n : Int) : Shelf := ps.filter fun x => decide (x.1 ≠ n)
theorem has_without {ps : Shelf} {n m : Int} {p : Pg} : Has (without ps n) m p ↔ Has ps m p ∧ m ≠ n := by
  constructor
  · rintro ⟨k, hk⟩
    obtain ⟨h1, h2⟩ := List.mem_filter.mp hk
    exact ⟨⟨k, h1⟩, of_decide_eq_true h2⟩
  · rintro ⟨⟨k, hk⟩, h⟩
    exact ⟨k, List.mem_filter.mpr ⟨hk, decide_eq_true h⟩⟩
theorem valA_one {ps : Shelf} {n : Int} {p : Pg} {k : Nat} (h : (n, p, k) ∈ ps) (u : ∀ x ∈ ps, x.1 = n → x = (n, p, k)) : valA (ps.map fun x => ((.inl x.1 : Key), D.cell x.2.2)) (.inl n) = some (.cell k) := by
  induction ps with
  | nil => cases h
  | cons y r ih =>
    unfold valA
    rw [List.map_cons, List.find?_cons]
    by_cases e : y.1 = n
    · have := u y List.mem_cons_self e
      subst this
      rw [decide_eq_true rfl]
      rfl
    · rw [decide_eq_false (fun z => e (by injection z))]
      have h' : (n, p, k) ∈ r := by
        rcases List.mem_cons.mp h with z | z
        · exact absurd (by rw [← z]) e
        · exact z
      exact ih h' fun x hx => u x (List.mem_cons_of_mem _ hx)
theorem t_drop {wd : World} {vh : List Cell} {pp a b : Nat} {c : Int} {ps : Shelf} (S : Sto wd vh pp a b c ps) {n : Int} {p : Pg} (h : Has ps n p) :
    ∃ vh', F_Pages_drop wd [.cell pp, .int n] vh = some (.non, vh') ∧ vh'.length = vh.length ∧ Ext pp a b vh vh' ∧ Sto wd vh' pp a b c (without ps n) := by
  obtain ⟨k0, p1, p2, p3⟩ := t_page S h
  obtain ⟨n1, n2, n3⟩ := S.ne
  obtain ⟨k, hk⟩ := h
  have hkk : k0 = k := by
    have := S.hp
    have v := valA_one hk fun x hx e => S.nd x hx _ hk (.inl e)
    -- the same page object
    have q := (S.hc _ hk)
    have e1 : F_Pages_page [.cell pp, .int n] vh = some (.cell k) := by
      refine runP_of ?_ (decide_eq_true (lt_of q.1))
      have a1 := S.hp
      have a2 := S.ha
      clear S p1 p2 p3 q hk
      unfold g_Pages_page
      generalize (ps.map fun x => ((.inl x.1 : Key), D.cell x.2.2)) = st at *
      walk_at "fp"
      exact ⟨_, rfl⟩
    rw [e1] at p1
    cases p1; rfl
  subst hkk
  have va := valA_one hk fun x hx e => S.nd x hx _ hk (.inl e)
  have vn := valN_some p3 hk fun x hx => ⟨(S.hc x hx).2.1, fun e => S.nd x hx _ hk (.inr e)⟩
  have k1 := (Pg.nkey p3).1
  have al := alt_told p3 p2
  have f1 : dropA (ps.map fun x => ((.inl x.1 : Key), D.cell x.2.2)) (.inl n) = (without ps n).map fun x => ((.inl x.1 : Key), D.cell x.2.2) := by
    rw [dropA_map]
    unfold without
    congr 1
    refine List.filter_congr fun x _ => ?_
    by_cases z : x.1 = n
    · rw [decide_eq_false (by rw [z]; simp), decide_eq_false (by simp [z])]
    · rw [decide_eq_true (by intro e; injection e with e; exact z e), decide_eq_true z]
  have f2 : dropN (ps.map fun x => (x.2.1.key, D.int x.1)) p.key = (without ps n).map fun x => (x.2.1.key, D.int x.1) := by
    rw [dropN_map]
    unfold without
    congr 1
    refine List.filter_congr fun x hx => ?_
    by_cases z : x.1 = n
    · have := S.nd x hx _ hk (.inl z)
      subst this
      rw [decide_eq_false (by simp), decide_eq_false (by simp)]
    · rw [decide_eq_true z, decide_eq_true]
      intro e
      have := S.nd x hx _ hk (.inr (Pg.inj (S.hc x hx).2.1 p3 e))
      subst this
      exact z rfl
  obtain ⟨v1, hv1⟩ : ∃ v1, v1 = vh.set a (.dct ((without ps n).map fun x => ((.inl x.1 : Key), D.cell x.2.2))) := ⟨_, rfl⟩
  obtain ⟨v2, hv2⟩ : ∃ v2, v2 = v1.set b (.dctN wd ((without ps n).map fun x => (x.2.1.key, D.int x.1))) := ⟨_, rfl⟩
  have hpp := S.hp
  have haa := S.ha
  have hbb := S.hb
  have q0 : v1[pp]? = some (pgO a b c) := by rw [hv1, List.getElem?_set_ne (Ne.symm n1)]; exact hpp
  have q1 : v1[b]? = some (.dctN wd (ps.map fun x => (x.2.1.key, D.int x.1))) := by rw [hv1, List.getElem?_set_ne n3]; exact hbb
  obtain ⟨o1, o2, o3⟩ := S.off p2
  have q2 : v1[k0]? = some p.cell := by rw [hv1, List.getElem?_set_ne (Ne.symm o2)]; exact p2
  have al2 := alt_told p3 q2
  have d1 : ∀ l, dctR ⟨l, vh⟩ (.cell a) = some (ps.map fun x => ((.inl x.1 : Key), D.cell x.2.2)) := fun l => dctR_at haa
  have d2 : ∀ l, popDM (.cell a) (.int n) none ⟨l, vh⟩ = .ok (.cell k0) ⟨l, v1⟩ := fun l => by
    rw [x_popM haa keyD_int va, f1, hv1]
  have d3 : ∀ l, dctNR wd ⟨l, v1⟩ (.cell b) = some (b, ps.map fun x => (x.2.1.key, D.int x.1)) := fun l => dctNR_at q1
  have d4 : ∀ l, nPopM wd (.cell b) p.told ⟨l, v1⟩ = .ok (.int n) ⟨l, v2⟩ := fun l => by
    rw [x_npopM q1 k1 vn, f2, hv2]
  have off : ∀ i, i ≠ pp → i ≠ a → i ≠ b → v2[i]? = vh[i]? := fun i h1 h2 h3 => by
    rw [hv2, List.getElem?_set_ne (Ne.symm h3), hv1, List.getElem?_set_ne (Ne.symm h2)]
  have len : v2.length = vh.length := by rw [hv2, List.length_set, hv1, List.length_set]
  have r0 : v2[pp]? = some (pgO a b c) := by rw [hv2, List.getElem?_set_ne (Ne.symm n2)]; exact q0
  have r1 : v2[a]? = some (.dct ((without ps n).map fun x => ((.inl x.1 : Key), D.cell x.2.2))) := by rw [hv2, List.getElem?_set_ne (Ne.symm n3), hv1]; exact List.getElem?_set_self (lt_of haa)
  have r2 : v2[b]? = some (.dctN wd ((without ps n).map fun x => (x.2.1.key, D.int x.1))) := by rw [hv2]; exact List.getElem?_set_self (lt_of q1)
  refine ⟨v2, runS_nx ⟨[some (.cell pp), some (.int n), some (.cell k0)], ?_⟩, len, ⟨Nat.le_of_eq len.symm, fun i _ h1 h2 h3 => off i h1 h2 h3⟩, ⟨r0, r1, r2, fun x hx => ?_, fun x hx y hy e => S.nd x (List.mem_filter.mp hx).1 y (List.mem_filter.mp hy).1 e⟩⟩
  · clear S hk va vn f1 f2 hv1 hv2 off len r0 r1 r2 q2 p2 haa hbb q1 n1 n2 n3 o1 o2 o3 p3 k1 al
    unfold g_Pages_drop
    generalize p.told = TT at *
    generalize (ps.map fun x => ((.inl x.1 : Key), D.cell x.2.2)) = st at *
    generalize (ps.map fun x => (x.2.1.key, D.int x.1)) = kn at *
    walk_at "fp"
  · have hx := (List.mem_filter.mp hx).1
    obtain ⟨b1, b2, b3⟩ := S.hc x hx
    obtain ⟨o1, o2, o3⟩ := S.off b1
    exact ⟨by rw [off _ o1 o2 o3]; exact b1, b2, b3⟩
/-! exceptions go through -/
theorem x_excT {α β : Type} {e : Ex} {s : S} {k : α → M β} : (Res.exc e s : Res α).then' k = .exc e s := nr rfl
theorem x_excA {e : Ex} {s : S} {q : M Out} : (Res.exc e s : Res Out).andThen q = .exc e s := nr rfl
theorem x_excL {α : Type} {e : Ex} {s : S} {r : Res α} : (Res.exc e s : Res α).alt r = .exc e s := nr rfl
theorem runXP_ok {n : Nat} {g : M Out} {ds : List D} {vh more : List Cell} {d : D} (h : ∃ l, g (initS n ds vh) = .ok (.rt d) ⟨l, vh ++ more⟩) (hn : nc vh.length d = true) : runXP n g ds vh = .ok d vh := by
  have := runP_more (n := n) (g := g) (ds := ds) (vh := vh) (d := d) (by obtain ⟨l, h⟩ := h; exact ⟨l, more, h⟩) hn
  obtain ⟨l, h⟩ := h
  unfold runP at this
  unfold runXP
  rw [h] at this ⊢
  dsimp only at this ⊢
  rw [this]
  rfl
theorem runXP_cell {n : Nat} {g : M Out} {ds : List D} {vh more : List Cell} {k : Nat} {xs : List D} (h : ∃ l, g (initS n ds vh) = .ok (.rt (.cell (vh.length + k))) ⟨l, vh ++ more⟩) (hk : more[k]? = some (.lst xs)) (hn : ncL vh.length xs = true) : runXP n g ds vh = .ok (.lst xs) vh := by
  have := runP_cell (n := n) (g := g) (ds := ds) (vh := vh) h hk hn
  obtain ⟨l, h⟩ := h
  unfold runP at this
  unfold runXP
  rw [h] at this ⊢
  dsimp only at this ⊢
  rw [this]
  rfl
/-! pages that lack -/
def noP (n : Int) : Ex := ⟨"NoPage", [("number", .int n)]⟩
local macro_rules | `(tactic| walk_at "fv") => `(tactic| ((try walk_at "fp"); repeat (simp (disch := first | assumption | omega) only [*, x_callX, x_rzO, x_rzE, x_excT, x_excA, x_excL, x_extL, x_extR, at_hd, at_snd, List.length_cons, List.length_nil, Nat.reduceAdd, if_true]; try walk_at "fp")))
section
variable {wd : World} {pp a b : Nat} {c : Int} {qs : Shelf} 
theorem valA_none {qs : Shelf} {n : Int} (h : ∀ p, ¬ Has qs n p) : valA (qs.map fun x => ((.inl x.1 : Key), D.cell x.2.2)) (.inl n) = none := by
  unfold valA
  rw [List.find?_eq_none.mpr fun y hy => ?_]
  · rfl
  · obtain ⟨x, hx, rfl⟩ := List.mem_map.mp hy
    rw [decide_eq_true_eq]
    intro e
    injection e with e
    obtain ⟨x1, x2, x3⟩ := x
    dsimp only at e
    subst e
    exact h x2 ⟨x3, hx⟩
theorem t_xpageN {u : List Cell} (S : Sto wd u pp a b c qs) {n : Int} (h : ∀ p, ¬ Has qs n p) : X_Pages_page [.cell pp, .int n] u = .exc (noP n) u := by
  have hv := valA_none h
  have a1 := S.hp
  have a2 := S.ha
  have rz : ∀ l, raiseM "NoPage" ["number"] [.int n] ⟨l, u⟩ = .exc (noP n) ⟨l, u⟩ := fun l => rfl
  refine runXP_ex (more := []) ⟨[some (.cell pp), some (.int n)], ?_⟩ rfl
  rw [List.append_nil]
  clear S h
  generalize (qs.map fun x => ((.inl x.1 : Key), D.cell x.2.2)) = st at *
  unfold gx_Pages_page
  walk_at "fv"
theorem t_xpage {u : List Cell} (S : Sto wd u pp a b c qs) {n : Int} {p : Pg} (h : Has qs n p) : ∃ k, X_Pages_page [.cell pp, .int n] u = .ok (.cell k) u ∧ u[k]? = some p.cell ∧ p.ok := by
  obtain ⟨k, h1, h2, h3⟩ := S.at h
  refine ⟨k, runXP_ok (more := []) ?_ (decide_eq_true (lt_of h2)), h2, h3⟩
  have a1 := S.hp
  have a2 := S.ha
  rw [List.append_nil]
  clear S h h2 h3
  unfold gx_Pages_page
  generalize (qs.map fun x => ((.inl x.1 : Key), D.cell x.2.2)) = st at *
  walk_at "fp"
  exact ⟨_, rfl⟩

theorem t_xcardN {u : List Cell} (S : Sto wd u pp a b c qs) {n : Int} (h : ∀ p, ¬ Has qs n p) : X_Pages_card [.cell pp, .int n] u = .exc (noP n) u := by
  have x1 := t_xpageN S h
  have a1 := S.hp
  refine runXP_ex (more := []) ⟨[some (.cell pp), some (.int n), none], ?_⟩ rfl
  rw [List.append_nil]
  clear S h
  unfold gx_Pages_card
  walk_at "fv"
theorem t_xdropN {u : List Cell} (S : Sto wd u pp a b c qs) {n : Int} (h : ∀ p, ¬ Has qs n p) : X_Pages_drop wd [.cell pp, .int n] u = .exc (noP n) u := by
  have x1 := t_xpageN S h
  have a1 := S.hp
  have e : gx_Pages_drop wd (initS 3 [.cell pp, .int n] u) = .exc (noP n) ⟨[some (.cell pp), some (.int n), none], u⟩ := by
    clear S h
    unfold gx_Pages_drop
    walk_at "fv"
  unfold X_Pages_drop runXS
  rw [e]
end
/-! the content of a page, as the law draws it -/
def ABT : D := .str (tx [97, 98])
theorem ab_eq : (.str "ab" : D) = ABT := congrArg D.str (by decide +kernel)
def rw13 (s m k : Int) : Ent := (.int (s + k), .tup [.tup [ABT, .int (s * k + m)]])
def hd13 (c s m k : Int) : Ent := (.int (s + k), .int (c / 54 + k + m))
def es13 (f : Int → Ent) (n : Int) : List Ent := (List.range n.toNat).map fun k : Nat => f (0 + (k : Int))
theorem es13_ds (f : Int → Ent) (n : Int) : (es13 f n).map ent = (List.range n.toNat).map fun k : Nat => ent (f (0 + (k : Int))) := by
  unfold es13
  rw [List.map_map]
  rfl
theorem es13_at {f : Int → Ent} {n : Int} (hn : 0 < n) : ∃ r, es13 f n = f 0 :: r := by
  unfold es13
  obtain ⟨m, hm⟩ : ∃ m, n.toNat = m + 1 := ⟨n.toNat - 1, by omega⟩
  rw [hm, List.range_succ_eq_map]
  exact ⟨_, rfl⟩
theorem c13_1 (c s m n : Int) (x : Option D) (vh : List Cell) (hs : -100 < s ∧ s < 2 ^ 80) (hn : 0 ≤ n ∧ n ≤ 3) :
    c_l_content_1 ⟨[some (.int c), some (.int n), some (.int s), some (.int m), x], vh⟩ = .ok (.lst ((es13 (rw13 s m) n).map ent)) ⟨[some (.int c), some (.int n), some (.int s), some (.int m), x], vh⟩ := by
  have ob : okB n = true := okB_of (by omega) (by omega)
  have rn : ∀ s : S, ran1I [.int n] s = .ok ⟨ranD 0 n.toNat, fun _ => True⟩ s := fun s => by rw [x_ran1 ob]
  have ml : ∀ k : Nat, k < 3 → ∀ t, mulM (.int s) (.int (0 + (k : Int))) t = .ok (.int (s * (0 + (k : Int)))) t := fun k hk t => x_mul (by have := lgI s (by omega) (by omega); have := lgI (0 + (k : Int)) (by omega) (by omega); omega)
  have q := lc_pure (ok := fun _ => True) (l := [some (.int c), some (.int n), some (.int s), some (.int m), x]) (vh := vh) (i := 4) (c := yesM) (f := bnd (consM (getL 1) (ret [])) ran1I)
    (e := tupM (consM (bin addM (getL 2) (getL 4)) (consM (tupM (consM (tupM (consM (ret (.str "ab")) (consM (bin addM (bin mulM (getL 2) (getL 4)) (getL 3)) (ret [])))) (ret []))) (ret []))))
    (List.range n.toNat) (fun k => D.int (0 + (k : Int))) (fun k => ent (rw13 s m (0 + (k : Int)))) (fun _ => true) (by
      clear hs hn ob ml
      unfold ranD at rn
      walk_at "fyh") (fun _ => trivial) (by rw [List.length_range]; omega) (fun _ _ => rfl) (fun k hk _ => by
      have hk := List.mem_range.mp hk
      have ml := ml k (by omega)
      unfold ent rw13
      rw [← ab_eq]
      generalize (0 + (k : Int)) = kk at *
      clear hs hn ob rn hk
      walk_at "fyh")
  rw [List.filter_eq_self.mpr (fun _ _ => rfl)] at q
  rw [es13_ds]
  exact q
theorem c13_2 (c s m n : Int) (x : Option D) (vh : List Cell) (hn : 0 ≤ n ∧ n ≤ 3) :
    c_l_content_2 ⟨[some (.int c), some (.int n), some (.int s), some (.int m), x], vh⟩ = .ok (.lst ((es13 (hd13 c s m) n).map ent)) ⟨[some (.int c), some (.int n), some (.int s), some (.int m), x], vh⟩ := by
  have ob : okB n = true := okB_of (by omega) (by omega)
  have rn : ∀ s : S, ran1I [.int n] s = .ok ⟨ranD 0 n.toNat, fun _ => True⟩ s := fun s => by rw [x_ran1 ob]
  have dv : ∀ t, divM (.int c) (.int 54) t = .ok (.int (c / 54)) t := fun t => x_div (by decide) (by decide)
  have q := lc_pure (ok := fun _ => True) (l := [some (.int c), some (.int n), some (.int s), some (.int m), x]) (vh := vh) (i := 4) (c := yesM) (f := bnd (consM (getL 1) (ret [])) ran1I)
    (e := tupM (consM (bin addM (getL 2) (getL 4)) (consM (bin addM (bin addM (bin divM (getL 0) (ret (.int 54))) (getL 4)) (getL 3)) (ret []))))
    (List.range n.toNat) (fun k => D.int (0 + (k : Int))) (fun k => ent (hd13 c s m (0 + (k : Int)))) (fun _ => true) (by
      clear hn ob dv
      unfold ranD at rn
      walk_at "fyh") (fun _ => trivial) (by rw [List.length_range]; omega) (fun _ _ => rfl) (fun k hk _ => by
      unfold ent hd13
      generalize (0 + (k : Int)) = kk at *
      clear hn ob rn hk
      walk_at "fyh")
  rw [List.filter_eq_self.mpr (fun _ _ => rfl)] at q
  rw [es13_ds]
  exact q
theorem es13_len (f : Int → Ent) (n : Int) : (es13 f n).length = n.toNat := by unfold es13; rw [List.length_map, List.length_range]
theorem t_content (x : Int) : ∃ p : Pg, p.ok ∧ ∀ vh, F_l_content [.int x] vh = some p.told := by
  obtain ⟨c1, h1⟩ : ∃ c1, c1 = x % 10 ^ 20 := ⟨_, rfl⟩
  obtain ⟨c, hc⟩ : ∃ c, c = if c1 % 3 > 0 then c1 % 24 else c1 := ⟨_, rfl⟩
  have b1 : 0 ≤ c1 ∧ c1 < 10 ^ 20 := by omega
  have b2 : 0 ≤ c ∧ c < 10 ^ 20 := by rw [hc]; split <;> omega
  obtain ⟨n, hn⟩ : ∃ n, n = 1 + c / 3 % 3 := ⟨_, rfl⟩
  obtain ⟨s, hs⟩ : ∃ s, s = c / 9 - 5 := ⟨_, rfl⟩
  obtain ⟨m, hm⟩ : ∃ m, m = c / 7 % 5 := ⟨_, rfl⟩
  have n0 : 0 < n ∧ n ≤ 3 := by omega
  have s0 : -100 < s ∧ s < 2 ^ 80 := by omega
  have m0 : 0 ≤ m ∧ m < 5 := by omega
  have p20 : ∀ s, powM (.int 10) (.int 20) s = .ok (.int (10 ^ 20)) s := fun _ => rfl
  have e1 : ∀ s, modM (.int x) (.int (10 ^ 20)) s = .ok (.int c1) s := fun s => by rw [h1]; exact x_mod (by decide)
  have a1 : ∀ s, modM (.int c1) (.int 3) s = .ok (.int (c1 % 3)) s := fun s => x_mod (by decide)
  have A : (0 < c1 % 3 ∧ ∀ s, modM (.int c1) (.int 24) s = .ok (.int c) s) ∨ (¬ 0 < c1 % 3 ∧ c = c1) := by
    by_cases z : 0 < c1 % 3
    · rw [if_pos z] at hc
      exact .inl ⟨z, fun s => by rw [hc]; exact x_mod (by decide)⟩
    · rw [if_neg z] at hc
      exact .inr ⟨z, hc⟩
  have d3 : ∀ s, divM (.int c) (.int 3) s = .ok (.int (c / 3)) s := fun s => x_div (by decide) (by decide)
  have m3 : ∀ s, modM (.int (c / 3)) (.int 3) s = .ok (.int (c / 3 % 3)) s := fun s => x_mod (by decide)
  have d9 : ∀ s, divM (.int c) (.int 9) s = .ok (.int (c / 9)) s := fun s => x_div (by decide) (by decide)
  have d7 : ∀ s, divM (.int c) (.int 7) s = .ok (.int (c / 7)) s := fun s => x_div (by decide) (by decide)
  have m5 : ∀ s, modM (.int (c / 7)) (.int 5) s = .ok (.int (c / 7 % 5)) s := fun s => x_mod (by decide)
  have m2 : ∀ s, modM (.int c) (.int 2) s = .ok (.int (c % 2)) s := fun s => x_mod (by decide)
  have d5 : ∀ s, divM (.int c) (.int 5) s = .ok (.int (c / 5)) s := fun s => x_div (by decide) (by decide)
  have m6 : ∀ s, modM (.int (c / 5)) (.int 6) s = .ok (.int (c / 5 % 6)) s := fun s => x_mod (by decide)
  have f1 : ∀ x vh, c_l_content_1 ⟨[some (.int c), some (.int n), some (.int s), some (.int m), x], vh⟩ = .ok (.lst ((es13 (rw13 s m) n).map ent)) ⟨[some (.int c), some (.int n), some (.int s), some (.int m), x], vh⟩ := fun x vh => c13_1 c s m n x vh s0 ⟨by omega, n0.2⟩
  have f2 : ∀ x vh, c_l_content_2 ⟨[some (.int c), some (.int n), some (.int s), some (.int m), x], vh⟩ = .ok (.lst ((es13 (hd13 c s m) n).map ent)) ⟨[some (.int c), some (.int n), some (.int s), some (.int m), x], vh⟩ := fun x vh => c13_2 c s m n x vh ⟨by omega, n0.2⟩
  have kok : ∀ k : Nat, k < 3 → (Ky.int (s + (0 + (k : Int)))).ok := fun k hk => lgI _ (by omega) (by omega)
  by_cases z : c % 2 = 0
  · refine ⟨⟨0, es13 (rw13 s m) n⟩, ⟨?_, ?_⟩, fun vh => ?_⟩
    · obtain ⟨r, hr⟩ := es13_at (f := rw13 s m) n0.1
      dsimp only
      rw [hr]
      exact fun h => by cases h
    · intro e he
      obtain ⟨k, hk, rfl⟩ := List.mem_map.mp he
      have hk := List.mem_range.mp hk
      exact ⟨kok k (by omega), .tup fun d hd => by
        rw [List.mem_singleton.mp hd]
        exact .tup fun d hd => by
          rcases List.mem_cons.mp hd with rfl | hd
          · exact .tx (by decide)
          · rw [List.mem_singleton.mp hd]; exact .int _⟩
    · have nn : ncL vh.length ((es13 (rw13 s m) n).map ent) = true := ncL_all fun d hd => by
        obtain ⟨e, he, rfl⟩ := List.mem_map.mp hd
        obtain ⟨k, hk, rfl⟩ := List.mem_map.mp he
        rfl
      have tu : ∀ t, tupleM [.lst ((es13 (rw13 s m) n).map ent)] t = .ok (.tup ((es13 (rw13 s m) n).map ent)) t := fun t => rfl
      refine runP_of ?_ (show (nc vh.length (.int 0) && (ncL vh.length ((es13 (rw13 s m) n).map ent) && true)) = true by rw [nn]; rfl)
      unfold Pg.told Pg.ds
      dsimp only
      clear kok n0 s0 m0 b1 b2 hc h1 f2 nn
      generalize (es13 (rw13 s m) n).map ent = R at *
      rcases A with ⟨z1, z2⟩ | ⟨z1, z2⟩
      · subst hn hs hm
        unfold g_l_content
        walk_at "fyh"
        exact ⟨_, rfl⟩
      · subst z2
        subst hn hs hm
        unfold g_l_content
        walk_at "fyh"
        exact ⟨_, rfl⟩
  · refine ⟨⟨(1 + c / 5 % 6).toNat, es13 (hd13 c s m) n⟩, ⟨?_, ?_⟩, fun vh => ?_⟩
    · obtain ⟨r, hr⟩ := es13_at (f := hd13 c s m) n0.1
      dsimp only
      rw [hr]
      exact fun h => by cases h
    · intro e he
      obtain ⟨k, hk, rfl⟩ := List.mem_map.mp he
      have hk := List.mem_range.mp hk
      exact ⟨kok k (by omega), .int _⟩
    · have nn : ncL vh.length ((es13 (hd13 c s m) n).map ent) = true := ncL_all fun d hd => by
        obtain ⟨e, he, rfl⟩ := List.mem_map.mp hd
        obtain ⟨k, hk, rfl⟩ := List.mem_map.mp he
        rfl
      have tu : ∀ t, tupleM [.lst ((es13 (hd13 c s m) n).map ent)] t = .ok (.tup ((es13 (hd13 c s m) n).map ent)) t := fun t => rfl
      have lv : (((1 + c / 5 % 6).toNat : Nat) : Int) = 1 + c / 5 % 6 := by omega
      unfold Pg.told Pg.ds
      dsimp only
      rw [lv]
      refine runP_of ?_ (show (nc vh.length (.int (1 + c / 5 % 6)) && (ncL vh.length ((es13 (hd13 c s m) n).map ent) && true)) = true by rw [nn]; rfl)
      clear kok n0 s0 m0 b1 b2 hc h1 f1 nn lv
      generalize (es13 (hd13 c s m) n).map ent = R at *
      rcases A with ⟨z1, z2⟩ | ⟨z1, z2⟩
      · subst hn hs hm
        unfold g_l_content
        walk_at "fyh"
        exact ⟨_, rfl⟩
      · subst z2
        subst hn hs hm
        unfold g_l_content
        walk_at "fyh"
        exact ⟨_, rfl⟩
/-! pages made, pages looked at, pages that lack -/
local macro_rules | `(tactic| walk_at "fv") => `(tactic| ((try walk_at "fp"); repeat (simp (disch := first | assumption | omega) only [*, x_callX, x_rzO, x_rzE, x_excT, x_excA, x_excL, x_extL, x_extR, at_hd, at_snd, List.length_cons, List.length_nil, Nat.reduceAdd, if_true]; try walk_at "fp")))
section
variable {wd : World} {vh : List Cell} {pp a b : Nat} {c : Int} {ps : Shelf}
theorem t_made {p : Pg} (h : p.ok) (vh : List Cell) : F_l_made [p.told] vh = some (.cell vh.length, vh ++ [p.cell]) := by
  have e2 : ∀ rs : List D, ∀ l c, tupleM [.lst rs] ⟨l, vh ++ [c]⟩ = .ok (.tup rs) ⟨l, vh ++ [c]⟩ := fun rs l c => rfl
  have li : ∀ (rs : List D) (s : S), listN [.tup rs] s = .ok (.lst rs) s := fun rs s => rfl
  by_cases z : p.l = 0
  · have t := t_leaf (vh := vh) (e2 p.ds)
    refine runS_of ?_
    unfold Pg.cell Pg.told
    rw [if_pos z, z]
    have li := li p.ds
    generalize p.ds = R at *
    clear h e2
    unfold g_l_made
    walk_at "fv"
    exact ⟨_, rfl⟩
  · have t := t_twig (vh := vh) (l := p.l) (e2 p.ds)
    refine runS_of ?_
    unfold Pg.cell Pg.told
    rw [if_neg z]
    have z0 : ¬ ((p.l : Int) = 0) := by omega
    have li := li p.ds
    generalize p.ds = R at *
    generalize (p.l : Int) = L at *
    clear h e2
    unfold g_l_made
    walk_at "fv"
    exact ⟨_, rfl⟩
theorem t_first {p : Pg} (h : p.ok) {j : Nat} (hj : vh[j]? = some p.cell) {e : Ent} {r : List Ent} (he : p.es = e :: r) : F_Page_first [.cell j] vh = some e.1.d := by
  have hd : p.ds = ent e :: r.map ent := by unfold Pg.ds; rw [he]; rfl
  have hn := Pg.ncd h (b := vh.length)
  have nn : nc vh.length e.1.d = true := (ky_T0 (n := 0) (h.es e (by rw [he]; exact List.mem_cons_self)).1).nc
  unfold Pg.cell at hj
  refine runP_of ?_ nn
  rw [hd] at hj hn
  split at hj
  · have e1 := t_entL hj hn
    unfold ent at e1 hj
    generalize r.map ent = R at *
    generalize e.1.d = K at *
    clear hn nn hd he h
    unfold g_Page_first
    walk_at "fv"
    exact ⟨_, rfl⟩
  · have e1 := t_entT hj hn
    unfold ent at e1 hj
    generalize r.map ent = R at *
    generalize e.1.d = K at *
    generalize (p.l : Int) = L at *
    clear hn nn hd he h
    unfold g_Page_first
    walk_at "fv"
    exact ⟨_, rfl⟩
theorem alt_first {p : Pg} (h : p.ok) {j : Nat} (hj : vh[j]? = some p.cell) {e : Ent} {r : List Ent} (he : p.es = e :: r) (st : S) : ((metR "Leaf" "first" vh[j]? (callR (F_Page_first [.cell j] vh) st)).alt (metR "Twig" "first" vh[j]? (callR (F_Page_first [.cell j] vh) st))) = .ok e.1.d st := by
  rw [t_first h hj he, hj]
  unfold Pg.cell
  split
  · simp only [pm_3, x_callR, x_altO]
  · simp only [pm_12, pm_9, x_callR, x_altB]
theorem alt_level {p : Pg} {j : Nat} {v : List Cell} (hj : v[j]? = some p.cell) (st : S) : ((fldR "Leaf" "level" v[j]? st).alt (fldR "Twig" "level" v[j]? st)) = .ok (.int p.l) st := by
  rw [hj]
  unfold Pg.cell
  split
  · next z => rw [pf_1, x_altO, z]; rfl
  · rw [pf_5, pf_3, x_altB]
theorem alt_iso {p : Pg} {j : Nat} (b1 b2 : Bool) (l : List (Option D)) (hj : vh[j]? = some p.cell) : ((isoM "Leaf" b1 (.cell j) ⟨l, vh⟩).alt (isoM "Twig" b2 (.cell j) ⟨l, vh⟩)) = .ok (.bl (if p.l = 0 then b1 else b2)) ⟨l, vh⟩ := by
  by_cases z : p.l = 0
  · have hj : vh[j]? = some (leafO 0 p.ds) := by rw [hj]; unfold Pg.cell; rw [if_pos z]
    obtain ⟨fs, o⟩ : ∃ fs, objOf ⟨l, vh⟩ "Leaf" (.cell j) = some fs := by
      unfold objOf
      simp only [hj]
      exact ⟨_, rfl⟩
    rw [if_pos z]
    unfold isoM
    simp only [o]
    rfl
  · have hj : vh[j]? = some (twigO p.l p.ds) := by rw [hj]; unfold Pg.cell; rw [if_neg z]
    have o1 : objOf ⟨l, vh⟩ "Leaf" (.cell j) = none := by
      unfold objOf
      simp only [hj]
      rfl
    obtain ⟨fs, o2⟩ : ∃ fs, objOf ⟨l, vh⟩ "Twig" (.cell j) = some fs := by
      unfold objOf
      simp only [hj]
      exact ⟨_, rfl⟩
    rw [if_neg z]
    unfold isoM
    simp only [o1, o2]
    rfl
theorem t_card (S : Sto wd vh pp a b c ps) {n : Int} {p : Pg} (h : Has ps n p) {e : Ent} {r : List Ent} (he : p.es = e :: r) : F_Pages_card [.cell pp, .int n] vh = some (.tup [.int p.l, e.1.d]) := by
  obtain ⟨k, h1, h2, h3⟩ := t_page S h
  have a1 := S.hp
  have al := fun st => alt_first h3 h2 he (st := st)
  have av := fun st => alt_level h2 (st := st)
  simp only [h2] at al av
  have nn : nc vh.length e.1.d = true := (ky_T0 (n := 0) (h3.es e (by rw [he]; exact List.mem_cons_self)).1).nc
  refine runP_of ?_ (show (nc vh.length (.int p.l) && (nc vh.length e.1.d && true)) = true by rw [nn]; rfl)
  clear S h nn he h3
  generalize e.1.d = K at *
  unfold g_Pages_card
  walk_at "fv"
  exact ⟨_, rfl⟩
theorem t_pageas (S : Sto wd vh pp a b c ps) {n : Int} {p : Pg} (h : Has ps n p) : F_l_page_as [.cell pp, .int n, p.told] vh = some (.bl true) := by
  obtain ⟨k, h1, h2, h3⟩ := t_page S h
  obtain ⟨e, r, he⟩ : ∃ e r, p.es = e :: r := by
    cases hh : p.es with
    | nil => exact absurd hh h3.ne
    | cons e r => exact ⟨e, r, rfl⟩
  have a1 := S.hp
  have cd := t_card S h he
  have al := fun st => alt_told h3 h2 (st := st)
  simp only [h2] at al
  have i1 := fun l => alt_iso true true l h2
  have i2 := fun l => alt_iso true false l h2
  have k1 : (if p.l = 0 then true else true) = true := by split <;> rfl
  rw [k1] at i1
  have ne : ∀ s, neM p.told p.told s = .ok (.bl false) s := fun s => x_neSelf ((told_T0 h3).eqd.mono (by decide))
  have k2 : Eqd 64 e.1.d := (ky_T0 (n := 0) (h3.es e (by rw [he]; exact List.mem_cons_self)).1).eqd.mono (by decide)
  have eq : ∀ s, eqM (.tup [.int p.l, e.1.d]) (.tup [.int p.l, e.1.d]) s = .ok (.bl true) s := fun s => x_eqSelf ((Eqd.tup (n := 63) fun d hd => by
    rcases List.mem_cons.mp hd with rfl | hd
    · exact .int _
    · rw [List.mem_singleton.mp hd]; exact ((ky_T0 (n := 0) (h3.es e (by rw [he]; exact List.mem_cons_self)).1).eqd.mono (by decide))))
  have hd : p.ds = ent e :: r.map ent := by unfold Pg.ds; rw [he]; rfl
  have et : ∀ s, eqM (.int p.l) (.int 0) s = .ok (.bl (if p.l = 0 then true else false)) s := fun s => by
    rw [x_eqI]
    congr 2
    split
    · next z => rw [z]; rfl
    · next z => exact decide_eq_false (by omega)
  have nb : ∀ (q : Bool) s, neM (.bl q) (.bl q) s = .ok (.bl false) s := fun q s => by cases q <;> rfl
  refine runP_of ?_ rfl
  generalize (if p.l = 0 then true else false) = Q at *
  have nb := nb Q
  have ht : p.told = .tup [.int p.l, .tup (.tup [e.1.d, e.2] :: r.map ent)] := by unfold Pg.told; rw [hd]
  clear S h h3 he hd k1 k2
  generalize p.told = T at *
  generalize r.map ent = R at *
  generalize e.1.d = K at *
  subst ht
  generalize (p.l : Int) = L at *
  unfold g_l_page_as
  walk_at "fv"
  exact ⟨_, rfl⟩
theorem lk13 {n : Int} : ([("NoPage", true)] : List (Str × Bool)).lookup (noP n).cls = some true := by
  show ([("NoPage", true)] : List (Str × Bool)).lookup ("NoPage" : Str) = some true
  decide
theorem t_refused (S : Sto wd vh pp a b c ps) {n : Int} (h : ∀ p, ¬ Has ps n p) (w : Int) : F_l_refused wd [.cell pp, .int w, .int n] vh = some (.bl true, vh) := by
  have a1 := S.hp
  have x1 := t_xpageN S h
  have x2 := t_xcardN S h
  have x3 := t_xdropN S h
  have tr : ∀ (l : List (Option D)) (su : Ex → M Out), tryR [("NoPage", true)] su (.exc (noP n) ⟨l, vh⟩) = su (noP n) ⟨l, vh⟩ := fun l su => x_tryE lk13
  have eq : ∀ s, eqM (.tup [.int n, .bl true, .bl true, .bl false]) (.tup [.int n, .bl true, .bl true, .bl false]) s = .ok (.bl true) s := fun s => x_eqSelf (Eqd.tup (n := 63) fun d hd => by
    simp only [List.mem_cons, List.not_mem_nil, or_false] at hd
    rcases hd with rfl | rfl | rfl | rfl
    · exact .int _
    · exact .bl _
    · exact .bl _
    · exact .bl _)
  have su : ∀ (x0 x1 x2 x3 x4 : Option D), suM 4 3 (fun e => (tupX (consX (fun _ => if e.cls = "NoPage" then e.fs.lookup ("number" : Str) else none) (consX (fun _ => (List.lookup e.cls ([("NoPage", true)] : List (Str × Bool))).map .bl) (consX (fun _ => (List.lookup e.cls ([("NoPage", true)] : List (Str × Bool))).map .bl) (consX (fun _ => (List.lookup e.cls ([("NoPage", false)] : List (Str × Bool))).map .bl) (fun _ => some []))))))) (noP n) ⟨[x0, x1, x2, x3, x4], vh⟩ = .ok .nx ⟨[x0, x1, x2, some (.tup [.int n, .bl true, .bl true, .bl false]), none], vh⟩ := fun x0 x1 x2 x3 x4 => rfl
  refine runS_of ?_
  clear S h
  unfold g_l_refused
  by_cases w0 : w = 0
  · subst w0
    walk_at "fv"
    rw [x_try]
    walk_at "fv"
    exact ⟨_, rfl⟩
  · by_cases w1 : w = 1
    · subst w1
      walk_at "fv"
      rw [x_try]
      walk_at "fv"
      exact ⟨_, rfl⟩
    · walk_at "fv"
      rw [x_try]
      walk_at "fv"
      exact ⟨_, rfl⟩
end
/-! loops, cuts -/
theorem loop0 {ok : Fx.S → Prop} {t : D → M Out} {b : M Out} {s : Fx.S} (h : ok s) : loopM ok t b [] s = .ok .nx s := by
  rw [loopM]
  exact if_pos h
theorem loopS {ok : Fx.S → Prop} {t : D → M Out} {b : M Out} {d : D} {items : List D} {s s1 s2 : Fx.S} (h0 : ok s) (h1 : t d s = .ok .nx s1) (h2 : b s1 = .ok .nx s2) : loopM ok t b (d :: items) s = loopM ok t b items s2 := by
  rw [loopM]
  refine (if_pos h0).trans ?_
  rw [h1]
  dsimp only
  rw [h2]
theorem cut_to {ds : List D} {n : Nat} : Fx.cutD ds none (some (n : Int)) = ds.take n := by
  unfold Fx.cutD
  rw [show HT.sIx ds.length 0 none = 0 from rfl, show HT.sIx ds.length ds.length (some (n : Int)) = min n ds.length from HT.sIx_nat _ _ n, List.drop_zero, Nat.sub_zero]
  rcases Nat.le_total n ds.length with h | h
  · rw [Nat.min_eq_left h]
  · rw [Nat.min_eq_right h, List.take_length, List.take_of_length_le h]
theorem cut_fro {ds : List D} {n : Nat} (h : n ≤ ds.length) : Fx.cutD ds (some (n : Int)) none = ds.drop n := by
  unfold Fx.cutD
  rw [show HT.sIx ds.length ds.length none = ds.length from rfl, show HT.sIx ds.length 0 (some (n : Int)) = min n ds.length from HT.sIx_nat _ _ n, Nat.min_eq_left h, List.take_of_length_le (by rw [List.length_drop]; omega)]
theorem loopR {ok : Fx.S → Prop} {t : D → M Out} {b : M Out} {d v : D} {items : List D} {s s1 s2 : Fx.S} (h0 : ok s) (h1 : t d s = .ok .nx s1) (h2 : b s1 = .ok (.rt v) s2) : loopM ok t b (d :: items) s = .ok (.rt v) s2 := by
  rw [loopM]
  refine (if_pos h0).trans ?_
  rw [h1]
  dsimp only
  rw [h2]
/-! a page kept, told whether it is new -/
section
variable {wd : World} {vh : List Cell} {pp a b : Nat} {c : Int} {ps : Shelf}
theorem t_keptX (S : Sto wd vh pp a b c ps) {j : Nat} {p : Pg} (hp : p.ok) (hj : vh[j]? = some p.cell) (hl : ps.length ≤ 16000000) :
    ∃ n c' ps' vh', F_Pages_kept wd [.cell pp, .cell j] vh = some (.int n, vh') ∧ vh'.length = vh.length ∧ Ext pp a b vh vh' ∧ Sto wd vh' pp a b c' ps' ∧ ((Has ps n p ∧ c' = c ∧ ps' = ps) ∨ ((∀ m, ¬ Has ps m p) ∧ n = c ∧ c' = c + 1 ∧ ps' = ps ++ [(c, p, j)])) := by
  obtain ⟨n1, n2, n3⟩ := S.ne
  have e1 := t_told hp hj
  have k1 := (Pg.nkey hp).1
  have hpp := S.hp
  have haa := S.ha
  have hbb := S.hb
  have l1 : (ps.map fun x => ((.inl x.1 : Key), D.cell x.2.2)).length < 16777216 := by rw [List.length_map]; omega
  have l2 : (ps.map fun x => (x.2.1.key, D.int x.1)).length < 16777216 := by rw [List.length_map]; omega
  have alt : ∀ st, ((metR "Leaf" "told" vh[j]? (callR (F_Page_told [.cell j] vh) st)).alt (metR "Twig" "told" vh[j]? (callR (F_Page_told [.cell j] vh) st))) = .ok p.told st := fun st => by
    rw [e1, hj]
    unfold Pg.cell
    split
    · simp only [pm_1, x_callR, x_altO]
    · simp only [pm_12, pm_7, x_callR, x_altB]
  by_cases z : ∃ n, Has ps n p
  · obtain ⟨n, k, hk⟩ := z
    have hv := valN_some hp hk fun x hx => ⟨(S.hc x hx).2.1, fun e => S.nd x hx _ hk (.inr e)⟩
    refine ⟨n, c, ps, vh, runS_of ?_, rfl, Ext.refl _, S, .inl ⟨⟨k, hk⟩, rfl, rfl⟩⟩
    have e2 : ∀ l', nInM wd true p.told (.cell b) ⟨l', vh⟩ = .ok (.bl true) ⟨l', vh⟩ := fun l' => by
      rw [x_nin hbb k1, hv]; rfl
    have e3 : ∀ l', nGetM wd (.cell b) p.told ⟨l', vh⟩ = .ok (.int n) ⟨l', vh⟩ := fun l' => x_nget hbb k1 hv
    clear S hk hv haa hbb l1 l2 hj e1 k1 hl hp n1 n2 n3
    unfold g_Pages_kept
    generalize p.told = T at *
    walk_at "fp"
    exact ⟨_, rfl⟩
  · have hv := valN_none (ps := ps) hp fun x hx => ⟨(S.hc x hx).2.1, fun e => z ⟨x.1, x.2.2, by rw [← e]; exact hx⟩⟩
    have hst : putA (ps.map fun x => ((.inl x.1 : Key), D.cell x.2.2)) (.inl c) (.cell j) = (ps ++ [(c, p, j)]).map fun x => ((.inl x.1 : Key), D.cell x.2.2) := by
      rw [putA_app, List.map_append]; rfl
      intro x hx e
      obtain ⟨y, hy, rfl⟩ := List.mem_map.mp hx
      injection e with e
      have := (S.hc y hy).2.2
      omega
    have hkn : putN (ps.map fun x => (x.2.1.key, D.int x.1)) p.key (.int c) = (ps ++ [(c, p, j)]).map fun x => (x.2.1.key, D.int x.1) := by
      unfold putN
      rw [hv, List.map_append]; rfl
    have e2 : ∀ l', nInM wd true p.told (.cell b) ⟨l', vh⟩ = .ok (.bl false) ⟨l', vh⟩ := fun l' => by
      rw [x_nin hbb k1, hv]; rfl
    obtain ⟨v1, hv1⟩ : ∃ v1, v1 = vh.set pp (pgO a b (c + 1)) := ⟨_, rfl⟩
    obtain ⟨v2, hv2⟩ : ∃ v2, v2 = v1.set a (.dct ((ps ++ [(c, p, j)]).map fun x => ((.inl x.1 : Key), D.cell x.2.2))) := ⟨_, rfl⟩
    obtain ⟨v3, hv3⟩ : ∃ v3, v3 = v2.set b (.dctN wd ((ps ++ [(c, p, j)]).map fun x => (x.2.1.key, D.int x.1))) := ⟨_, rfl⟩
    have q0 : v1[pp]? = some (pgO a b (c + 1)) := by rw [hv1]; exact List.getElem?_set_self (lt_of hpp)
    have q1 : v1[a]? = some (.dct (ps.map fun x => ((.inl x.1 : Key), D.cell x.2.2))) := by rw [hv1, List.getElem?_set_ne n1]; exact haa
    have q2 : v2[pp]? = some (pgO a b (c + 1)) := by rw [hv2, List.getElem?_set_ne (Ne.symm n1)]; exact q0
    have q3 : v2[b]? = some (.dctN wd (ps.map fun x => (x.2.1.key, D.int x.1))) := by rw [hv2, List.getElem?_set_ne n3, hv1, List.getElem?_set_ne n2]; exact hbb
    have e3 : ∀ l', nPutM wd (.int c) (.cell b) p.told ⟨l', v2⟩ = .ok .nx ⟨l', v3⟩ := fun l' => by
      rw [x_nputM q3 k1 l2, hkn, hv3]
    have off : ∀ i, i ≠ pp → i ≠ a → i ≠ b → v3[i]? = vh[i]? := fun i h1 h2 h3 => by
      rw [hv3, List.getElem?_set_ne (Ne.symm h3), hv2, List.getElem?_set_ne (Ne.symm h2), hv1, List.getElem?_set_ne (Ne.symm h1)]
    have len : v3.length = vh.length := by rw [hv3, List.length_set, hv2, List.length_set, hv1, List.length_set]
    have r0 : v3[pp]? = some (pgO a b (c + 1)) := by rw [hv3, List.getElem?_set_ne (Ne.symm n2)]; exact q2
    have r1 : v3[a]? = some (.dct ((ps ++ [(c, p, j)]).map fun x => ((.inl x.1 : Key), D.cell x.2.2))) := by rw [hv3, List.getElem?_set_ne (Ne.symm n3), hv2]; exact List.getElem?_set_self (lt_of q1)
    have r2 : v3[b]? = some (.dctN wd ((ps ++ [(c, p, j)]).map fun x => (x.2.1.key, D.int x.1))) := by rw [hv3]; exact List.getElem?_set_self (lt_of q3)
    refine ⟨c, c + 1, ps ++ [(c, p, j)], v3, runS_of ⟨[some (.cell pp), some (.cell j), some p.told, some (.int c)], ?_⟩, len, ⟨Nat.le_of_eq len.symm, fun i _ h1 h2 h3 => off i h1 h2 h3⟩, ⟨r0, r1, r2, fun x hx => ?_, fun x hx y hy e => ?_⟩, .inr ⟨fun m h => z ⟨m, h⟩, rfl, rfl, rfl⟩⟩
    · clear q3 r0 r1 r2 off len hv3 hkn hv hbb e1 hj z S n1 n2 n3 k1 hp l2 hl
      rw [← hst] at hv2
      have hw1 := hv1.symm
      have hw2 := hv2.symm
      clear hst hv1 hv2
      unfold g_Pages_kept
      generalize p.told = T at *
      generalize (ps.map fun x => ((.inl x.1 : Key), D.cell x.2.2)) = st at *
      walk_at "fp"
    · rcases List.mem_append.mp hx with hx | hx
      · obtain ⟨b1, b2, b3⟩ := S.hc x hx
        obtain ⟨o1, o2, o3⟩ := S.off b1
        exact ⟨by rw [off _ o1 o2 o3]; exact b1, b2, by omega⟩
      · rw [List.mem_singleton.mp hx]
        obtain ⟨o1, o2, o3⟩ := S.off hj
        exact ⟨by rw [off _ o1 o2 o3]; exact hj, hp, by show c < c + 1; omega⟩
    · rcases List.mem_append.mp hx with hx | hx <;> rcases List.mem_append.mp hy with hy | hy
      · exact S.nd x hx y hy e
      · rw [List.mem_singleton.mp hy] at e ⊢
        rcases e with e | e
        · have := (S.hc x hx).2.2
          rw [e] at this
          exact absurd this (Int.lt_irrefl _)
        · exact absurd ⟨x.1, x.2.2, by rw [← (show x.2.1 = p from e)]; exact hx⟩ z
      · rw [List.mem_singleton.mp hx] at e ⊢
        rcases e with e | e
        · have := (S.hc y hy).2.2
          rw [← e] at this
          exact absurd this (Int.lt_irrefl _)
        · exact absurd ⟨y.1, y.2.2, by rw [show p = y.2.1 from e]; exact hy⟩ z
      · rw [List.mem_singleton.mp hx, List.mem_singleton.mp hy]
end
/-! the law's account, and the law's deed of keeping -/
theorem set_sameC {u : List Cell} {n : Nat} {x : Cell} (h : u[n]? = some x) : u.set n x = u := by
  obtain ⟨h1, h2⟩ := List.getElem?_eq_some_iff.mp h
  rw [← h2, List.set_getElem_self]
theorem T0.nb {n : Nat} {d : D} (h : T0 n d) : nbD d = true := by
  induction h with
  | non => rfl
  | int _ => rfl
  | tx _ => rfl
  | tup _ ih => exact nbL_all ih
def tdK (ps : Shelf) : List (Key × D) := ps.map fun x => ((.inl x.1 : Key), x.2.1.told)
structure Acc (wd : World) (vh : List Cell) (pp a b ac dc : Nat) (c : Int) (ps : Shelf) : Prop where
  S : Sto wd vh pp a b c ps
  hac : vh[ac]? = some (.lst [.cell dc, .int c])
  hdc : vh[dc]? = some (.dct (tdK ps))
  ne : dc ≠ a
open Classical in
noncomputable def dK (p : Pg) : Shelf → Int → Int
  | [], d => d
  | y :: r, d => dK p r (if y.2.1 = p then y.1 else d)
def xK : Shelf → Option D → Option D
  | [], x => x
  | y :: r, _ => xK r (some (.int y.1))
theorem dK_none {p : Pg} : ∀ {ps : Shelf} {d : Int}, (∀ y ∈ ps, y.2.1 ≠ p) → dK p ps d = d
  | [], _, _ => rfl
  | y :: r, d, h => by
    unfold dK
    rw [if_neg (h y List.mem_cons_self)]
    exact dK_none fun z hz => h z (List.mem_cons_of_mem _ hz)
theorem dK_some {p : Pg} {n : Int} : ∀ {ps : Shelf} {d : Int}, (∀ y ∈ ps, y.2.1 = p → y.1 = n) → (d = n ∨ ∃ y ∈ ps, y.2.1 = p) → dK p ps d = n
  | [], d, _, h2 => by
    rcases h2 with h2 | ⟨y, hy, _⟩
    · exact h2
    · cases hy
  | y :: r, d, h, h2 => by
    unfold dK
    refine dK_some (fun z hz => h z (List.mem_cons_of_mem _ hz)) ?_
    split
    · next e => exact .inl (h y List.mem_cons_self e)
    · next e =>
      rcases h2 with h2 | ⟨z, hz, he⟩
      · exact .inl h2
      · rcases List.mem_cons.mp hz with hz | hz
        · rw [hz] at he; exact absurd he e
        · exact .inr ⟨z, hz, he⟩
theorem tdK_at {ps : Shelf} {n : Int} {p : Pg} {k : Nat} (h : (n, p, k) ∈ ps) (u : ∀ x ∈ ps, x.1 = n → x = (n, p, k)) : valA (tdK ps) (.inl n) = some p.told := by
  unfold tdK
  induction ps with
  | nil => cases h
  | cons y r ih =>
    unfold valA
    rw [List.map_cons, List.find?_cons]
    by_cases e : y.1 = n
    · have := u y List.mem_cons_self e
      subst this
      rw [decide_eq_true rfl]
      rfl
    · rw [decide_eq_false (fun z => e (by injection z))]
      have h' : (n, p, k) ∈ r := by
        rcases List.mem_cons.mp h with z | z
        · exact absurd (by rw [← z]) e
        · exact z
      exact ih h' fun x hx => u x (List.mem_cons_of_mem _ hx)
theorem tdK_none {ps : Shelf} {n : Int} (h : ∀ p, ¬ Has ps n p) : valA (tdK ps) (.inl n) = none := by
  unfold tdK valA
  rw [List.find?_eq_none.mpr fun y hy => ?_]
  · rfl
  · obtain ⟨x, hx, rfl⟩ := List.mem_map.mp hy
    rw [decide_eq_true_eq]
    intro e
    injection e with e
    obtain ⟨x1, x2, x3⟩ := x
    dsimp only at e
    subst e
    exact h x2 ⟨x3, hx⟩
section
variable {wd : World} {vh : List Cell} {pp a b ac dc : Nat} {c : Int} {ps : Shelf}
theorem Acc.td (A : Acc wd vh pp a b ac dc c ps) {n : Int} {p : Pg} (h : Has ps n p) : valA (tdK ps) (.inl n) = some p.told := by
  obtain ⟨k, hk⟩ := h
  exact tdK_at hk fun x hx e => A.S.nd x hx _ hk (.inl e)
theorem Acc.off (A : Acc wd vh pp a b ac dc c ps) : ac ≠ pp ∧ ac ≠ a ∧ ac ≠ b ∧ dc ≠ pp ∧ dc ≠ a ∧ dc ≠ b ∧ ac ≠ dc := by
  obtain ⟨o1, o2, o3⟩ := A.S.offL A.hac
  refine ⟨o1, o2, o3, fun e => ?_, A.ne, fun e => ?_, fun e => ?_⟩
  · have := A.hdc; rw [e, A.S.hp] at this; cases this
  · have := A.hdc; rw [e, A.S.hb] at this; cases this
  · have := A.hac; rw [e, A.hdc] at this; cases this
theorem t_whole (i : Int) (vh : List Cell) : F_l_whole [.int i] vh = some (.bl true) := by
  refine runP_of ?_ rfl
  unfold g_l_whole
  walk_at "fyh"
  exact ⟨_, rfl⟩
open Classical in
theorem turnK {v : List Cell} {o : Obj} {us : List (Key × V)} {kvs : List (Key × D)} (hU : v[dc]? = some (.dctL o us kvs)) (hac : v[ac]? = some (.lst [.cell dc, .int c])) {n d : Int} {p q : Pg} (hp : p.ok) (hq : q.ok) (hv : valA kvs (.inl n) = some q.told) (P : D) :
    b_l_kept_1 wd ⟨[some P, some (.cell ac), some p.told, some (.int d), some (.int n), none], v⟩ = .ok .nx ⟨[some P, some (.cell ac), some p.told, some (.int (dK p [(n, q, 0)] d)), some (.int n), none], v⟩ := by
  have eq : ∀ s, eqM q.told p.told s = .ok (.bl (decide (q = p))) s := fun s => by
    by_cases z : q = p
    · rw [z, decide_eq_true rfl]
      exact x_eqSelf ((told_T0 hp).eqd.mono (by decide))
    · rw [decide_eq_false z]
      refine x_eqNe ((told_T0 hq).eqd.mono (by decide)) ((told_T0 hp).eqd.mono (by decide)) (told_T0 hq).nb (told_T0 hp).nb fun e => z ?_
      refine Pg.inj hq hp ?_
      unfold Pg.key
      rw [e]
  have e0 : dK p [(n, q, 0)] d = if q = p then n else d := by
    unfold dK dK
    split <;> rfl
  have a0 : atI [D.cell dc, D.int c] 0 = some (D.cell dc) := at_hd _ _
  have dr : ∀ s, ixCR (some (.dctL o us kvs)) n s = .ok q.told s := fun s => by
    show Res.opt (valA kvs (.inl n)) s = _
    rw [hv]
    rfl
  clear hv
  rw [e0]
  clear hp hq e0
  generalize q.told = E at *
  generalize p.told = T at *
  by_cases z : q = p
  · rw [if_pos z]
    rw [decide_eq_true z] at eq
    clear z
    unfold b_l_kept_1
    walk_at "fp"
  · rw [if_neg z]
    rw [decide_eq_false z] at eq
    clear z
    unfold b_l_kept_1
    walk_at "fp"
theorem loopK {v : List Cell} {o : Obj} {us : List (Key × V)} {kvs : List (Key × D)} (hU : v[dc]? = some (.dctL o us kvs)) (hac : v[ac]? = some (.lst [.cell dc, .int c])) {p : Pg} (hp : p.ok) (P : D) :
    ∀ (L : Shelf) (d : Int) (x : Option D), (∀ y ∈ L, y.2.1.ok ∧ valA kvs (.inl y.1) = some y.2.1.told) →
      loopM (fun s' => s'.vh[dc]? = some (.dctL o us kvs)) (setL 4) (b_l_kept_1 wd) (L.map fun y => D.int y.1) ⟨[some P, some (.cell ac), some p.told, some (.int d), x, none], v⟩ = .ok .nx ⟨[some P, some (.cell ac), some p.told, some (.int (dK p L d)), xK L x, none], v⟩
  | [], d, x, _ => loop0 (ok := fun s' => s'.vh[dc]? = some (.dctL o us kvs)) hU
  | (n, q, k) :: r, d, x, h => by
    have t := turnK (wd := wd) hU hac hp (h _ List.mem_cons_self).1 (h _ List.mem_cons_self).2 (d := d) P
    rw [List.map_cons, loopS (s2 := ⟨[some P, some (.cell ac), some p.told, some (.int (dK p [(n, q, 0)] d)), some (.int n), none], v⟩) (hU : (⟨[some P, some (.cell ac), some p.told, some (.int d), x, none], v⟩ : Fx.S).vh[dc]? = some (.dctL o us kvs)) (show setL 4 (.int n) _ = .ok .nx ⟨[some P, some (.cell ac), some p.told, some (.int d), some (.int n), none], v⟩ from rfl) t, loopK hU hac hp P r _ _ fun y hy => h y (List.mem_cons_of_mem _ hy)]
    rfl
theorem t_walkK (A : Acc wd vh pp a b ac dc c ps) {p : Pg} (hp : p.ok) (P : D) :
    lockP 1 0 (forM (bnd (bin ixAM (getL 1) (ret (.int 0))) keysI) (setL 4) (b_l_kept_1 wd)) ⟨[some P, some (.cell ac), some p.told, some (.int c), none, none], vh⟩ = .ok .nx ⟨[some P, some (.cell ac), some p.told, some (.int (dK p ps c)), xK ps none, none], vh⟩ := by
  refine (x_lockP (n := dc) (kvs := tdK ps) (l' := [some P, some (.cell ac), some p.told, some (.int (dK p ps c)), xK ps none, none]) (vh' := vh) (a := .nx) (plC_at rfl A.hac rfl) A.hdc (lt_of A.hdc) fun o us => ?_).trans (by rw [set_sameC A.hdc])
  have hU : (vh.set dc (.dctL o us (tdK ps)))[dc]? = some (.dctL o us (tdK ps)) := List.getElem?_set_self (lt_of A.hdc)
  have hac : (vh.set dc (.dctL o us (tdK ps)))[ac]? = some (.lst [.cell dc, .int c]) := by rw [List.getElem?_set_ne (Ne.symm A.off.2.2.2.2.2.2)]; exact A.hac
  have lp := loopK (wd := wd) hU hac hp P ps c none fun y hy => ⟨(A.S.hc y hy).2.1, A.td ⟨y.2.2, hy⟩⟩
  generalize vh.set dc (.dctL o us (tdK ps)) = U at *
  have a0 : atI [D.cell dc, D.int c] 0 = some (D.cell dc) := at_hd _ _
  have ki : ∀ l, keysI (.cell dc) ⟨l, U⟩ = .ok ⟨ps.map fun y => D.int y.1, fun s' => s'.vh[dc]? = some (.dctL o us (tdK ps))⟩ ⟨l, U⟩ := fun l => by
    unfold keysI
    dsimp only
    rw [hU]
    unfold tdK
    dsimp only
    rw [List.map_map]
    rfl
  clear A hU hp
  generalize p.told = T at *
  generalize (ps.map fun y => D.int y.1) = IT at *
  generalize dK p ps c = d' at *
  generalize xK ps none = x' at *
  generalize tdK ps = kvs at *
  walk_at "fyh"
end
/-! the deed of keeping -/
local macro_rules | `(tactic| walk_at "fw") => `(tactic| ((try walk_at "fv"); repeat (simp (disch := first | assumption | omega) only [*, x_lput, x_dput, x_dputR, x_altO, x_altB]; try walk_at "fv")))
def Mv (pp a b ac dc : Nat) (vh vh' : List Cell) : Prop := vh.length ≤ vh'.length ∧ ∀ i, i < vh.length → i ≠ pp → i ≠ a → i ≠ b → i ≠ ac → i ≠ dc → vh'[i]? = vh[i]?
section
variable {wd : World} {vh : List Cell} {pp a b ac dc : Nat} {c : Int} {ps : Shelf}
theorem Mv.refl : Mv pp a b ac dc vh vh := ⟨Nat.le_refl _, fun _ _ _ _ _ _ _ => rfl⟩
theorem Sto.setOff (S : Sto wd vh pp a b c ps) {m : Nat} {x y : Cell} (hm : vh[m]? = some y) (h1 : m ≠ pp) (h2 : m ≠ a) (h3 : m ≠ b) (hy : ∀ p : Pg, p.cell ≠ y) : Sto wd (vh.set m x) pp a b c ps := S.keep fun i z h o => by
  rw [List.getElem?_set_ne]
  · exact h
  · intro e
    subst e
    rcases o with e | e | e | ⟨p, e⟩
    · exact h1 e
    · exact h2 e
    · exact h3 e
    · rw [hm] at h
      cases h
      exact hy p e.symm
theorem dct_ne {p : Pg} {kvs : List (Key × D)} : p.cell ≠ .dct kvs := by
  unfold Pg.cell
  split <;> exact fun e => by cases e
theorem Acc.app (A : Acc wd vh pp a b ac dc c ps) (more : List Cell) : Acc wd (vh ++ more) pp a b ac dc c ps :=
  ⟨A.S.app more, by rw [List.getElem?_append_left (lt_of A.hac)]; exact A.hac, by rw [List.getElem?_append_left (lt_of A.hdc)]; exact A.hdc, A.ne⟩
theorem Has.lt (A : Acc wd vh pp a b ac dc c ps) {n : Int} {p : Pg} (h : Has ps n p) : n < c := let ⟨_, hk⟩ := h; (A.S.hc _ hk).2.2
theorem t_lkept (A : Acc wd vh pp a b ac dc c ps) {p : Pg} (hp : p.ok) (hl : ps.length ≤ 1000) :
    ∃ c' ps' vh', F_l_kept wd [.cell pp, .cell ac, p.told] vh = some (.bl true, vh') ∧ Mv pp a b ac dc vh vh' ∧ Acc wd vh' pp a b ac dc c' ps' ∧ ps'.length ≤ ps.length + 1 := by
  obtain ⟨o1, o2, o3, o4, o5, o6, o7⟩ := A.off
  have A1 := A.app [p.cell]
  have wk := t_walkK A hp (.cell pp)
  have md := t_made hp vh
  have a1 : atI [D.cell dc, D.int c] 1 = some (D.int c) := at_snd _ _ _
  have a0 : atI [D.cell dc, D.int c] 0 = some (D.cell dc) := at_hd _ _
  obtain ⟨n, c', ps', v2, k1, k2, k3, k4, k5⟩ := t_keptX A1.S hp (j := vh.length) (by rw [List.getElem?_append_right (Nat.le_refl _), Nat.sub_self]; rfl) (by omega)
  have hac := A.hac
  have hpp := A1.S.hp
  have hpp0 := A.S.hp
  have hac2 : v2[ac]? = some (.lst [.cell dc, .int c]) := k3.at A1.hac ⟨o1, o2, o3⟩
  have hdc2 : v2[dc]? = some (.dct (tdK ps)) := k3.at A1.hdc ⟨o4, o5, o6⟩
  have wh := t_whole n v2
  have mv2 : Mv pp a b ac dc vh v2 := ⟨by rw [k2, List.length_append]; omega, fun i hi h1 h2 h3 _ _ => by
    rw [k3.2 i (by rw [List.length_append]; omega) h1 h2 h3, List.getElem?_append_left hi]⟩
  rcases k5 with ⟨h, rfl, rfl⟩ | ⟨h, rfl, rfl, rfl⟩
  · have dn : dK p ps' c' = n := by
      obtain ⟨k, hk⟩ := h
      exact dK_some (fun y hy e => by have := A.S.nd y hy _ hk (.inr e); rw [this]) (.inr ⟨_, hk, rfl⟩)
    have nc : ¬ n = c' := by have := Has.lt A h; omega
    refine ⟨c', ps', v2, runS_of ?_, mv2, ⟨k4, hac2, hdc2, A.ne⟩, Nat.le_succ _⟩
    rw [dn] at wk
    clear A A1 k2 k3 k4 mv2 h dn hp hdc2 hl o1 o2 o3 o4 o5 o6 o7
    generalize p.told = T at *
    generalize xK ps' none = X at *
    generalize vh ++ [p.cell] = v1 at *
    unfold g_l_kept
    walk_at "fw"
    unfold r_l_kept_1
    walk_at "fw"
    exact ⟨_, rfl⟩
  · have dn : dK p ps n = n := dK_none fun y hy e => h y.1 ⟨y.2.2, by rw [← e]; exact hy⟩
    rw [dn] at wk
    have pa : putA (tdK ps) (.inl n) p.told = tdK (ps ++ [(n, p, vh.length)]) := by
      unfold tdK
      rw [putA_app, List.map_append]; rfl
      intro x hx e
      obtain ⟨y, hy, rfl⟩ := List.mem_map.mp hx
      injection e with e
      have := (A.S.hc y hy).2.2
      omega
    obtain ⟨v3, hv3⟩ : ∃ v3, v2.set dc (.dct (tdK (ps ++ [(n, p, vh.length)]))) = v3 := ⟨_, rfl⟩
    obtain ⟨v4, hv4⟩ : ∃ v4, v3.set ac (.lst [.cell dc, .int (n + 1)]) = v4 := ⟨_, rfl⟩
    have l3 : v3.length = v2.length := by rw [← hv3, List.length_set]
    have l4 : v4.length = v2.length := by rw [← hv4, List.length_set, l3]
    have hac3 : v3[ac]? = some (.lst [.cell dc, .int n]) := by rw [← hv3, List.getElem?_set_ne (Ne.symm o7)]; exact hac2
    have hac4 : v4[ac]? = some (.lst [.cell dc, .int (n + 1)]) := by rw [← hv4]; exact List.getElem?_set_self (lt_of hac3)
    have hdc4 : v4[dc]? = some (.dct (tdK (ps ++ [(n, p, vh.length)]))) := by rw [← hv4, List.getElem?_set_ne o7, ← hv3]; exact List.getElem?_set_self (lt_of hdc2)
    have S3 : Sto wd v3 pp a b (n + 1) (ps ++ [(n, p, vh.length)]) := by rw [← hv3]; exact k4.setOff hdc2 o4 o5 o6 fun _ => dct_ne
    have S4 : Sto wd v4 pp a b (n + 1) (ps ++ [(n, p, vh.length)]) := by rw [← hv4]; exact S3.setOff hac3 o1 o2 o3 fun _ => lst_ne
    refine ⟨n + 1, _, v4, runS_of ?_, ⟨by rw [l4]; exact mv2.1, fun i hi h1 h2 h3 h4 h5 => by
      rw [← hv4, List.getElem?_set_ne (Ne.symm h4), ← hv3, List.getElem?_set_ne (Ne.symm h5)]
      exact mv2.2 i hi h1 h2 h3 h4 h5⟩, ⟨S4, hac4, hdc4, A.ne⟩, by rw [List.length_append]; exact Nat.le_refl _⟩
    have lb : ∀ s, lputR p.told dc n (some (.dct (tdK ps))) s = .bad := fun _ => rfl
    have lr : ∀ s, lputR (.int (n + 1)) ac 1 (some (.lst [.cell dc, .int n])) s = .ok .nx ⟨s.loc, s.vh.set ac (.lst [.cell dc, .int (n + 1)])⟩ := fun _ => rfl
    have dl : (tdK ps).length < 16777216 := by unfold tdK; rw [List.length_map]; omega
    clear A A1 k2 k3 k4 mv2 h dn hp hl o1 o2 o3 o4 o5 o6 o7 l3 l4 hac4 hdc4 S3 S4
    generalize tdK (ps ++ [(n, p, vh.length)]) = kv2 at *
    generalize tdK ps = kvs at *
    generalize p.told = T at *
    generalize xK ps none = X at *
    generalize vh ++ [p.cell] = v1 at *
    unfold g_l_kept
    walk_at "fw"
    unfold r_l_kept_1
    walk_at "fw"
    exact ⟨_, rfl⟩
end
/-! a deed -/
theorem intKs_td : ∀ (qs : Shelf), intKs (tdK qs) = some (qs.map (·.1))
  | [] => rfl
  | y :: qs => by
    have ih := intKs_td qs
    unfold tdK at *
    rw [List.map_cons, List.map_cons]
    unfold intKs
    rw [ih]
    rfl
theorem intKs_sh : ∀ (qs : Shelf), intKs (qs.map fun x => ((.inl x.1 : Key), D.cell x.2.2)) = some (qs.map (·.1))
  | [] => rfl
  | y :: qs => by
    have ih := intKs_sh qs
    rw [List.map_cons, List.map_cons]
    unfold intKs
    rw [ih]
    rfl
theorem dropA_td {ps : Shelf} {n : Int} : dropA (tdK ps) (.inl n) = tdK (without ps n) := by
  unfold tdK
  rw [dropA_map]
  unfold without
  congr 1
  refine List.filter_congr fun x _ => ?_
  by_cases z : x.1 = n
  · rw [decide_eq_false (by rw [z]; simp), decide_eq_false (by simp [z])]
  · rw [decide_eq_true (by intro e; injection e with e; exact z e), decide_eq_true z]
section
variable {wd : World} {vh : List Cell} {pp a b ac dc : Nat} {c : Int} {ps : Shelf}
theorem t_skip {u : List Cell} {pp a b : Nat} {c n : Int} (h : u[pp]? = some (pgO a b c)) : F_Pages_skip [.cell pp, .int n] u = some (.non, u.set pp (pgO a b (if n > c then n else c))) := by
  refine runS_nx ?_
  unfold g_Pages_skip
  walk_at "fp"
  exact ⟨_, rfl⟩
theorem Sto.skip (S : Sto wd vh pp a b c ps) {m : Int} (h : c ≤ m) : Sto wd (vh.set pp (pgO a b m)) pp a b m ps := by
  obtain ⟨n1, n2, n3⟩ := S.ne
  refine ⟨List.getElem?_set_self (lt_of S.hp), by rw [List.getElem?_set_ne n1]; exact S.ha, by rw [List.getElem?_set_ne n2]; exact S.hb, fun x hx => ?_, S.nd⟩
  obtain ⟨b1, b2, b3⟩ := S.hc x hx
  exact ⟨by rw [List.getElem?_set_ne (Ne.symm (S.off b1).1)]; exact b1, b2, by omega⟩
abbrev LD (pp ac : Nat) (x n : Int) (L : List Int) (vh : List Cell) (z : Option D) : S := ⟨[some (.cell pp), some (.cell ac), some (.int x), some (.int (x % 6)), some (.int n), some (.lst (L.map D.int)), z], vh⟩
theorem t_head (A : Acc wd vh pp a b ac dc c ps) (hl : ps.length ≤ 1000) (x : Int) : ∃ n L, g_l_deed wd (initS 7 [.cell pp, .cell ac, .int x] vh) = r_l_deed_5 wd (LD pp ac x n L vh none) := by
  have hac := A.hac
  have a1 : atI [D.cell dc, D.int c] 1 = some (D.int c) := at_snd _ _ _
  have a0 : atI [D.cell dc, D.int c] 0 = some (D.cell dc) := at_hd _ _
  have so : ∀ l, sortDM [.cell dc] ⟨l, vh⟩ = .ok (.lst ((sortZ (ps.map (·.1))).map D.int)) ⟨l, vh⟩ := fun l => x_sortDA (dctR_at A.hdc) (intKs_td ps) (by rw [List.length_map]; omega)
  have d6 : ∀ s, divM (.int x) (.int 6) s = .ok (.int (x / 6)) s := fun s => x_div (by decide) (by decide)
  have d420 : ∀ s, divM (.int x) (.int 420) s = .ok (.int (x / 420)) s := fun s => x_div (by decide) (by decide)
  have d840 : ∀ s, divM (.int x) (.int 840) s = .ok (.int (x / 840)) s := fun s => x_div (by decide) (by decide)
  have m6 : ∀ s, modM (.int x) (.int 6) s = .ok (.int (x % 6)) s := fun s => x_mod (by decide)
  have m2 : ∀ s, modM (.int (x / 420)) (.int 2) s = .ok (.int (x / 420 % 2)) s := fun s => x_mod (by decide)
  have m70 : ∀ s, modM (.int (x / 6)) (.int 70) s = .ok (.int (x / 6 % 70)) s := fun s => x_mod (by decide)
  have mc : ∀ s, modM (.int c) (.int 1000) s = .ok (.int (c % 1000)) s := fun s => x_mod (by decide)
  have mm : ∀ s, modM (.int (x / 6)) (.int (c % 1000 + 5)) s = .ok (.int (x / 6 % (c % 1000 + 5))) s := fun s => x_mod (by have := Int.emod_nonneg c (show (1000 : Int) ≠ 0 by decide); omega)
  obtain ⟨Z, hZ⟩ : ∃ Z, Z = sortZ (ps.map (·.1)) := ⟨_, rfl⟩
  rw [← hZ] at so
  have lz : ∀ s, lenM [.lst (Z.map D.int)] s = .ok (.int (Z.length : Int)) s := fun s => by rw [x_lenL, List.length_map]
  have body : ∀ n0 : Int, ∃ n : Int, ∀ l0 : Option D, seqM (ifM (andT (tst (bin eqM (bin modM (bin divM (getL 2) (ret (.int 420))) (ret (.int 2))) (ret (.int 1)))) (tst (bin gtM (bnd (consM (getL 5) (ret [])) lenM) (ret (.int 0))))) (asgM (bin ixAM (getL 5) (bin modM (bin divM (getL 2) (ret (.int 840))) (bnd (consM (getL 5) (ret [])) lenM))) (setL 4)) (ret .nx))
    (r_l_deed_5 wd) (LD pp ac x n0 Z vh none) = r_l_deed_5 wd (LD pp ac x n Z vh none) := fun n0 => by
    by_cases z : x / 420 % 2 = 1 ∧ 0 < (Z.length : Int)
    · obtain ⟨z1, z2⟩ := z
      have ml : ∀ s, modM (.int (x / 840)) (.int (Z.length : Int)) s = .ok (.int (x / 840 % (Z.length : Int))) s := fun s => x_mod z2
      have ix : atI (Z.map D.int) (x / 840 % (Z.length : Int)) = some ((Z.map D.int).getD (x / 840 % (Z.length : Int)).toNat D.non) := atI_mod D.non z2 (by rw [List.length_map])
      obtain ⟨y, hy⟩ : ∃ y, (Z.map D.int).getD (x / 840 % (Z.length : Int)).toNat D.non = D.int y := by
        have b1 := Int.emod_nonneg (x / 840) (show (Z.length : Int) ≠ 0 by omega)
        have b2 := Int.emod_lt_of_pos (x / 840) z2
        have b3 : (x / 840 % (Z.length : Int)).toNat < Z.length := by omega
        refine ⟨Z[(x / 840 % (Z.length : Int)).toNat], ?_⟩
        rw [List.getD_eq_getElem?_getD, List.getElem?_eq_getElem (by rw [List.length_map]; exact b3), Option.getD_some, List.getElem_map]
      rw [hy] at ix
      refine ⟨y, fun _ => ?_⟩
      clear hZ hy mm mc m70 d6 so m6 a0 a1 hac hl A
      unfold LD
      generalize Z.map D.int = ZD at *
      generalize (Z.length : Int) = zl at *
      walk_at "fw"
    · refine ⟨n0, fun _ => ?_⟩
      clear hZ mm mc m70 d6 so m6 a0 a1 hac hl A
      unfold LD
      generalize Z.map D.int = ZD at *
      generalize (Z.length : Int) = zl at *
      by_cases z1 : x / 420 % 2 = 1
      · have z2 : ¬ 0 < zl := fun h => z ⟨z1, h⟩
        clear z
        walk_at "fw"
      · clear z
        walk_at "fw"
  by_cases z : 1000 < c
  · obtain ⟨n, hn⟩ := body (c + 1 - x / 6 % 70)
    refine ⟨n, Z, ?_⟩
    rw [← hn none]
    clear hn body d420 d840 m2 lz hZ A hl
    unfold LD g_l_deed
    generalize Z.map D.int = ZD at *
    walk_at "fw"
  · obtain ⟨n, hn⟩ := body (x / 6 % (c % 1000 + 5) - 2)
    refine ⟨n, Z, ?_⟩
    rw [← hn none]
    clear hn body d420 d840 m2 lz hZ A hl
    unfold LD g_l_deed
    generalize Z.map D.int = ZD at *
    walk_at "fw"
end
/-! the deeds -/
section
variable {wd : World} {vh : List Cell} {pp a b ac dc : Nat} {c : Int} {ps : Shelf}
/-- what a deed leaves -/
def Dn (wd : World) (pp a b ac dc : Nat) (ps : Shelf) (vh : List Cell) (r : Res Out) : Prop := ∃ c' ps' vh' l, r = .ok (.rt (.bl true)) ⟨l, vh'⟩ ∧ Mv pp a b ac dc vh vh' ∧ Acc wd vh' pp a b ac dc c' ps' ∧ ps'.length ≤ ps.length + 1
theorem t_deed3 (A : Acc wd vh pp a b ac dc c ps) (x n : Int) (L : List Int) : Dn wd pp a b ac dc ps vh (r_l_deed_1 wd (LD pp ac x n L vh none)) := by
  obtain ⟨o1, o2, o3, o4, o5, o6, o7⟩ := A.off
  have hac := A.hac
  have hdc := A.hdc
  have hpp := A.S.hp
  have a0 : atI [D.cell dc, D.int c] 0 = some (D.cell dc) := at_hd _ _
  by_cases z : ∃ p, Has ps n p
  · obtain ⟨p, hp⟩ := z
    have hv := A.td hp
    obtain ⟨v1, hv1⟩ : ∃ v1, vh.set dc (.dct (tdK (without ps n))) = v1 := ⟨_, rfl⟩
    have S1 : Sto wd v1 pp a b c ps := by rw [← hv1]; exact A.S.setOff hdc o4 o5 o6 fun _ => dct_ne
    have hac1 : v1[ac]? = some (.lst [.cell dc, .int c]) := by rw [← hv1, List.getElem?_set_ne (Ne.symm o7)]; exact hac
    have hdc1 : v1[dc]? = some (.dct (tdK (without ps n))) := by rw [← hv1]; exact List.getElem?_set_self (lt_of hdc)
    have l1 : v1.length = vh.length := by rw [← hv1, List.length_set]
    have pm : ∀ l, popDM (.cell dc) (.int n) none ⟨l, vh⟩ = .ok p.told ⟨l, v1⟩ := fun l => by
      rw [x_popM hdc keyD_int hv, dropA_td, hv1]
    have dr : ∀ l, dctR ⟨l, vh⟩ (.cell dc) = some (tdK ps) := fun l => dctR_at hdc
    obtain ⟨v2, e1, e2, e3, e4⟩ := t_drop S1 hp
    have hpp1 := S1.hp
    have hac2 := e3.at hac1 ⟨o1, o2, o3⟩
    have hdc2 := e3.at hdc1 ⟨o4, o5, o6⟩
    refine ⟨c, without ps n, v2, [some (.cell pp), some (.cell ac), some (.int x), some (.int (x % 6)), some (.int n), some (.lst (L.map D.int)), none], ?_, ⟨by omega, fun i hi h1 h2 h3 h4 h5 => ?_⟩, ⟨e4, hac2, hdc2, A.ne⟩, ?_⟩
    · clear S1 hac1 hdc1 l1 e2 e3 e4 hac2 hdc2 hp A o1 o2 o3 o4 o5 o6 o7 hv1
      generalize tdK (without ps n) = kv2 at *
      generalize tdK ps = kvs at *
      generalize p.told = T at *
      unfold LD r_l_deed_1
      generalize L.map D.int = LM at *
      walk_at "fw"
    · rw [e3.2 i (by omega) h1 h2 h3, ← hv1, List.getElem?_set_ne (Ne.symm h5)]
    · have : (without ps n).length ≤ ps.length := List.length_filter_le _ _
      omega
  · have hv : valA (tdK ps) (.inl n) = none := tdK_none fun p h => z ⟨p, h⟩
    have rf := t_refused A.S (n := n) (fun p h => z ⟨p, h⟩) 2
    refine ⟨c, ps, vh, [some (.cell pp), some (.cell ac), some (.int x), some (.int (x % 6)), some (.int n), some (.lst (L.map D.int)), none], ?_, .refl, A, Nat.le_succ _⟩
    clear A o1 o2 o3 o4 o5 o6 o7 z
    generalize tdK ps = kvs at *
    unfold LD r_l_deed_1
    generalize L.map D.int = LM at *
    walk_at "fw"
theorem t_deed5 (A : Acc wd vh pp a b ac dc c ps) (x n : Int) (L : List Int) : Dn wd pp a b ac dc ps vh (r_l_deed_2 wd (LD pp ac x n L vh none)) := by
  have hac := A.hac
  have hdc := A.hdc
  have a0 : atI [D.cell dc, D.int c] 0 = some (D.cell dc) := at_hd _ _
  have d6 : ∀ s, divM (.int x) (.int 6) s = .ok (.int (x / 6)) s := fun s => x_div (by decide) (by decide)
  have m2 : ∀ s, modM (.int (x / 6)) (.int 2) s = .ok (.int (x / 6 % 2)) s := fun s => x_mod (by decide)
  refine ⟨c, ps, vh, [some (.cell pp), some (.cell ac), some (.int x), some (.int (x % 6)), some (.int n), some (.lst (L.map D.int)), none], ?_, .refl, A, Nat.le_succ _⟩
  by_cases z : ∃ p, Has ps n p
  · obtain ⟨p, hp⟩ := z
    have hv := A.td hp
    have pa := t_pageas A.S hp
    clear A hp
    generalize tdK ps = kvs at *
    generalize p.told = T at *
    unfold LD r_l_deed_2
    generalize L.map D.int = LM at *
    walk_at "fw"
  · have hv : valA (tdK ps) (.inl n) = none := tdK_none fun p h => z ⟨p, h⟩
    have rf := t_refused A.S (n := n) (fun p h => z ⟨p, h⟩) (x / 6 % 2)
    clear A z
    generalize tdK ps = kvs at *
    unfold LD r_l_deed_2
    generalize L.map D.int = LM at *
    walk_at "fw"
theorem t_deed4 (A : Acc wd vh pp a b ac dc c ps) (x n : Int) (L : List Int) (z : x % 6 = 4) : Dn wd pp a b ac dc ps vh (r_l_deed_3 wd (LD pp ac x n L vh none)) := by
  obtain ⟨o1, o2, o3, o4, o5, o6, o7⟩ := A.off
  have hac := A.hac
  have hpp := A.S.hp
  have a0 : atI [D.cell dc, D.int c] 0 = some (D.cell dc) := at_hd _ _
  have a1 : atI [D.cell dc, D.int c] 1 = some (D.int c) := at_snd _ _ _
  have d6 : ∀ s, divM (.int x) (.int 6) s = .ok (.int (x / 6)) s := fun s => x_div (by decide) (by decide)
  have m9 : ∀ s, modM (.int (x / 6)) (.int 9) s = .ok (.int (x / 6 % 9)) s := fun s => x_mod (by decide)
  have d54 : ∀ s, divM (.int x) (.int 54) s = .ok (.int (x / 54)) s := fun s => x_div (by decide) (by decide)
  have m54 : ∀ s, modM (.int (x / 54)) (.int 9) s = .ok (.int (x / 54 % 9)) s := fun s => x_mod (by decide)
  have d486 : ∀ s, divM (.int x) (.int 486) s = .ok (.int (x / 486)) s := fun s => x_div (by decide) (by decide)
  have pw : ∀ s, powM (.int 10) (.int 28) s = .ok (.int (10 ^ 28)) s := fun _ => rfl
  have m28 : ∀ s, modM (.int (x / 486)) (.int (10 ^ 28)) s = .ok (.int (x / 486 % 10 ^ 28)) s := fun s => x_mod (by decide)
  obtain ⟨T28, hT28⟩ : ∃ T : Int, T = 10 ^ 28 := ⟨_, rfl⟩
  rw [← hT28] at pw m28
  -- whatever the count
  have fin : ∀ m : Int, ∃ v2, (∃ v1, vh.set ac (.lst [.cell dc, .int (if m > c then m else c)]) = v1 ∧ v1.set pp (pgO a b (if m > c then m else c)) = v2 ∧ v1[pp]? = some (pgO a b c) ∧ F_Pages_skip [.cell pp, .int m] v1 = some (.non, v2)) ∧ Mv pp a b ac dc vh v2 ∧ Acc wd v2 pp a b ac dc (if m > c then m else c) ps := fun m => by
    have hc : c ≤ (if m > c then m else c) := by split <;> omega
    obtain ⟨v1, hv1⟩ : ∃ v1, vh.set ac (.lst [.cell dc, .int (if m > c then m else c)]) = v1 := ⟨_, rfl⟩
    have S1 : Sto wd v1 pp a b c ps := by rw [← hv1]; exact A.S.setOff hac o1 o2 o3 fun _ => lst_ne
    obtain ⟨v2, hv2⟩ : ∃ v2, v1.set pp (pgO a b (if m > c then m else c)) = v2 := ⟨_, rfl⟩
    have sk := t_skip (n := m) S1.hp
    rw [hv2] at sk
    refine ⟨v2, ⟨v1, hv1, hv2, S1.hp, sk⟩, ⟨by rw [← hv2, List.length_set, ← hv1, List.length_set]; exact Nat.le_refl _, fun i hi h1 h2 h3 h4 h5 => by rw [← hv2, List.getElem?_set_ne (Ne.symm h1), ← hv1, List.getElem?_set_ne (Ne.symm h4)]⟩, ⟨by rw [← hv2]; exact S1.skip hc, ?_, ?_, A.ne⟩⟩
    · rw [← hv2, List.getElem?_set_ne (Ne.symm o1), ← hv1]; exact List.getElem?_set_self (lt_of hac)
    · rw [← hv2, List.getElem?_set_ne (Ne.symm o4), ← hv1, List.getElem?_set_ne o7]; exact A.hdc
  have lr : ∀ (y : Int) s, lputR (.int y) ac 1 (some (.lst [.cell dc, .int c])) s = .ok .nx ⟨s.loc, s.vh.set ac (.lst [.cell dc, .int y])⟩ := fun y s => rfl
  by_cases z1 : x / 54 % 9 = 4 ∧ c < T28
  · obtain ⟨z1, z2⟩ := z1
    obtain ⟨v2, ⟨v1, hv1, hv2, hp1, sk⟩, mv, A2⟩ := fin (c + x / 486 % T28)
    refine ⟨_, ps, v2, [some (.cell pp), some (.cell ac), some (.int x), some (.int (x % 6)), some (.int n), some (.lst (L.map D.int)), some (.int (c + x / 486 % T28))], ?_, mv, A2, Nat.le_succ _⟩
    obtain ⟨m, hm⟩ : ∃ m, (if c + x / 486 % T28 > c then c + x / 486 % T28 else c) = m := ⟨_, rfl⟩
    rw [hm] at hv1 hv2
    clear A A2 mv hT28 o1 o2 o3 o4 o5 o6 o7 fin
    unfold LD r_l_deed_3
    rw [z]
    generalize L.map D.int = LM at *
    walk_at "fw"
  · obtain ⟨y, hy⟩ : ∃ y, (if c + x / 6 % 9 - 4 > 0 then c + x / 6 % 9 - 4 else 0) = y := ⟨_, rfl⟩
    obtain ⟨v2, ⟨v1, hv1, hv2, hp1, sk⟩, mv, A2⟩ := fin y
    refine ⟨_, ps, v2, [some (.cell pp), some (.cell ac), some (.int x), some (.int (x % 6)), some (.int n), some (.lst (L.map D.int)), some (.int y)], ?_, mv, A2, Nat.le_succ _⟩
    obtain ⟨m, hm⟩ : ∃ m, (if y > c then y else c) = m := ⟨_, rfl⟩
    rw [hm] at hv1 hv2
    clear A A2 mv hT28 o1 o2 o3 o4 o5 o6 o7 fin
    unfold LD r_l_deed_3
    rw [z]
    generalize L.map D.int = LM at *
    by_cases z2 : x / 54 % 9 = 4
    · have z3 : ¬ c < T28 := fun h => z1 ⟨z2, h⟩
      clear z1
      walk_at "fw"
    · clear z1
      walk_at "fw"
theorem t_deed (A : Acc wd vh pp a b ac dc c ps) (hl : ps.length ≤ 1000) (x : Int) :
    ∃ c' ps' vh', F_l_deed wd [.cell pp, .cell ac, .int x] vh = some (.bl true, vh') ∧ Mv pp a b ac dc vh vh' ∧ Acc wd vh' pp a b ac dc c' ps' ∧ ps'.length ≤ ps.length + 1 := by
  obtain ⟨n, L, hd⟩ := t_head A hl x
  suffices h : Dn wd pp a b ac dc ps vh (r_l_deed_5 wd (LD pp ac x n L vh none)) by
    obtain ⟨c', ps', vh', l, h1, h2, h3, h4⟩ := h
    exact ⟨c', ps', vh', runS_of ⟨l, by rw [hd]; exact h1⟩, h2, h3, h4⟩
  clear hd
  by_cases z3 : x % 6 < 3
  · obtain ⟨p, hp, e1⟩ := t_content (x / 6)
    obtain ⟨c', ps', vh', k1, k2, k3, k4⟩ := t_lkept A hp hl
    refine ⟨c', ps', vh', [some (.cell pp), some (.cell ac), some (.int x), some (.int (x % 6)), some (.int n), some (.lst (L.map D.int)), none], ?_, k2, k3, k4⟩
    have d6 : ∀ s, divM (.int x) (.int 6) s = .ok (.int (x / 6)) s := fun s => x_div (by decide) (by decide)
    clear A k2 k3 k4 hp hl
    generalize p.told = T at *
    unfold LD r_l_deed_5
    generalize L.map D.int = LM at *
    walk_at "fw"
  · have e5 : r_l_deed_5 wd (LD pp ac x n L vh none) = r_l_deed_4 wd (LD pp ac x n L vh none) := by
      clear A hl
      unfold LD r_l_deed_5
      generalize L.map D.int = LM at *
      walk_at "fw"
    rw [e5]
    by_cases z4 : x % 6 = 3
    · have := t_deed3 A x n L
      obtain ⟨c', ps', vh', l, h1, h2, h3, h4⟩ := this
      refine ⟨c', ps', vh', l, ?_, h2, h3, h4⟩
      clear A hl e5 h2 h3 h4 z3
      unfold LD at *
      unfold r_l_deed_4
      rw [z4] at *
      generalize L.map D.int = LM at *
      walk_at "fw"
    · have e4 : r_l_deed_4 wd (LD pp ac x n L vh none) = r_l_deed_3 wd (LD pp ac x n L vh none) := by
        clear A hl e5 z3
        unfold LD r_l_deed_4
        generalize L.map D.int = LM at *
        walk_at "fw"
      rw [e4]
      by_cases z5 : x % 6 = 4
      · exact t_deed4 A x n L z5
      · have e3 : r_l_deed_3 wd (LD pp ac x n L vh none) = r_l_deed_2 wd (LD pp ac x n L vh none) := by
          clear A hl e5 e4 z3 z4
          unfold LD r_l_deed_3
          generalize L.map D.int = LM at *
          walk_at "fw"
        rw [e3]
        exact t_deed5 A x n L
end
/-! the whole store, looked at -/
section
variable {wd : World} {vh : List Cell} {pp a b ac dc : Nat} {c : Int} {ps : Shelf}
theorem t_pnumbers {u : List Cell} (S : Sto wd u pp a b c ps) (hl : ps.length ≤ 1000000) : F_Pages_numbers [.cell pp] u = some (.lst ((sortZ (ps.map (·.1))).map D.int)) := by
  have hp := S.hp
  have ha := S.ha
  have so : ∀ l, sortDM [.cell a] ⟨l, u⟩ = .ok (.lst ((sortZ (ps.map (·.1))).map D.int)) ⟨l, u⟩ := fun l => x_sortDA (dctR_at ha) (intKs_sh ps) (by rw [List.length_map]; exact hl)
  refine runN_of (k := 0) (more := [.lst ((sortZ (ps.map (·.1))).map D.int)]) ⟨[some (.cell pp)], ?_⟩ rfl (ncL_all fun d hd => by
    obtain ⟨y, _, rfl⟩ := List.mem_map.mp hd; rfl)
  clear S hl ha
  unfold g_Pages_numbers
  walk_at "fp"
  all_goals rfl
theorem t_dealt {u : List Cell} (h : u[pp]? = some (pgO a b c)) : F_Pages_dealt [.cell pp] u = some (.int c) := by
  refine runP_of ?_ rfl
  unfold g_Pages_dealt
  walk_at "fp"
  exact ⟨_, rfl⟩
theorem turnW {v : List Cell} {o : Obj} {us : List (Key × V)} {kvs : List (Key × D)} (hU : v[dc]? = some (.dctL o us kvs)) (hac : v[ac]? = some (.lst [.cell dc, .int c])) {n : Int} {T : D} (hv : valA kvs (.inl n) = some T) (pa : F_l_page_as [.cell pp, .int n, T] v = some (.bl true)) (P : D) :
    b_l_whole_store_1 wd ⟨[some (.cell pp), some (.cell ac), some P, some (.int n)], v⟩ = .ok .nx ⟨[some (.cell pp), some (.cell ac), some P, some (.int n)], v⟩ := by
  have a0 : atI [D.cell dc, D.int c] 0 = some (D.cell dc) := at_hd _ _
  have dr : ∀ s, ixCR (some (.dctL o us kvs)) n s = .ok T s := fun s => by
    show Res.opt (valA kvs (.inl n)) s = _
    rw [hv]
    rfl
  clear hv
  unfold b_l_whole_store_1
  walk_at "fp"
theorem loopW {v : List Cell} {o : Obj} {us : List (Key × V)} {kvs : List (Key × D)} (hU : v[dc]? = some (.dctL o us kvs)) (hac : v[ac]? = some (.lst [.cell dc, .int c])) (P : D) :
    ∀ (L : Shelf) (x : Option D), (∀ y ∈ L, valA kvs (.inl y.1) = some y.2.1.told ∧ F_l_page_as [.cell pp, .int y.1, y.2.1.told] v = some (.bl true)) →
      loopM (fun s' => s'.vh[dc]? = some (.dctL o us kvs)) (setL 3) (b_l_whole_store_1 wd) (L.map fun y => D.int y.1) ⟨[some (.cell pp), some (.cell ac), some P, x], v⟩ = .ok .nx ⟨[some (.cell pp), some (.cell ac), some P, xK L x], v⟩
  | [], x, _ => loop0 (ok := fun s' => s'.vh[dc]? = some (.dctL o us kvs)) hU
  | (n, q, k) :: r, x, h => by
    have t := turnW (wd := wd) hU hac (h _ List.mem_cons_self).1 (h _ List.mem_cons_self).2 P
    rw [List.map_cons, loopS (s2 := ⟨[some (.cell pp), some (.cell ac), some P, some (.int n)], v⟩) (hU : (⟨[some (.cell pp), some (.cell ac), some P, x], v⟩ : Fx.S).vh[dc]? = some (.dctL o us kvs)) (show setL 3 (.int n) _ = .ok .nx ⟨[some (.cell pp), some (.cell ac), some P, some (.int n)], v⟩ from rfl) t, loopW hU hac P r _ fun y hy => h y (List.mem_cons_of_mem _ hy)]
    rfl
theorem t_walkW (A : Acc wd vh pp a b ac dc c ps) (P : D) :
    lockP 1 0 (forM (bnd (bin ixAM (getL 1) (ret (.int 0))) keysI) (setL 3) (b_l_whole_store_1 wd)) ⟨[some (.cell pp), some (.cell ac), some P, none], vh⟩ = .ok .nx ⟨[some (.cell pp), some (.cell ac), some P, xK ps none], vh⟩ := by
  obtain ⟨o1, o2, o3, o4, o5, o6, o7⟩ := A.off
  refine (x_lockP (n := dc) (kvs := tdK ps) (l' := [some (.cell pp), some (.cell ac), some P, xK ps none]) (vh' := vh) (a := .nx) (plC_at rfl A.hac rfl) A.hdc (lt_of A.hdc) fun o us => ?_).trans (by rw [set_sameC A.hdc])
  have hU : (vh.set dc (.dctL o us (tdK ps)))[dc]? = some (.dctL o us (tdK ps)) := List.getElem?_set_self (lt_of A.hdc)
  have hac : (vh.set dc (.dctL o us (tdK ps)))[ac]? = some (.lst [.cell dc, .int c]) := by rw [List.getElem?_set_ne (Ne.symm A.off.2.2.2.2.2.2)]; exact A.hac
  have S1 : Sto wd (vh.set dc (.dctL o us (tdK ps))) pp a b c ps := A.S.setOff A.hdc o4 o5 o6 fun _ => dct_ne
  have lp := loopW (wd := wd) (pp := pp) hU hac P ps none fun y hy => ⟨A.td ⟨y.2.2, hy⟩, t_pageas S1 ⟨y.2.2, hy⟩⟩
  generalize vh.set dc (.dctL o us (tdK ps)) = U at *
  have a0 : atI [D.cell dc, D.int c] 0 = some (D.cell dc) := at_hd _ _
  have ki : ∀ l, keysI (.cell dc) ⟨l, U⟩ = .ok ⟨ps.map fun y => D.int y.1, fun s' => s'.vh[dc]? = some (.dctL o us (tdK ps))⟩ ⟨l, U⟩ := fun l => by
    unfold keysI
    dsimp only
    rw [hU]
    unfold tdK
    dsimp only
    rw [List.map_map]
    rfl
  clear A hU S1 o1 o2 o3 o4 o5 o6 o7
  generalize (ps.map fun y => D.int y.1) = IT at *
  generalize xK ps none = x' at *
  generalize tdK ps = kvs at *
  walk_at "fyh"
theorem t_wstore (A : Acc wd vh pp a b ac dc c ps) (hl : ps.length ≤ 1000) : F_l_whole_store wd [.cell pp, .cell ac] vh = some (.bl true) := by
  obtain ⟨NS, hNS⟩ : ∃ NS, NS = (sortZ (ps.map (·.1))).map D.int := ⟨_, rfl⟩
  have nl : NS.length ≤ 1000 := by rw [hNS, List.length_map, (sortZ_perm _).length_eq, List.length_map]; exact hl
  have nq : Eqd 64 (.lst NS) := by
    rw [hNS]
    exact (Eqd.lst (n := 0) fun d hd => by obtain ⟨y, _, rfl⟩ := List.mem_map.mp hd; exact Eqd.int y).mono (by decide)
  have nums : ∀ more, F_Pages_numbers [.cell pp] (vh ++ more) = some (.lst NS) := fun more => by rw [hNS]; exact t_pnumbers (A.S.app more) (by omega)
  have nums0 : F_Pages_numbers [.cell pp] vh = some (.lst NS) := by rw [hNS]; exact t_pnumbers A.S (by omega)
  have A1 := A.app [.lst NS]
  have A2 := A.app [.lst (NS ++ [.int c])]
  have so1 : ∀ l, sortDM [.cell dc] ⟨l, vh ++ [.lst NS]⟩ = .ok (.lst NS) ⟨l, vh ++ [.lst NS]⟩ := fun l => by rw [hNS]; exact x_sortDA (dctR_at (by rw [← hNS]; exact A1.hdc)) (intKs_td ps) (by rw [List.length_map]; omega)
  have so2 : ∀ l, sortDM [.cell dc] ⟨l, vh ++ [.lst (NS ++ [.int c])]⟩ = .ok (.lst NS) ⟨l, vh ++ [.lst (NS ++ [.int c])]⟩ := fun l => by rw [hNS]; exact x_sortDA (dctR_at (by rw [← hNS]; exact A2.hdc)) (intKs_td ps) (by rw [List.length_map]; omega)
  have hl1 : (vh ++ [Cell.lst NS])[vh.length]? = some (.lst NS) := by rw [List.getElem?_append_right (Nat.le_refl _), Nat.sub_self]; rfl
  have ne1 : ∀ l, neM (.cell vh.length) (.lst NS) ⟨l, vh ++ [.lst NS]⟩ = .ok (.bl false) ⟨l, vh ++ [.lst NS]⟩ := fun l => x_neCSelf hl1 nq
  have eq2 : ∀ s, eqM (.lst NS) (.lst NS) s = .ok (.bl true) s := fun s => x_eqSelf nq
  have de1 := t_dealt A1.S.hp
  have wh1 := t_whole c (vh ++ [.lst NS])
  have wk := t_walkW A2 (.cell vh.length)
  have rf := t_refused A2.S (n := c) (fun p h => absurd (Has.lt A h) (by omega)) 0
  have hp0 := A.S.hp
  have hp1 := A1.S.hp
  have hp2 := A2.S.hp
  have ha1 := A1.hac
  have ha2 := A2.hac
  have a0 : atI [D.cell dc, D.int c] 0 = some (D.cell dc) := at_hd _ _
  have a1 : atI [D.cell dc, D.int c] 1 = some (D.int c) := at_snd _ _ _
  have nums2 := nums [.lst (NS ++ [.int c])]
  have st : (vh ++ [Cell.lst NS]).set vh.length (.lst (NS ++ [.int c])) = vh ++ [.lst (NS ++ [.int c])] := by
    rw [List.set_append_right _ _ (Nat.le_refl _), Nat.sub_self]
    rfl
  refine runP_more ⟨[some (.cell pp), some (.cell ac), some (.cell vh.length), xK ps none], [.lst (NS ++ [.int c])], ?_⟩ rfl
  have ap : ∀ l, appM (.cell vh.length) [.int c] ⟨l, vh ++ [.lst NS]⟩ = .ok .non ⟨l, vh ++ [.lst (NS ++ [.int c])]⟩ := fun l => by
    rw [x_app, show (⟨l, vh ++ [Cell.lst NS]⟩ : S).vh[vh.length]? = some (.lst NS) from hl1, x_appR (by omega), ← st]
  clear A A1 A2 hNS nq nums st
  generalize xK ps none = X at *
  unfold g_l_whole_store
  walk_at "fv"
  unfold r_l_whole_store_1
  walk_at "fv"
end
/-! the law -/
theorem Acc.stay {wd : World} {v v' : List Cell} {pp a b ac dc qp qa qb qc qd : Nat} {c c' : Int} {ps qs : Shelf} (A : Acc wd v pp a b ac dc c ps) (B : Acc wd v qp qa qb qc qd c' qs) (m : Mv qp qa qb qc qd v v') (h : ∀ i ∈ [pp, a, b, ac, dc], i ∉ [qp, qa, qb, qc, qd]) : Acc wd v' pp a b ac dc c ps := by
  have off : ∀ i x, v[i]? = some x → i ∉ [qp, qa, qb, qc, qd] → v'[i]? = some x := fun i x hi hn => by
    simp only [List.mem_cons, List.not_mem_nil, or_false, not_or] at hn
    rw [m.2 i (lt_of hi) hn.1 hn.2.1 hn.2.2.1 hn.2.2.2.1 hn.2.2.2.2]
    exact hi
  refine ⟨A.S.keep fun i x hi o => off i x hi ?_, off _ _ A.hac (h _ (by simp)), off _ _ A.hdc (h _ (by simp)), A.ne⟩
  rcases o with e | e | e | ⟨p, e⟩
  · rw [e]; exact h _ (by simp)
  · rw [e]; exact h _ (by simp)
  · rw [e]; exact h _ (by simp)
  · rw [e] at hi
    obtain ⟨o1, o2, o3⟩ := B.S.off hi
    simp only [List.mem_cons, List.not_mem_nil, or_false, not_or]
    refine ⟨o1, o2, o3, fun z => ?_, fun z => ?_⟩
    · rw [z, B.hac] at hi
      exact lst_ne (Option.some.inj hi).symm
    · rw [z, B.hdc] at hi
      exact dct_ne (Option.some.inj hi).symm
abbrev ST13 : D := .lst [.cell 0, .cell 3]
abbrev AC13 : D := .lst [.cell 7, .cell 9]
structure I13 (wd : World) (i : Nat) (v : List Cell) : Prop where
  a0 : ∃ c ps, Acc wd v 0 1 2 7 6 c ps ∧ ps.length ≤ i
  a1 : ∃ c ps, Acc wd v 3 4 5 9 8 c ps ∧ ps.length ≤ i
theorem turn13 {wd : World} {i : Nat} (hi : i < 100) {v : List Cell} (I : I13 wd i v) (A : D) (x : Int) (y : Option D) :
    ∃ v' y', b_law_1 wd ⟨[some A, some ST13, some AC13, some (.int x), y], v⟩ = .ok .nx ⟨[some A, some ST13, some AC13, some (.int x), y'], v'⟩ ∧ I13 wd (i + 1) v' := by
  have m7 : ∀ s, modM (.int x) (.int 7) s = .ok (.int (x % 7)) s := fun s => x_mod (by decide)
  have d5 : ∀ s, divM (.int (x % 7)) (.int 5) s = .ok (.int (x % 7 / 5)) s := fun s => x_div (by decide) (by decide)
  have d7 : ∀ s, divM (.int x) (.int 7) s = .ok (.int (x / 7)) s := fun s => x_div (by decide) (by decide)
  have s0 : atI [D.cell 0, D.cell 3] 0 = some (D.cell 0) := at_hd _ _
  have s1 : atI [D.cell 0, D.cell 3] 1 = some (D.cell 3) := at_snd _ _ _
  have t0 : atI [D.cell 7, D.cell 9] 0 = some (D.cell 7) := at_hd _ _
  have t1 : atI [D.cell 7, D.cell 9] 1 = some (D.cell 9) := at_snd _ _ _
  obtain ⟨c0, p0, A0, l0⟩ := I.a0
  obtain ⟨c1, p1, A1, l1⟩ := I.a1
  have w01 : x % 7 / 5 = 0 ∨ x % 7 / 5 = 1 := by omega
  rcases w01 with w | w
  · obtain ⟨c', ps', v', e1, e2, e3, e4⟩ := t_deed A0 (by omega) (x / 7)
    have dl := t_dealt e3.S.hp
    have hp := e3.S.hp
    have ha := e3.hac
    have u1 : atI [D.cell 6, D.int c'] 1 = some (D.int c') := at_snd _ _ _
    refine ⟨v', some (.int 0), ?_, ⟨⟨c', ps', e3, by omega⟩, ⟨c1, p1, A1.stay A0 e2 (by decide), by omega⟩⟩⟩
    rw [w] at d5
    clear A0 A1 e2 e3 e4 I l0 l1 hi
    unfold b_law_1
    walk_at "fv"
  · obtain ⟨c', ps', v', e1, e2, e3, e4⟩ := t_deed A1 (by omega) (x / 7)
    have dl := t_dealt e3.S.hp
    have hp := e3.S.hp
    have ha := e3.hac
    have u1 : atI [D.cell 8, D.int c'] 1 = some (D.int c') := at_snd _ _ _
    refine ⟨v', some (.int 1), ?_, ⟨⟨c0, p0, A0.stay A1 e2 (by decide), by omega⟩, ⟨c', ps', e3, by omega⟩⟩⟩
    rw [w] at d5
    clear A0 A1 e2 e3 e4 I l0 l1 hi
    unfold b_law_1
    walk_at "fv"
abbrev V0 (wd : World) : List Cell := [pgO 1 2 0, .dct [], .dctN wd []]
abbrev V6 (wd : World) : List Cell := [pgO 1 2 0, .dct [], .dctN wd [], pgO 4 5 0, .dct [], .dctN wd []]
abbrev V10 (wd : World) : List Cell := [pgO 1 2 0, .dct [], .dctN wd [], pgO 4 5 0, .dct [], .dctN wd [], .dct [], .lst [.cell 6, .int 0], .dct [], .lst [.cell 8, .int 0]]
theorem law_true (wd : World) (ns : List Int) (hlen : ns.length ≤ 63) (hbits : ∀ z ∈ ns, Builtin.Int.intBits z ≤ 1048576) : F_law wd [.lst (ns.map D.int)] [] = some (.bl true) := by
  obtain ⟨A, hA⟩ : ∃ A, A = D.lst (ns.map D.int) := ⟨_, rfl⟩
  have p0 : F_Pages_init wd [.cell 0] [.obj "Pages" []] = some (.non, V0 wd) := t_pages (vh := []) wd
  have p1 : F_Pages_init wd [.cell 3] [pgO 1 2 0, .dct [], .dctN wd [], .obj "Pages" []] = some (.non, V6 wd) := t_pages (vh := V0 wd) wd
  have I0 : I13 wd 0 (V10 wd) := ⟨⟨0, [], ⟨⟨rfl, rfl, rfl, fun x hx => (by cases hx), fun x hx => (by cases hx)⟩, rfl, rfl, by decide⟩, Nat.le_refl _⟩, ⟨0, [], ⟨⟨rfl, rfl, rfl, fun x hx => (by cases hx), fun x hx => (by cases hx)⟩, rfl, rfl, by decide⟩, Nat.le_refl _⟩⟩
  obtain ⟨s2, lp, v, x3, x4, rfl, I⟩ := loopM_all (ok := fun s' => itemsOf s' (.lst ((ns.take 60).map D.int)) = some ((ns.take 60).map D.int)) (t := setL 3) (b := b_law_1 wd)
    (fun i s => ∃ v x3 x4, s = (⟨[some A, some ST13, some AC13, x3, x4], v⟩ : Fx.S) ∧ I13 wd i v) ((ns.take 60).map D.int) (fun _ _ _ => rfl)
    (fun i d s hi ⟨v, x3, x4, hs, I⟩ => by
      have hi2 := lt_of hi
      rw [List.length_map, List.length_take] at hi2
      rw [List.getElem?_map] at hi
      obtain ⟨x, _, rfl⟩ := Option.map_eq_some_iff.mp hi
      obtain ⟨v', y', t, I'⟩ := turn13 (by omega) I A x x4
      subst hs
      exact ⟨_, rfl, _, .inl t, v', _, y', rfl, I'⟩) 0 ⟨[some A, some ST13, some AC13, none, none], V10 wd⟩ (Nat.zero_le _) ⟨V10 wd, none, none, rfl, I0⟩
  rw [List.drop_zero] at lp
  have ll : ((ns.take 60).map D.int).length ≤ 60 := by rw [List.length_map, List.length_take]; omega
  obtain ⟨c0, q0, A0, l0⟩ := I.a0
  obtain ⟨c1, q1, A1, l1⟩ := I.a1
  have w0 := t_wstore A0 (by omega)
  have w1 := t_wstore A1 (by omega)
  have s0 : atI [D.cell 0, D.cell 3] 0 = some (D.cell 0) := at_hd _ _
  have s1 : atI [D.cell 0, D.cell 3] 1 = some (D.cell 3) := at_snd _ _ _
  have t0 : atI [D.cell 7, D.cell 9] 0 = some (D.cell 7) := at_hd _ _
  have t1 : atI [D.cell 7, D.cell 9] 1 = some (D.cell 9) := at_snd _ _ _
  have ct : Fx.cutD (ns.map D.int) none (some 60) = (ns.take 60).map D.int := (cut_to (n := 60)).trans List.map_take.symm
  have sl : ∀ s, slV A none (some 60) s = .ok (.lst ((ns.take 60).map D.int)) s := fun s => by rw [hA, x_slVL, ct]
  rw [← hA]
  refine runP_more ⟨[some A, some ST13, some AC13, x3, x4], v, ?_⟩ rfl
  rw [List.nil_append]
  clear ct I0 I A0 A1 l0 l1 ll hA hlen hbits
  generalize (ns.take 60).map D.int = IT at *
  have g1 : g_law wd (initS 5 [A] []) = r_law_1 wd ⟨[some A, some ST13, some AC13, none, none], V10 wd⟩ := by
    clear lp w0 w1 s0 s1 t0 t1 sl
    unfold V0 at p0
    unfold V6 at p1
    unfold g_law V10
    walk_at "fv"
  rw [g1]
  clear g1 p0 p1
  generalize V10 wd = V at *
  unfold r_law_1
  walk_at "fv"
end My

/-! ### the end -/
namespace Wktwigtable_k13_a_store
open PySem PySem.Spec PyProof.Rows L2 Fx
theorem all_mk {K : PySem.W.Frag} {h : Heap} {mg : Str → Option Value} (X : K.In h) (G : h.Ns mainGlobals mg)
    {f0 oc0 kV0 dc0 pm0 cd0 ct0} {od0 an0 : Option Addr} {sl0 : Array (Option Value)} (a0 : PySem.W.nsIn K mainGlobals "_law_whole" = some (some (.ref f0))) (l0 : K.lookup f0 = some ⟨oc0, od0, .func (PySem.W.fnOf "_law_whole" "_law_whole" (defArgs s_l_whole) (defBody s_l_whole) (defScope s_l_whole) .none kV0 dc0 pm0 an0 cd0 ct0), sl0⟩) (c0 : PySem.W.codeIn K cd0 "_law_whole" = true) (k0 : PySem.W.keepIn K (.ref f0) = true)
    {f1 oc1 kV1 dc1 pm1 cd1 ct1} {od1 an1 : Option Addr} {sl1 : Array (Option Value)} (a1 : PySem.W.nsIn K mainGlobals "_law_content" = some (some (.ref f1))) (l1 : K.lookup f1 = some ⟨oc1, od1, .func (PySem.W.fnOf "_law_content" "_law_content" (defArgs s_l_content) (defBody s_l_content) (defScope s_l_content) .none kV1 dc1 pm1 an1 cd1 ct1), sl1⟩) (c1 : PySem.W.codeIn K cd1 "_law_content" = true) (k1 : PySem.W.keepIn K (.ref f1) = true)
    {f2 oc2 kV2 dc2 pm2 cd2 ct2} {od2 an2 : Option Addr} {sl2 : Array (Option Value)} (a2 : PySem.W.nsIn K mainGlobals "_law_made" = some (some (.ref f2))) (l2 : K.lookup f2 = some ⟨oc2, od2, .func (PySem.W.fnOf "_law_made" "_law_made" (defArgs s_l_made) (defBody s_l_made) (defScope s_l_made) .none kV2 dc2 pm2 an2 cd2 ct2), sl2⟩) (c2 : PySem.W.codeIn K cd2 "_law_made" = true) (k2 : PySem.W.keepIn K (.ref f2) = true)
    {f3 oc3 kV3 dc3 pm3 cd3 ct3} {od3 an3 : Option Addr} {sl3 : Array (Option Value)} (a3 : PySem.W.nsIn K mainGlobals "_law_refused" = some (some (.ref f3))) (l3 : K.lookup f3 = some ⟨oc3, od3, .func (PySem.W.fnOf "_law_refused" "_law_refused" (defArgs s_l_refused) (defBody s_l_refused) (defScope s_l_refused) .none kV3 dc3 pm3 an3 cd3 ct3), sl3⟩) (c3 : PySem.W.codeIn K cd3 "_law_refused" = true) (k3 : PySem.W.keepIn K (.ref f3) = true)
    {f4 oc4 kV4 dc4 pm4 cd4 ct4} {od4 an4 : Option Addr} {sl4 : Array (Option Value)} (a4 : PySem.W.nsIn K mainGlobals "_law_page_as" = some (some (.ref f4))) (l4 : K.lookup f4 = some ⟨oc4, od4, .func (PySem.W.fnOf "_law_page_as" "_law_page_as" (defArgs s_l_page_as) (defBody s_l_page_as) (defScope s_l_page_as) .none kV4 dc4 pm4 an4 cd4 ct4), sl4⟩) (c4 : PySem.W.codeIn K cd4 "_law_page_as" = true) (k4 : PySem.W.keepIn K (.ref f4) = true)
    {f5 oc5 kV5 dc5 pm5 cd5 ct5} {od5 an5 : Option Addr} {sl5 : Array (Option Value)} (a5 : PySem.W.nsIn K mainGlobals "_law_kept" = some (some (.ref f5))) (l5 : K.lookup f5 = some ⟨oc5, od5, .func (PySem.W.fnOf "_law_kept" "_law_kept" (defArgs s_l_kept) (defBody s_l_kept) (defScope s_l_kept) .none kV5 dc5 pm5 an5 cd5 ct5), sl5⟩) (c5 : PySem.W.codeIn K cd5 "_law_kept" = true) (k5 : PySem.W.keepIn K (.ref f5) = true)
    {f6 oc6 kV6 dc6 pm6 cd6 ct6} {od6 an6 : Option Addr} {sl6 : Array (Option Value)} (a6 : PySem.W.nsIn K mainGlobals "_law_deed" = some (some (.ref f6))) (l6 : K.lookup f6 = some ⟨oc6, od6, .func (PySem.W.fnOf "_law_deed" "_law_deed" (defArgs s_l_deed) (defBody s_l_deed) (defScope s_l_deed) .none kV6 dc6 pm6 an6 cd6 ct6), sl6⟩) (c6 : PySem.W.codeIn K cd6 "_law_deed" = true) (k6 : PySem.W.keepIn K (.ref f6) = true)
    {f7 oc7 kV7 dc7 pm7 cd7 ct7} {od7 an7 : Option Addr} {sl7 : Array (Option Value)} (a7 : PySem.W.nsIn K mainGlobals "_law_whole_store" = some (some (.ref f7))) (l7 : K.lookup f7 = some ⟨oc7, od7, .func (PySem.W.fnOf "_law_whole_store" "_law_whole_store" (defArgs s_l_whole_store) (defBody s_l_whole_store) (defScope s_l_whole_store) .none kV7 dc7 pm7 an7 cd7 ct7), sl7⟩) (c7 : PySem.W.codeIn K cd7 "_law_whole_store" = true) (k7 : PySem.W.keepIn K (.ref f7) = true)
    {f8 oc8 kV8 dc8 pm8 cd8 ct8} {od8 an8 : Option Addr} {sl8 : Array (Option Value)} (a8 : PySem.W.nsIn K mainGlobals "law" = some (some (.ref f8))) (l8 : K.lookup f8 = some ⟨oc8, od8, .func (PySem.W.fnOf "law" "law" (defArgs s_law) (defBody s_law) (defScope s_law) .none kV8 dc8 pm8 an8 cd8 ct8), sl8⟩) (c8 : PySem.W.codeIn K cd8 "law" = true) (k8 : PySem.W.keepIn K (.ref f8) = true)
    {C_Leaf} (ac_Leaf : PySem.W.nsIn K mainGlobals "Leaf" = some (some (.ref C_Leaf))) (pg_Leaf : PySem.W.plainGet K C_Leaf Str.empty = true) (hd_Leaf : PySem.W.hasDictIn K C_Leaf = true) (po_Leaf : PySem.W.plainOver K C_Leaf = true) (sa_Leaf : PySem.W.findIn K (.ref C_Leaf) "__setattr__" = some (some (.builtin "object.__setattr__")))
    {C_Twig} (ac_Twig : PySem.W.nsIn K mainGlobals "Twig" = some (some (.ref C_Twig))) (pg_Twig : PySem.W.plainGet K C_Twig Str.empty = true) (hd_Twig : PySem.W.hasDictIn K C_Twig = true) (po_Twig : PySem.W.plainOver K C_Twig = true) (sa_Twig : PySem.W.findIn K (.ref C_Twig) "__setattr__" = some (some (.builtin "object.__setattr__")))
    {C_Page} (ac_Page : PySem.W.nsIn K mainGlobals "Page" = some (some (.ref C_Page))) (pg_Page : PySem.W.plainGet K C_Page Str.empty = true) (hd_Page : PySem.W.hasDictIn K C_Page = true) (po_Page : PySem.W.plainOver K C_Page = true) (sa_Page : PySem.W.findIn K (.ref C_Page) "__setattr__" = some (some (.builtin "object.__setattr__")))
    {C_Pages} (ac_Pages : PySem.W.nsIn K mainGlobals "Pages" = some (some (.ref C_Pages))) (pg_Pages : PySem.W.plainGet K C_Pages Str.empty = true) (hd_Pages : PySem.W.hasDictIn K C_Pages = true) (po_Pages : PySem.W.plainOver K C_Pages = true) (sa_Pages : PySem.W.findIn K (.ref C_Pages) "__setattr__" = some (some (.builtin "object.__setattr__")))
    (mk_Leaf : PySem.W.makesIn K C_Leaf = true) (kc_Leaf : PySem.W.keepIn K (.ref C_Leaf) = true)
    (mk_Twig : PySem.W.makesIn K C_Twig = true) (kc_Twig : PySem.W.keepIn K (.ref C_Twig) = true)
    (mk_Pages : PySem.W.makesIn K C_Pages = true) (kc_Pages : PySem.W.keepIn K (.ref C_Pages) = true)
    (na_Leaf_level : PySem.W.findIn K (.ref C_Leaf) "level" = some none)
    (na_Twig_level : PySem.W.findIn K (.ref C_Twig) "level" = some none)
    (na_Leaf_rows : PySem.W.findIn K (.ref C_Leaf) "rows" = some none)
    (na_Twig_heads : PySem.W.findIn K (.ref C_Twig) "heads" = some none)
    (na_Pages_coming : PySem.W.findIn K (.ref C_Pages) "coming" = some none)
    (na_Pages_known : PySem.W.findIn K (.ref C_Pages) "known" = some none)
    (na_Pages_standing : PySem.W.findIn K (.ref C_Pages) "standing" = some none)
    {mf0 moc0 mkV0 mdc0 mpm0 mcd0 mct0} {mod0 man0 : Option Addr} {msl0 : Array (Option Value)} (ma0 : PySem.W.findIn K (.ref C_Leaf) "entries" = some (some (.ref mf0))) (mi0 : PySem.W.isFn K (.ref mf0) = true) (ml0 : K.lookup mf0 = some ⟨moc0, mod0, .func (PySem.W.fnOf "entries" "Leaf.entries" (defArgs s_Leaf_entries) (defBody s_Leaf_entries) (defScope s_Leaf_entries) .none mkV0 mdc0 mpm0 man0 mcd0 mct0), msl0⟩) (mc0 : PySem.W.codeIn K mcd0 "Leaf.entries" = true) (mq0 : PySem.W.keepIn K (.ref mf0) = true)
    {mf1 moc1 mkV1 mdc1 mpm1 mcd1 mct1} {mod1 man1 : Option Addr} {msl1 : Array (Option Value)} (ma1 : PySem.W.findIn K (.ref C_Twig) "entries" = some (some (.ref mf1))) (mi1 : PySem.W.isFn K (.ref mf1) = true) (ml1 : K.lookup mf1 = some ⟨moc1, mod1, .func (PySem.W.fnOf "entries" "Twig.entries" (defArgs s_Twig_entries) (defBody s_Twig_entries) (defScope s_Twig_entries) .none mkV1 mdc1 mpm1 man1 mcd1 mct1), msl1⟩) (mc1 : PySem.W.codeIn K mcd1 "Twig.entries" = true) (mq1 : PySem.W.keepIn K (.ref mf1) = true)
    {mf2 moc2 mkV2 mdc2 mpm2 mcd2 mct2} {mod2 man2 : Option Addr} {msl2 : Array (Option Value)} (ma2 : PySem.W.findIn K (.ref C_Leaf) "told" = some (some (.ref mf2))) (mi2 : PySem.W.isFn K (.ref mf2) = true) (ml2 : K.lookup mf2 = some ⟨moc2, mod2, .func (PySem.W.fnOf "told" "Page.told" (defArgs s_Page_told) (defBody s_Page_told) (defScope s_Page_told) .none mkV2 mdc2 mpm2 man2 mcd2 mct2), msl2⟩) (mc2 : PySem.W.codeIn K mcd2 "Page.told" = true) (mq2 : PySem.W.keepIn K (.ref mf2) = true)
    {mf3 moc3 mkV3 mdc3 mpm3 mcd3 mct3} {mod3 man3 : Option Addr} {msl3 : Array (Option Value)} (ma3 : PySem.W.findIn K (.ref C_Twig) "told" = some (some (.ref mf3))) (mi3 : PySem.W.isFn K (.ref mf3) = true) (ml3 : K.lookup mf3 = some ⟨moc3, mod3, .func (PySem.W.fnOf "told" "Page.told" (defArgs s_Page_told) (defBody s_Page_told) (defScope s_Page_told) .none mkV3 mdc3 mpm3 man3 mcd3 mct3), msl3⟩) (mc3 : PySem.W.codeIn K mcd3 "Page.told" = true) (mq3 : PySem.W.keepIn K (.ref mf3) = true)
    {mf4 moc4 mkV4 mdc4 mpm4 mcd4 mct4} {mod4 man4 : Option Addr} {msl4 : Array (Option Value)} (ma4 : PySem.W.findIn K (.ref C_Pages) "page" = some (some (.ref mf4))) (mi4 : PySem.W.isFn K (.ref mf4) = true) (ml4 : K.lookup mf4 = some ⟨moc4, mod4, .func (PySem.W.fnOf "page" "Pages.page" (defArgs s_Pages_page) (defBody s_Pages_page) (defScope s_Pages_page) .none mkV4 mdc4 mpm4 man4 mcd4 mct4), msl4⟩) (mc4 : PySem.W.codeIn K mcd4 "Pages.page" = true) (mq4 : PySem.W.keepIn K (.ref mf4) = true)
    {mf5 moc5 mkV5 mdc5 mpm5 mcd5 mct5} {mod5 man5 : Option Addr} {msl5 : Array (Option Value)} (ma5 : PySem.W.findIn K (.ref C_Leaf) "first" = some (some (.ref mf5))) (mi5 : PySem.W.isFn K (.ref mf5) = true) (ml5 : K.lookup mf5 = some ⟨moc5, mod5, .func (PySem.W.fnOf "first" "Page.first" (defArgs s_Page_first) (defBody s_Page_first) (defScope s_Page_first) .none mkV5 mdc5 mpm5 man5 mcd5 mct5), msl5⟩) (mc5 : PySem.W.codeIn K mcd5 "Page.first" = true) (mq5 : PySem.W.keepIn K (.ref mf5) = true)
    {mf6 moc6 mkV6 mdc6 mpm6 mcd6 mct6} {mod6 man6 : Option Addr} {msl6 : Array (Option Value)} (ma6 : PySem.W.findIn K (.ref C_Twig) "first" = some (some (.ref mf6))) (mi6 : PySem.W.isFn K (.ref mf6) = true) (ml6 : K.lookup mf6 = some ⟨moc6, mod6, .func (PySem.W.fnOf "first" "Page.first" (defArgs s_Page_first) (defBody s_Page_first) (defScope s_Page_first) .none mkV6 mdc6 mpm6 man6 mcd6 mct6), msl6⟩) (mc6 : PySem.W.codeIn K mcd6 "Page.first" = true) (mq6 : PySem.W.keepIn K (.ref mf6) = true)
    {mf7 moc7 mkV7 mdc7 mpm7 mcd7 mct7} {mod7 man7 : Option Addr} {msl7 : Array (Option Value)} (ma7 : PySem.W.findIn K (.ref C_Pages) "card" = some (some (.ref mf7))) (mi7 : PySem.W.isFn K (.ref mf7) = true) (ml7 : K.lookup mf7 = some ⟨moc7, mod7, .func (PySem.W.fnOf "card" "Pages.card" (defArgs s_Pages_card) (defBody s_Pages_card) (defScope s_Pages_card) .none mkV7 mdc7 mpm7 man7 mcd7 mct7), msl7⟩) (mc7 : PySem.W.codeIn K mcd7 "Pages.card" = true) (mq7 : PySem.W.keepIn K (.ref mf7) = true)
    {mf8 moc8 mkV8 mdc8 mpm8 mcd8 mct8} {mod8 man8 : Option Addr} {msl8 : Array (Option Value)} (ma8 : PySem.W.findIn K (.ref C_Pages) "drop" = some (some (.ref mf8))) (mi8 : PySem.W.isFn K (.ref mf8) = true) (ml8 : K.lookup mf8 = some ⟨moc8, mod8, .func (PySem.W.fnOf "drop" "Pages.drop" (defArgs s_Pages_drop) (defBody s_Pages_drop) (defScope s_Pages_drop) .none mkV8 mdc8 mpm8 man8 mcd8 mct8), msl8⟩) (mc8 : PySem.W.codeIn K mcd8 "Pages.drop" = true) (mq8 : PySem.W.keepIn K (.ref mf8) = true)
    {mf9 moc9 mkV9 mdc9 mpm9 mcd9 mct9} {mod9 man9 : Option Addr} {msl9 : Array (Option Value)} (ma9 : PySem.W.findIn K (.ref C_Pages) "kept" = some (some (.ref mf9))) (mi9 : PySem.W.isFn K (.ref mf9) = true) (ml9 : K.lookup mf9 = some ⟨moc9, mod9, .func (PySem.W.fnOf "kept" "Pages.kept" (defArgs s_Pages_kept) (defBody s_Pages_kept) (defScope s_Pages_kept) .none mkV9 mdc9 mpm9 man9 mcd9 mct9), msl9⟩) (mc9 : PySem.W.codeIn K mcd9 "Pages.kept" = true) (mq9 : PySem.W.keepIn K (.ref mf9) = true)
    {mf10 moc10 mkV10 mdc10 mpm10 mcd10 mct10} {mod10 man10 : Option Addr} {msl10 : Array (Option Value)} (ma10 : PySem.W.findIn K (.ref C_Pages) "skip" = some (some (.ref mf10))) (mi10 : PySem.W.isFn K (.ref mf10) = true) (ml10 : K.lookup mf10 = some ⟨moc10, mod10, .func (PySem.W.fnOf "skip" "Pages.skip" (defArgs s_Pages_skip) (defBody s_Pages_skip) (defScope s_Pages_skip) .none mkV10 mdc10 mpm10 man10 mcd10 mct10), msl10⟩) (mc10 : PySem.W.codeIn K mcd10 "Pages.skip" = true) (mq10 : PySem.W.keepIn K (.ref mf10) = true)
    {mf11 moc11 mkV11 mdc11 mpm11 mcd11 mct11} {mod11 man11 : Option Addr} {msl11 : Array (Option Value)} (ma11 : PySem.W.findIn K (.ref C_Pages) "numbers" = some (some (.ref mf11))) (mi11 : PySem.W.isFn K (.ref mf11) = true) (ml11 : K.lookup mf11 = some ⟨moc11, mod11, .func (PySem.W.fnOf "numbers" "Pages.numbers" (defArgs s_Pages_numbers) (defBody s_Pages_numbers) (defScope s_Pages_numbers) .none mkV11 mdc11 mpm11 man11 mcd11 mct11), msl11⟩) (mc11 : PySem.W.codeIn K mcd11 "Pages.numbers" = true) (mq11 : PySem.W.keepIn K (.ref mf11) = true)
    {mf12 moc12 mkV12 mdc12 mpm12 mcd12 mct12} {mod12 man12 : Option Addr} {msl12 : Array (Option Value)} (ma12 : PySem.W.findIn K (.ref C_Pages) "dealt" = some (some (.ref mf12))) (mi12 : PySem.W.isFn K (.ref mf12) = true) (ml12 : K.lookup mf12 = some ⟨moc12, mod12, .func (PySem.W.fnOf "dealt" "Pages.dealt" (defArgs s_Pages_dealt) (defBody s_Pages_dealt) (defScope s_Pages_dealt) .none mkV12 mdc12 mpm12 man12 mcd12 mct12), msl12⟩) (mc12 : PySem.W.codeIn K mcd12 "Pages.dealt" = true) (mq12 : PySem.W.keepIn K (.ref mf12) = true)
    {mf13 moc13 mkV13 mdc13 mpm13 mcd13 mct13} {mod13 man13 : Option Addr} {msl13 : Array (Option Value)} (ma13 : PySem.W.findIn K (.ref C_Leaf) "__init__" = some (some (.ref mf13))) (mi13 : PySem.W.isFn K (.ref mf13) = true) (ml13 : K.lookup mf13 = some ⟨moc13, mod13, .func (PySem.W.fnOf "__init__" "Leaf.__init__" (defArgs s_Leaf_init) (defBody s_Leaf_init) (defScope s_Leaf_init) .none mkV13 mdc13 mpm13 man13 mcd13 mct13), msl13⟩) (mc13 : PySem.W.codeIn K mcd13 "Leaf.__init__" = true) (mq13 : PySem.W.keepIn K (.ref mf13) = true)
    {mf14 moc14 mkV14 mdc14 mpm14 mcd14 mct14} {mod14 man14 : Option Addr} {msl14 : Array (Option Value)} (ma14 : PySem.W.findIn K (.ref C_Twig) "__init__" = some (some (.ref mf14))) (mi14 : PySem.W.isFn K (.ref mf14) = true) (ml14 : K.lookup mf14 = some ⟨moc14, mod14, .func (PySem.W.fnOf "__init__" "Twig.__init__" (defArgs s_Twig_init) (defBody s_Twig_init) (defScope s_Twig_init) .none mkV14 mdc14 mpm14 man14 mcd14 mct14), msl14⟩) (mc14 : PySem.W.codeIn K mcd14 "Twig.__init__" = true) (mq14 : PySem.W.keepIn K (.ref mf14) = true)
    {mf15 moc15 mkV15 mdc15 mpm15 mcd15 mct15} {mod15 man15 : Option Addr} {msl15 : Array (Option Value)} (ma15 : PySem.W.findIn K (.ref C_Pages) "__init__" = some (some (.ref mf15))) (mi15 : PySem.W.isFn K (.ref mf15) = true) (ml15 : K.lookup mf15 = some ⟨moc15, mod15, .func (PySem.W.fnOf "__init__" "Pages.__init__" (defArgs s_Pages_init) (defBody s_Pages_init) (defScope s_Pages_init) .none mkV15 mdc15 mpm15 man15 mcd15 mct15), msl15⟩) (mc15 : PySem.W.codeIn K mcd15 "Pages.__init__" = true) (mq15 : PySem.W.keepIn K (.ref mf15) = true)
    (rd_Page : PySem.W.readsIn K C_Page (.type "type") = true) (sg_Page : PySem.W.specialIn K (.ref C_Page) "__getattribute__" = some (some (.builtin "type.__getattribute__")))
    {qf0 qoc0 qkV0 qdc0 qpm0 qcd0 qct0} {qod0 qan0 : Option Addr} {qsl0 : Array (Option Value)} (qa0 : PySem.W.findCls K (.ref C_Page) (.type "type") "__init__" = some (.val (.ref qf0))) (ql0 : K.lookup qf0 = some ⟨qoc0, qod0, .func (PySem.W.fnOf "__init__" "Page.__init__" (defArgs s_Page_init) (defBody s_Page_init) (defScope s_Page_init) .none qkV0 qdc0 qpm0 qan0 qcd0 qct0), qsl0⟩) (qc0 : PySem.W.codeIn K qcd0 "Page.__init__" = true) (qq0 : PySem.W.keepIn K (.ref qf0) = true)
    (kg_ : PySem.W.specialIn K (.builtin "object.__class__") "__get__" = some (some (.builtin "getset_descriptor.__get__"))) (kt_ : PySem.W.takesIn K (.builtin "object.__class__") = some true)
    (k1_Leaf : PySem.W.findIn K (.ref C_Leaf) "__class__" = some (some (.builtin "object.__class__"))) (k4_Leaf : PySem.W.mroIn K C_Leaf (.type "object") = some true)
    (k1_Twig : PySem.W.findIn K (.ref C_Twig) "__class__" = some (some (.builtin "object.__class__"))) (k4_Twig : PySem.W.mroIn K C_Twig (.type "object") = some true)
    (k5_Leaf_Leaf : PySem.W.kitOne K (.ref C_Leaf) (.ref C_Leaf) = some true)
    (k5_Leaf_Twig : PySem.W.kitOne K (.ref C_Leaf) (.ref C_Twig) = some false)
    (k5_Twig_Leaf : PySem.W.kitOne K (.ref C_Twig) (.ref C_Leaf) = some false)
    (k5_Twig_Twig : PySem.W.kitOne K (.ref C_Twig) (.ref C_Twig) = some true)
    {C_TableError} (ac_TableError : PySem.W.nsIn K mainGlobals "TableError" = some (some (.ref C_TableError)))
    (e3_TableError : PySem.W.subIn K (.ref C_TableError) (.type "BaseException") = some true)
    (e4_TableError : PySem.W.typeIn K (.ref C_TableError) = some (.type "type"))
    (hd_TableError : PySem.W.hasDictIn K C_TableError = true)
    {C_NoPage} (ac_NoPage : PySem.W.nsIn K mainGlobals "NoPage" = some (some (.ref C_NoPage)))
    (e3_NoPage : PySem.W.subIn K (.ref C_NoPage) (.type "BaseException") = some true)
    (e4_NoPage : PySem.W.typeIn K (.ref C_NoPage) = some (.type "type"))
    (hd_NoPage : PySem.W.hasDictIn K C_NoPage = true)
    (e2_NoPage : PySem.W.keepIn K (.ref C_NoPage) = true)
    (ga_NoPage : PySem.W.findIn K (.ref C_NoPage) "__getattribute__" = some (some (.builtin "BaseException.__getattribute__")))
    (gg_NoPage : PySem.W.findIn K (.ref C_NoPage) "__getattr__" = some none)
    (k1_NoPage : PySem.W.findIn K (.ref C_NoPage) "__class__" = some (some (.builtin "object.__class__")))
    (k4_NoPage : PySem.W.mroIn K C_NoPage (.type "object") = some true)
    {nm_NoPage qn_NoPage : Str} {N_NoPage : Addr} {bs_NoPage bm_NoPage : List Value} {sn_NoPage : List Str} {sub_NoPage : List Value} {ab_NoPage : Bool} {col_NoPage : Option Bool} {dd_NoPage : Option Addr} {m0_NoPage m1_NoPage m2_NoPage m3_NoPage m5_NoPage : Option Value} (xL_NoPage : K.lookup C_NoPage = some (excClassObj nm_NoPage qn_NoPage C_NoPage N_NoPage bs_NoPage bm_NoPage true sn_NoPage sub_NoPage ab_NoPage col_NoPage dd_NoPage m0_NoPage m1_NoPage m2_NoPage m3_NoPage m5_NoPage "ValueError.__new__"))
    (rv_NoPage : PySem.HandSPX.refsVE bm_NoPage = true)
    (sa_NoPage : PySem.W.findIn K (.ref C_NoPage) "__setattr__" = some (some (.builtin "object.__setattr__")))
    (hn_NoPage_number : PySem.W.findIn K (.ref C_NoPage) "number" = some none)
    {fI_NoPage : Addr} (fi_NoPage : PySem.W.findIn K (.ref C_NoPage) "__init__" = some (some (.ref fI_NoPage)))
    (ft_NoPage : PySem.W.typeIn K (.ref fI_NoPage) = some (.type "function"))
    {xoc_NoPage xkV_NoPage xdc_NoPage xpm_NoPage xcd_NoPage xct_NoPage} {xod_NoPage xan_NoPage : Option Addr} {xsl_NoPage : Array (Option Value)} (xl_NoPage : K.lookup fI_NoPage = some ⟨xoc_NoPage, xod_NoPage, .func (PySem.W.fnOf "__init__" "NoPage.__init__" (defArgs s_NoPage_init) (defBody s_NoPage_init) (defScope s_NoPage_init) .none xkV_NoPage xdc_NoPage xpm_NoPage xan_NoPage xcd_NoPage xct_NoPage), xsl_NoPage⟩)
    (xc_NoPage : PySem.W.codeIn K xcd_NoPage "NoPage.__init__" = true)
    (xk_NoPage : PySem.W.keepIn K (.ref fI_NoPage) = true)
    {C_NoMake} (ac_NoMake : PySem.W.nsIn K mainGlobals "NoMake" = some (some (.ref C_NoMake)))
    (e3_NoMake : PySem.W.subIn K (.ref C_NoMake) (.type "BaseException") = some true)
    (e4_NoMake : PySem.W.typeIn K (.ref C_NoMake) = some (.type "type"))
    (hd_NoMake : PySem.W.hasDictIn K C_NoMake = true)
    (sx_NoPage_NoPage : PySem.W.subIn K (.ref C_NoPage) (.ref C_NoPage) = some true)
    (kx_NoPage_NoMake : PySem.W.kitOne K (.ref C_NoPage) (.ref C_NoMake) = some false)
    (kx_NoPage_TableError : PySem.W.kitOne K (.ref C_NoPage) (.ref C_TableError) = some true)
    (ky_NoPage_ValueError : PySem.W.kitOne K (.ref C_NoPage) (.type "ValueError") = some true)
    (z_ValueError : PySem.W.nsIn K mainGlobals "ValueError" = some none)
    (z_bool : PySem.W.nsIn K mainGlobals "bool" = some none)
    (z_int : PySem.W.nsIn K mainGlobals "int" = some none)
    (z_isinstance : PySem.W.nsIn K mainGlobals "isinstance" = some none)
    (z_len : PySem.W.nsIn K mainGlobals "len" = some none)
    (z_list : PySem.W.nsIn K mainGlobals "list" = some none)
    (z_max : PySem.W.nsIn K mainGlobals "max" = some none)
    (z_range : PySem.W.nsIn K mainGlobals "range" = some none)
    (z_sorted : PySem.W.nsIn K mainGlobals "sorted" = some none)
    (z_tuple : PySem.W.nsIn K mainGlobals "tuple" = some none)
    : Txt K mg ∧ Top K mg "_law_whole" s_l_whole ["_law_found"] ∧ Top K mg "_law_content" s_l_content ["_law_cell"] ∧ Top K mg "_law_made" s_l_made ["_law_told"] ∧ Top K mg "_law_refused" s_l_refused ["_law_store", "_law_way", "_law_number"] ∧ Top K mg "_law_page_as" s_l_page_as ["_law_store", "_law_number", "_law_told"] ∧ Top K mg "_law_kept" s_l_kept ["_law_store", "_law_account", "_law_told"] ∧ Top K mg "_law_deed" s_l_deed ["_law_store", "_law_account", "_law_cell"] ∧ Top K mg "_law_whole_store" s_l_whole_store ["_law_store", "_law_account"] ∧ Top K mg "law" s_law ["_law_script"] ∧ TopM K "Leaf" "entries" "Leaf.entries" s_Leaf_entries ["self"] ∧ TopM K "Twig" "entries" "Twig.entries" s_Twig_entries ["self"] ∧ TopM K "Leaf" "told" "Page.told" s_Page_told ["self"] ∧ TopM K "Twig" "told" "Page.told" s_Page_told ["self"] ∧ TopM K "Pages" "page" "Pages.page" s_Pages_page ["self", "number"] ∧ TopM K "Leaf" "first" "Page.first" s_Page_first ["self"] ∧ TopM K "Twig" "first" "Page.first" s_Page_first ["self"] ∧ TopM K "Pages" "card" "Pages.card" s_Pages_card ["self", "number"] ∧ TopM K "Pages" "drop" "Pages.drop" s_Pages_drop ["self", "number"] ∧ TopM K "Pages" "kept" "Pages.kept" s_Pages_kept ["self", "page"] ∧ TopM K "Pages" "skip" "Pages.skip" s_Pages_skip ["self", "count"] ∧ TopM K "Pages" "numbers" "Pages.numbers" s_Pages_numbers ["self"] ∧ TopM K "Pages" "dealt" "Pages.dealt" s_Pages_dealt ["self"] ∧ TopI K mg "Leaf" "Leaf.__init__" s_Leaf_init ["self", "rows"] ∧ TopI K mg "Twig" "Twig.__init__" s_Twig_init ["self", "level", "heads"] ∧ TopI K mg "Pages" "Pages.__init__" s_Pages_init ["self"] ∧ TopF K mg "Page" "__init__" "Page.__init__" s_Page_init ["self", "level"] ∧ TopE K mg "NoPage" "NoPage.__init__" s_NoPage_init ["self", "number"] ["number"] := by
  refine ⟨⟨clsP_mk ac_Leaf pg_Leaf hd_Leaf po_Leaf sa_Leaf, clsP_mk ac_Twig pg_Twig hd_Twig po_Twig sa_Twig, clsP_mk ac_Page pg_Page hd_Page po_Page sa_Page, clsP_mk ac_Pages pg_Pages hd_Pages po_Pages sa_Pages, noA_mk ac_Leaf na_Leaf_level, noA_mk ac_Twig na_Twig_level, noA_mk ac_Leaf na_Leaf_rows, noA_mk ac_Twig na_Twig_heads, noA_mk ac_Pages na_Pages_coming, noA_mk ac_Pages na_Pages_known, noA_mk ac_Pages na_Pages_standing, isoP_mk X G ac_Leaf ac_Leaf k1_Leaf kg_ kt_ k4_Leaf k5_Leaf_Leaf, isoP_mk X G ac_Leaf ac_Twig k1_Leaf kg_ kt_ k4_Leaf k5_Leaf_Twig, isoP_mk X G ac_Twig ac_Leaf k1_Twig kg_ kt_ k4_Twig k5_Twig_Leaf, isoP_mk X G ac_Twig ac_Twig k1_Twig kg_ kt_ k4_Twig k5_Twig_Twig, ⟨_, PySem.W.mg_of X G ac_NoPage⟩, xcP_mk X G ac_NoPage ac_NoPage e3_NoPage hd_NoPage e4_NoPage sx_NoPage_NoPage, xcI_mk X G ac_NoPage ac_NoMake (excQ_mk ga_NoPage gg_NoPage e3_NoPage hd_NoPage k1_NoPage kg_ kt_ k4_NoPage) kx_NoPage_NoMake, xcI_mk X G ac_NoPage ac_TableError (excQ_mk ga_NoPage gg_NoPage e3_NoPage hd_NoPage k1_NoPage kg_ kt_ k4_NoPage) kx_NoPage_TableError, xcB_mk X G ac_NoPage (excQ_mk ga_NoPage gg_NoPage e3_NoPage hd_NoPage k1_NoPage kg_ kt_ k4_NoPage) ky_NoPage_ValueError, xcF_mk X G ac_NoPage ga_NoPage gg_NoPage e3_NoPage hd_NoPage hn_NoPage_number, PySem.W.mg_none_of X G z_ValueError, PySem.W.mg_none_of X G z_bool, PySem.W.mg_none_of X G z_int, PySem.W.mg_none_of X G z_isinstance, PySem.W.mg_none_of X G z_len, PySem.W.mg_none_of X G z_list, PySem.W.mg_none_of X G z_max, PySem.W.mg_none_of X G z_range, PySem.W.mg_none_of X G z_sorted, PySem.W.mg_none_of X G z_tuple⟩, ?_, ?_, ?_, ?_, ?_, ?_, ?_, ?_, ?_, ?_, ?_, ?_, ?_, ?_, ?_, ?_, ?_, ?_, ?_, ?_, ?_, ?_, ?_, ?_, ?_, ?_, ?_⟩
  · exact top_mk X G a0 l0 c0 k0 fun _ _ _ _ _ _ us hl => match us, hl with | [_], _ => rfl
  · exact top_mk X G a1 l1 c1 k1 fun _ _ _ _ _ _ us hl => match us, hl with | [_], _ => rfl
  · exact top_mk X G a2 l2 c2 k2 fun _ _ _ _ _ _ us hl => match us, hl with | [_], _ => rfl
  · exact top_mk X G a3 l3 c3 k3 fun _ _ _ _ _ _ us hl => match us, hl with | [_, _, _], _ => rfl
  · exact top_mk X G a4 l4 c4 k4 fun _ _ _ _ _ _ us hl => match us, hl with | [_, _, _], _ => rfl
  · exact top_mk X G a5 l5 c5 k5 fun _ _ _ _ _ _ us hl => match us, hl with | [_, _, _], _ => rfl
  · exact top_mk X G a6 l6 c6 k6 fun _ _ _ _ _ _ us hl => match us, hl with | [_, _, _], _ => rfl
  · exact top_mk X G a7 l7 c7 k7 fun _ _ _ _ _ _ us hl => match us, hl with | [_, _], _ => rfl
  · exact top_mk X G a8 l8 c8 k8 fun _ _ _ _ _ _ us hl => match us, hl with | [_], _ => rfl
  · exact topM_mk ac_Leaf ma0 mi0 ml0 mc0 mq0 fun _ _ _ _ _ _ us hl => match us, hl with | [_], _ => rfl
  · exact topM_mk ac_Twig ma1 mi1 ml1 mc1 mq1 fun _ _ _ _ _ _ us hl => match us, hl with | [_], _ => rfl
  · exact topM_mk ac_Leaf ma2 mi2 ml2 mc2 mq2 fun _ _ _ _ _ _ us hl => match us, hl with | [_], _ => rfl
  · exact topM_mk ac_Twig ma3 mi3 ml3 mc3 mq3 fun _ _ _ _ _ _ us hl => match us, hl with | [_], _ => rfl
  · exact topM_mk ac_Pages ma4 mi4 ml4 mc4 mq4 fun _ _ _ _ _ _ us hl => match us, hl with | [_, _], _ => rfl
  · exact topM_mk ac_Leaf ma5 mi5 ml5 mc5 mq5 fun _ _ _ _ _ _ us hl => match us, hl with | [_], _ => rfl
  · exact topM_mk ac_Twig ma6 mi6 ml6 mc6 mq6 fun _ _ _ _ _ _ us hl => match us, hl with | [_], _ => rfl
  · exact topM_mk ac_Pages ma7 mi7 ml7 mc7 mq7 fun _ _ _ _ _ _ us hl => match us, hl with | [_, _], _ => rfl
  · exact topM_mk ac_Pages ma8 mi8 ml8 mc8 mq8 fun _ _ _ _ _ _ us hl => match us, hl with | [_, _], _ => rfl
  · exact topM_mk ac_Pages ma9 mi9 ml9 mc9 mq9 fun _ _ _ _ _ _ us hl => match us, hl with | [_, _], _ => rfl
  · exact topM_mk ac_Pages ma10 mi10 ml10 mc10 mq10 fun _ _ _ _ _ _ us hl => match us, hl with | [_, _], _ => rfl
  · exact topM_mk ac_Pages ma11 mi11 ml11 mc11 mq11 fun _ _ _ _ _ _ us hl => match us, hl with | [_], _ => rfl
  · exact topM_mk ac_Pages ma12 mi12 ml12 mc12 mq12 fun _ _ _ _ _ _ us hl => match us, hl with | [_], _ => rfl
  · exact topI_mk X G ac_Leaf ma13 mi13 ml13 mc13 mq13 mk_Leaf kc_Leaf fun _ _ _ _ _ _ us hl => match us, hl with | [_, _], _ => rfl
  · exact topI_mk X G ac_Twig ma14 mi14 ml14 mc14 mq14 mk_Twig kc_Twig fun _ _ _ _ _ _ us hl => match us, hl with | [_, _, _], _ => rfl
  · exact topI_mk X G ac_Pages ma15 mi15 ml15 mc15 mq15 mk_Pages kc_Pages fun _ _ _ _ _ _ us hl => match us, hl with | [_], _ => rfl
  · exact topF_mk X G ac_Page rd_Page sg_Page qa0 ql0 qc0 qq0 fun _ _ _ _ _ _ us hl => match us, hl with | [_, _], _ => rfl
  · exact topE_mk X G ac_NoPage xL_NoPage rv_NoPage sa_NoPage e3_NoPage e4_NoPage e2_NoPage (by simp only [List.mem_cons, List.not_mem_nil, or_false]; rintro n (rfl); exact hn_NoPage_number) fi_NoPage ft_NoPage xl_NoPage xc_NoPage xk_NoPage fun _ _ _ _ _ _ us hl => match us, hl with | [_, _], _ => rfl
theorem walk {l : PySem.W.OpenLaw} {q : Program} {loose : List Str} {XP : (Str → Option Value) → Heap → Prop} {YP : World → Heap → Prop} {d : DefRec} {K : Params → PySem.W.Frag} (hn : l.most = some 63) (hdf : d.params.defaults = []) (hd : d.name = "law")
    (hY : ∀ (w : World) (h : Heap), YP w h → (K w.params).In h)
    (F : ∀ (w : World) (mg : Str → Option Value) (h : Heap), (K w.params).In h → h.Ns mainGlobals mg → Txt (K w.params) mg ∧ Top (K w.params) mg "_law_whole" s_l_whole ["_law_found"] ∧ Top (K w.params) mg "_law_content" s_l_content ["_law_cell"] ∧ Top (K w.params) mg "_law_made" s_l_made ["_law_told"] ∧ Top (K w.params) mg "_law_refused" s_l_refused ["_law_store", "_law_way", "_law_number"] ∧ Top (K w.params) mg "_law_page_as" s_l_page_as ["_law_store", "_law_number", "_law_told"] ∧ Top (K w.params) mg "_law_kept" s_l_kept ["_law_store", "_law_account", "_law_told"] ∧ Top (K w.params) mg "_law_deed" s_l_deed ["_law_store", "_law_account", "_law_cell"] ∧ Top (K w.params) mg "_law_whole_store" s_l_whole_store ["_law_store", "_law_account"] ∧ Top (K w.params) mg "law" s_law ["_law_script"] ∧ TopM (K w.params) "Leaf" "entries" "Leaf.entries" s_Leaf_entries ["self"] ∧ TopM (K w.params) "Twig" "entries" "Twig.entries" s_Twig_entries ["self"] ∧ TopM (K w.params) "Leaf" "told" "Page.told" s_Page_told ["self"] ∧ TopM (K w.params) "Twig" "told" "Page.told" s_Page_told ["self"] ∧ TopM (K w.params) "Pages" "page" "Pages.page" s_Pages_page ["self", "number"] ∧ TopM (K w.params) "Leaf" "first" "Page.first" s_Page_first ["self"] ∧ TopM (K w.params) "Twig" "first" "Page.first" s_Page_first ["self"] ∧ TopM (K w.params) "Pages" "card" "Pages.card" s_Pages_card ["self", "number"] ∧ TopM (K w.params) "Pages" "drop" "Pages.drop" s_Pages_drop ["self", "number"] ∧ TopM (K w.params) "Pages" "kept" "Pages.kept" s_Pages_kept ["self", "page"] ∧ TopM (K w.params) "Pages" "skip" "Pages.skip" s_Pages_skip ["self", "count"] ∧ TopM (K w.params) "Pages" "numbers" "Pages.numbers" s_Pages_numbers ["self"] ∧ TopM (K w.params) "Pages" "dealt" "Pages.dealt" s_Pages_dealt ["self"] ∧ TopI (K w.params) mg "Leaf" "Leaf.__init__" s_Leaf_init ["self", "rows"] ∧ TopI (K w.params) mg "Twig" "Twig.__init__" s_Twig_init ["self", "level", "heads"] ∧ TopI (K w.params) mg "Pages" "Pages.__init__" s_Pages_init ["self"] ∧ TopF (K w.params) mg "Page" "__init__" "Page.__init__" s_Page_init ["self", "level"] ∧ TopE (K w.params) mg "NoPage" "NoPage.__init__" s_NoPage_init ["self", "number"] ["number"])
    (hF : ∀ (w : World) (ns : List Int), ns.length ≤ 63 → (∀ z ∈ ns, Builtin.Int.intBits z ≤ 1048576) → (F_law w) [.lst (ns.map D.int)] [] = some (.bl true)) :
    PySem.W.WalkO q loose XP YP l.row.toRowW d [] (fun f vs => PySem.call f vs) := by
  refine law_endW (k := 7) (x := "_law_script") hn hdf hd ⟨rfl, by decide, by decide⟩ hY (fun w mg h X G => ?_) hF
  obtain ⟨T, t_l_whole, t_l_content, t_l_made, t_l_refused, t_l_page_as, t_l_kept, t_l_deed, t_l_whole_store, t_law, tm_Leaf_entries, tm_Twig_entries, tm_Leaf_told, tm_Twig_told, tm_Pages_page, tm_Leaf_first, tm_Twig_first, tm_Pages_card, tm_Pages_drop, tm_Pages_kept, tm_Pages_skip, tm_Pages_numbers, tm_Pages_dealt, tm_Leaf_init, tm_Twig_init, tm_Pages_init, tf_Page_init, te_NoPage⟩ := F w mg h X G
  refine ok_law T t_law fun base X0 G0 => ?_
  have e1_NoPage : Xc1 l.prog w (K w.params) mg base "NoPage" ["number"] 1 := oke_NoPage te_NoPage
  have cf_Page_init : CfQ l.prog w (K w.params) mg base "Page" "__init__" 1 (SpS (K w.params) 2 F_Page_init) := okcf_Page_init T tf_Page_init
  have m_Leaf_entries : Met l.prog w (K w.params) mg base "Leaf" "entries" 1 (SpP (K w.params) 1 F_Leaf_entries) := ok_Leaf_entries T tm_Leaf_entries
  have m_Twig_entries : Met l.prog w (K w.params) mg base "Twig" "entries" 1 (SpP (K w.params) 1 F_Twig_entries) := ok_Twig_entries T tm_Twig_entries
  have m_Leaf_told : Met l.prog w (K w.params) mg base "Leaf" "told" 2 (SpP (K w.params) 1 F_Page_told) := ok_Page_told T tm_Leaf_told m_Leaf_entries m_Twig_entries
  have m_Twig_told : Met l.prog w (K w.params) mg base "Twig" "told" 2 (SpP (K w.params) 1 F_Page_told) := ok_Page_told T tm_Twig_told m_Leaf_entries m_Twig_entries
  have m_Leaf_first : Met l.prog w (K w.params) mg base "Leaf" "first" 2 (SpP (K w.params) 1 F_Page_first) := ok_Page_first T tm_Leaf_first m_Leaf_entries m_Twig_entries
  have m_Twig_first : Met l.prog w (K w.params) mg base "Twig" "first" 2 (SpP (K w.params) 1 F_Page_first) := ok_Page_first T tm_Twig_first m_Leaf_entries m_Twig_entries
  have mk_Leaf : MkQ l.prog w (K w.params) mg base "Leaf" 2 (SpS (K w.params) 2 F_Leaf_init) := ok_Leaf_init T tm_Leaf_init cf_Page_init
  have mk_Twig : MkQ l.prog w (K w.params) mg base "Twig" 2 (SpS (K w.params) 3 F_Twig_init) := ok_Twig_init T tm_Twig_init cf_Page_init
  have mk_Pages : MkQ l.prog w (K w.params) mg base "Pages" 1 (SpS (K w.params) 1 (F_Pages_init w)) := ok_Pages_init T tm_Pages_init
  have m_Pages_kept : Met l.prog w (K w.params) mg base "Pages" "kept" 3 (SpS (K w.params) 2 (F_Pages_kept w)) := ok_Pages_kept T tm_Pages_kept m_Leaf_told m_Twig_told
  have m_Pages_page : Met l.prog w (K w.params) mg base "Pages" "page" 1 (SpP (K w.params) 2 F_Pages_page) := ok_Pages_page T tm_Pages_page
  have m_Pages_card : Met l.prog w (K w.params) mg base "Pages" "card" 3 (SpP (K w.params) 2 F_Pages_card) := ok_Pages_card T tm_Pages_card m_Pages_page m_Leaf_first m_Twig_first
  have m_Pages_numbers : Met l.prog w (K w.params) mg base "Pages" "numbers" 1 (SpN (K w.params) 1 F_Pages_numbers) := ok_Pages_numbers T tm_Pages_numbers
  have m_Pages_dealt : Met l.prog w (K w.params) mg base "Pages" "dealt" 1 (SpP (K w.params) 1 F_Pages_dealt) := ok_Pages_dealt T tm_Pages_dealt
  have m_Pages_skip : Met l.prog w (K w.params) mg base "Pages" "skip" 1 (SpS (K w.params) 2 F_Pages_skip) := ok_Pages_skip T tm_Pages_skip
  have m_Pages_drop : Met l.prog w (K w.params) mg base "Pages" "drop" 3 (SpS (K w.params) 2 (F_Pages_drop w)) := ok_Pages_drop T tm_Pages_drop m_Pages_page m_Leaf_told m_Twig_told
  have c_l_whole : FnP l.prog w (K w.params) mg base "_law_whole" 1 1 F_l_whole := ok_l_whole T t_l_whole
  have c_l_content : FnP l.prog w (K w.params) mg base "_law_content" 1 1 F_l_content := ok_l_content T t_l_content
  have c_l_made : FnS l.prog w (K w.params) mg base "_law_made" 1 4 F_l_made := ok_l_made T t_l_made mk_Leaf mk_Twig
  have mx_Pages_page : MetX l.prog w (K w.params) mg base "Pages" "page" 2 3 X_Pages_page := okx_Pages_page T tm_Pages_page e1_NoPage
  have mx_Pages_card : MetX l.prog w (K w.params) mg base "Pages" "card" 2 4 X_Pages_card := okx_Pages_card T tm_Pages_card m_Leaf_first m_Twig_first mx_Pages_page
  have mx_Pages_drop : MetX l.prog w (K w.params) mg base "Pages" "drop" 2 4 (X_Pages_drop w) := okx_Pages_drop T tm_Pages_drop m_Leaf_told m_Twig_told mx_Pages_page
  have c_l_refused : FnS l.prog w (K w.params) mg base "_law_refused" 3 5 (F_l_refused w) := ok_l_refused T t_l_refused mx_Pages_page mx_Pages_card mx_Pages_drop
  have c_l_page_as : FnP l.prog w (K w.params) mg base "_law_page_as" 3 4 F_l_page_as := ok_l_page_as T t_l_page_as m_Pages_page m_Pages_card m_Leaf_told m_Twig_told
  have c_l_kept : FnS l.prog w (K w.params) mg base "_law_kept" 3 5 (F_l_kept w) := ok_l_kept T t_l_kept c_l_made c_l_whole m_Pages_kept
  have c_l_deed : FnS l.prog w (K w.params) mg base "_law_deed" 3 6 (F_l_deed w) := ok_l_deed T t_l_deed c_l_kept c_l_content c_l_refused c_l_page_as m_Pages_drop m_Pages_skip
  have c_l_whole_store : FnP l.prog w (K w.params) mg base "_law_whole_store" 2 6 (F_l_whole_store w) := ok_l_whole_store T t_l_whole_store c_l_whole c_l_page_as c_l_refused m_Pages_numbers m_Pages_dealt
  exact ⟨c_l_deed, c_l_whole_store, m_Pages_dealt, mk_Pages, trivial⟩
end Wktwigtable_k13_a_store
open PySem PySem.W PyProof.Rows
set_option maxRecDepth 100000 in
set_option maxHeartbeats 0 in
theorem PySem.Challenge.cw_twigtable_k13_a_store_holds : PySem.Challenge.rw_twigtable_k13_a_store.Holds := by
  w_on; o_law; k_head; (case hw => w_witness2)
  k_fill
  refine Wktwigtable_k13_a_store.walk (l := PySem.Challenge.rw_twigtable_k13_a_store) rfl rfl rfl (fun w h Y => PySem.W.kIn_of Y) ?F My.law_true
  case F =>
    intro w mg h KX G
    refine' Wktwigtable_k13_a_store.all_mk KX G ?a0 ?l0 ?c0 ?k0 ?a1 ?l1 ?c1 ?k1 ?a2 ?l2 ?c2 ?k2 ?a3 ?l3 ?c3 ?k3 ?a4 ?l4 ?c4 ?k4 ?a5 ?l5 ?c5 ?k5 ?a6 ?l6 ?c6 ?k6 ?a7 ?l7 ?c7 ?k7 ?a8 ?l8 ?c8 ?k8 ?ac_Leaf ?pg_Leaf ?hd_Leaf ?po_Leaf ?sa_Leaf ?ac_Twig ?pg_Twig ?hd_Twig ?po_Twig ?sa_Twig ?ac_Page ?pg_Page ?hd_Page ?po_Page ?sa_Page ?ac_Pages ?pg_Pages ?hd_Pages ?po_Pages ?sa_Pages ?mk_Leaf ?kc_Leaf ?mk_Twig ?kc_Twig ?mk_Pages ?kc_Pages ?na_Leaf_level ?na_Twig_level ?na_Leaf_rows ?na_Twig_heads ?na_Pages_coming ?na_Pages_known ?na_Pages_standing ?ma0 ?mi0 ?ml0 ?mc0 ?mq0 ?ma1 ?mi1 ?ml1 ?mc1 ?mq1 ?ma2 ?mi2 ?ml2 ?mc2 ?mq2 ?ma3 ?mi3 ?ml3 ?mc3 ?mq3 ?ma4 ?mi4 ?ml4 ?mc4 ?mq4 ?ma5 ?mi5 ?ml5 ?mc5 ?mq5 ?ma6 ?mi6 ?ml6 ?mc6 ?mq6 ?ma7 ?mi7 ?ml7 ?mc7 ?mq7 ?ma8 ?mi8 ?ml8 ?mc8 ?mq8 ?ma9 ?mi9 ?ml9 ?mc9 ?mq9 ?ma10 ?mi10 ?ml10 ?mc10 ?mq10 ?ma11 ?mi11 ?ml11 ?mc11 ?mq11 ?ma12 ?mi12 ?ml12 ?mc12 ?mq12 ?ma13 ?mi13 ?ml13 ?mc13 ?mq13 ?ma14 ?mi14 ?ml14 ?mc14 ?mq14 ?ma15 ?mi15 ?ml15 ?mc15 ?mq15 ?rd_Page ?sg_Page ?qa0 ?ql0 ?qc0 ?qq0 ?kg_ ?kt_ ?k1_Leaf ?k4_Leaf ?k1_Twig ?k4_Twig ?k5_Leaf_Leaf ?k5_Leaf_Twig ?k5_Twig_Leaf ?k5_Twig_Twig ?ac_TableError ?e3_TableError ?e4_TableError ?hd_TableError ?ac_NoPage ?e3_NoPage ?e4_NoPage ?hd_NoPage ?e2_NoPage ?ga_NoPage ?gg_NoPage ?k1_NoPage ?k4_NoPage ?xL_NoPage ?rv_NoPage ?sa_NoPage ?hn_NoPage_number ?fi_NoPage ?ft_NoPage ?xl_NoPage ?xc_NoPage ?xk_NoPage ?ac_NoMake ?e3_NoMake ?e4_NoMake ?hd_NoMake ?sx_NoPage_NoPage ?kx_NoPage_NoMake ?kx_NoPage_TableError ?ky_NoPage_ValueError ?z_ValueError ?z_bool ?z_int ?z_isinstance ?z_len ?z_list ?z_max ?z_range ?z_sorted ?z_tuple
    (case a0 => k_is)
    (case l0 => k_is)
    (case c0 => k_is)
    (case k0 => k_is)
    (case a1 => k_is)
    (case l1 => k_is)
    (case c1 => k_is)
    (case k1 => k_is)
    (case a2 => k_is)
    (case l2 => k_is)
    (case c2 => k_is)
    (case k2 => k_is)
    (case a3 => k_is)
    (case l3 => k_is)
    (case c3 => k_is)
    (case k3 => k_is)
    (case a4 => k_is)
    (case l4 => k_is)
    (case c4 => k_is)
    (case k4 => k_is)
    (case a5 => k_is)
    (case l5 => k_is)
    (case c5 => k_is)
    (case k5 => k_is)
    (case a6 => k_is)
    (case l6 => k_is)
    (case c6 => k_is)
    (case k6 => k_is)
    (case a7 => k_is)
    (case l7 => k_is)
    (case c7 => k_is)
    (case k7 => k_is)
    (case a8 => k_is)
    (case l8 => k_is)
    (case c8 => k_is)
    (case k8 => k_is)
    (case ac_Leaf => k_is)
    (case pg_Leaf => k_is)
    (case hd_Leaf => k_is)
    (case po_Leaf => k_is)
    (case sa_Leaf => k_is)
    (case ac_Twig => k_is)
    (case pg_Twig => k_is)
    (case hd_Twig => k_is)
    (case po_Twig => k_is)
    (case sa_Twig => k_is)
    (case ac_Page => k_is)
    (case pg_Page => k_is)
    (case hd_Page => k_is)
    (case po_Page => k_is)
    (case sa_Page => k_is)
    (case ac_Pages => k_is)
    (case pg_Pages => k_is)
    (case hd_Pages => k_is)
    (case po_Pages => k_is)
    (case sa_Pages => k_is)
    (case mk_Leaf => k_is)
    (case kc_Leaf => k_is)
    (case mk_Twig => k_is)
    (case kc_Twig => k_is)
    (case mk_Pages => k_is)
    (case kc_Pages => k_is)
    (case na_Leaf_level => k_is)
    (case na_Twig_level => k_is)
    (case na_Leaf_rows => k_is)
    (case na_Twig_heads => k_is)
    (case na_Pages_coming => k_is)
    (case na_Pages_known => k_is)
    (case na_Pages_standing => k_is)
    (case ma0 => k_is)
    (case mi0 => k_is)
    (case ml0 => k_is)
    (case mc0 => k_is)
    (case mq0 => k_is)
    (case ma1 => k_is)
    (case mi1 => k_is)
    (case ml1 => k_is)
    (case mc1 => k_is)
    (case mq1 => k_is)
    (case ma2 => k_is)
    (case mi2 => k_is)
    (case ml2 => k_is)
    (case mc2 => k_is)
    (case mq2 => k_is)
    (case ma3 => k_is)
    (case mi3 => k_is)
    (case ml3 => k_is)
    (case mc3 => k_is)
    (case mq3 => k_is)
    (case ma4 => k_is)
    (case mi4 => k_is)
    (case ml4 => k_is)
    (case mc4 => k_is)
    (case mq4 => k_is)
    (case ma5 => k_is)
    (case mi5 => k_is)
    (case ml5 => k_is)
    (case mc5 => k_is)
    (case mq5 => k_is)
    (case ma6 => k_is)
    (case mi6 => k_is)
    (case ml6 => k_is)
    (case mc6 => k_is)
    (case mq6 => k_is)
    (case ma7 => k_is)
    (case mi7 => k_is)
    (case ml7 => k_is)
    (case mc7 => k_is)
    (case mq7 => k_is)
    (case ma8 => k_is)
    (case mi8 => k_is)
    (case ml8 => k_is)
    (case mc8 => k_is)
    (case mq8 => k_is)
    (case ma9 => k_is)
    (case mi9 => k_is)
    (case ml9 => k_is)
    (case mc9 => k_is)
    (case mq9 => k_is)
    (case ma10 => k_is)
    (case mi10 => k_is)
    (case ml10 => k_is)
    (case mc10 => k_is)
    (case mq10 => k_is)
    (case ma11 => k_is)
    (case mi11 => k_is)
    (case ml11 => k_is)
    (case mc11 => k_is)
    (case mq11 => k_is)
    (case ma12 => k_is)
    (case mi12 => k_is)
    (case ml12 => k_is)
    (case mc12 => k_is)
    (case mq12 => k_is)
    (case ma13 => k_is)
    (case mi13 => k_is)
    (case ml13 => k_is)
    (case mc13 => k_is)
    (case mq13 => k_is)
    (case ma14 => k_is)
    (case mi14 => k_is)
    (case ml14 => k_is)
    (case mc14 => k_is)
    (case mq14 => k_is)
    (case ma15 => k_is)
    (case mi15 => k_is)
    (case ml15 => k_is)
    (case mc15 => k_is)
    (case mq15 => k_is)
    (case rd_Page => k_is)
    (case sg_Page => k_is)
    (case qa0 => k_is)
    (case ql0 => k_is)
    (case qc0 => k_is)
    (case qq0 => k_is)
    (case kg_ => k_is)
    (case kt_ => k_is)
    (case k1_Leaf => k_is)
    (case k4_Leaf => k_is)
    (case k1_Twig => k_is)
    (case k4_Twig => k_is)
    (case k5_Leaf_Leaf => kit_is)
    (case k5_Leaf_Twig => kit_is)
    (case k5_Twig_Leaf => kit_is)
    (case k5_Twig_Twig => kit_is)
    (case ac_TableError => k_is)
    (case e3_TableError => k_is)
    (case e4_TableError => k_is)
    (case hd_TableError => k_is)
    (case ac_NoPage => k_is)
    (case e3_NoPage => k_is)
    (case e4_NoPage => k_is)
    (case hd_NoPage => k_is)
    (case e2_NoPage => k_is)
    (case ga_NoPage => k_is)
    (case gg_NoPage => k_is)
    (case k1_NoPage => k_is)
    (case k4_NoPage => k_is)
    (case xL_NoPage => k_is)
    (case rv_NoPage => first | rfl | decide +kernel)
    (case sa_NoPage => k_is)
    (case hn_NoPage_number => k_is)
    (case fi_NoPage => k_is)
    (case ft_NoPage => k_is)
    (case xl_NoPage => k_is)
    (case xc_NoPage => k_is)
    (case xk_NoPage => k_is)
    (case ac_NoMake => k_is)
    (case e3_NoMake => k_is)
    (case e4_NoMake => k_is)
    (case hd_NoMake => k_is)
    (case sx_NoPage_NoPage => first | k_is | rfl)
    (case kx_NoPage_NoMake => kit_is)
    (case kx_NoPage_TableError => kit_is)
    (case ky_NoPage_ValueError => kit_is)
    (case z_ValueError => k_is)
    (case z_bool => k_is)
    (case z_int => k_is)
    (case z_isinstance => k_is)
    (case z_len => k_is)
    (case z_list => k_is)
    (case z_max => k_is)
    (case z_range => k_is)
    (case z_sorted => k_is)
    (case z_tuple => k_is)

